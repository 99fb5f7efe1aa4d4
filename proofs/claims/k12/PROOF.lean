import PyProof.Rows.All
import Wide.All
import OpenK.AllK
import Wide.FinOn
import HandS.ForMost
import HandS.Walk
import HandS.Wide
import HandS.Gcd
import HandS.Defaults
import HandS.IsInst
import HandS.HeadEnd
import HandS.Head0
import HandS.Head1
import HandS.Head2
import HandS.HeadHook1
import HandS.HeadHook2
import HandS.Remove
import HandS.TupAny
import HandS.TupMul
import HandS.Deep
import HandS.Conv
import HandS.SetFor
import HandS.SortInts
import HandS.Dict
import HandS.Rev
import HandS.Zip
import KE.GoesEnum
import KE.DataMinMax
import KE.DatumOrd
import KE.SortData
import KE.KTupSum
import KE.DatumIndex
import HandS.TryOnly
import KE.DataCmp
import HandS.Style
import KE.GoesZip
import KE.GoesMore
import HandS.CallLocal
import KE.KRevSl
import HandS.DictComp
import HandS.Sort
import HandS.Iter
import HandS.DictTup
import KE.KDictDisplayH
import KE.KDictCopyH
import KE.KDictOf
import HandS.ExcValue
import KE.KDictSum
import HandS.HeadHook3
import HandS.Strs
import PyProof.Rows.SetFrom
import KE.KDictZip
import HandS.GenList
import KE.DataFind
import HandS.SetBool
import HandS.Flow
import HandS.AnyAll
import HandS.HeadWalk
import HandS.HeadHook4
import KE.KIndexOf
import HandS.Head3
import PySem.Challenge.RW_fairparts_k12_whole_rooms
set_option Elab.async false
set_option linter.all false
set_option maxRecDepth 100000
set_option maxHeartbeats 2000000
namespace TW
open PySem PySem.Spec PyProof.Rows L2

/-! ## 1. heaps seen in part -/
abbrev Sg := L2.St
def Ext (H H' : Hp) : Prop := ∀ a o, H a = some o → H' a = some o
/-- no code's table -/
def NT : HO → Prop
  | .tbl _ => False
  | _ => True
/-- .. but for codes' tables -/
structure ExtT (H H' : Hp) : Prop where
  on : ∀ a o, NT o → H a = some o → H' a = some o
theorem Ext.t {H H' : Hp} (e : Ext H H') : ExtT H H' := ⟨fun a o _ h => e a o h⟩
theorem ExtT.ap {H H' : Hp} (e : ExtT H H') (a : Addr) (o : HO) (h : H a = some o) (nt : NT o := by exact trivial) : H' a = some o := e.on a o nt h
theorem ExtT.refl (H : Hp) : ExtT H H := ⟨fun _ _ _ h => h⟩
theorem ExtT.trans {H H1 H2 : Hp} (a : ExtT H H1) (b : ExtT H1 H2) : ExtT H H2 := ⟨fun x o n h => b.on x o n (a.on x o n h)⟩
theorem Ext.refl (H : Hp) : Ext H H := fun _ _ h => h
theorem Ext.trans {H H1 H2 : Hp} (a : Ext H H1) (b : Ext H1 H2) : Ext H H2 := fun x o h => b x o (a x o h)
theorem Ext.new {H : Hp} {p : Addr} {o : HO} (h : H p = none) : Ext H (upd H p o) := fun a u e => by
  rw [upd_ne (ne_of_none e h)]; exact e
open Classical in
noncomputable def hid (P : Addr → Prop) (H : Hp) : Hp := fun a => if P a then none else H a
theorem hid_some {P : Addr → Prop} {H : Hp} {a : Addr} {o : HO} : hid P H a = some o ↔ ¬ P a ∧ H a = some o := by
  unfold hid; split <;> simp_all
theorem hid_ext {P P' : Addr → Prop} {H H' : Hp} (hP : ∀ a o, H a = some o → P' a → P a) (hH : ∀ a o, ¬ P a → H a = some o → H' a = some o) : Ext (hid P H) (hid P' H') := fun a o h => by
  rw [hid_some] at h ⊢
  exact ⟨fun q => h.1 (hP a o h.2 q), hH a o h.1 h.2⟩
def notTup : HO → Prop
  | .tup _ => False
  | .frz _ u => notTup u
  | _ => True
def mutAt (H : Hp) (a : Addr) : Prop := ∃ o, H a = some o ∧ notTup o

structure SP where
  P : Hp → V → Prop
  monoT : ∀ {H H' v}, ExtT H H' → P H v → P H' v
theorem SP.mono (p : SP) {H H' : Hp} {v : V} (e : Ext H H') (h : p.P H v) : p.P H' v := p.monoT e.t h
structure Rp (α : Type) where
  r : Hp → V → α → Prop
  monoT : ∀ {H H' v a}, ExtT H H' → r H v a → r H' v a
theorem Rp.mono {α : Type} (R : Rp α) {H H' : Hp} {v : V} {a : α} (e : Ext H H') (h : R.r H v a) : R.r H' v a := R.monoT e.t h
def Rp.at {α : Type} (R : Rp α) (a : α) : SP := ⟨fun H v => R.r H v a, R.monoT⟩
/-- no mutable object in it -/
class Im {α : Type} (R : Rp α) : Prop where
  im : ∀ {H v a}, R.r H v a → R.r (hid (mutAt H) H) v a
inductive Md | n | s | b
  deriving DecidableEq
structure OP where
  md : Md
  P : List Addr → Hp → Hp → V → Prop
  frameT : ∀ {A H H' V V' v}, (∀ a ∈ A, H' a = H a) → ExtT V V' → P A H V v → P A H' V' v
  obj : ∀ {A H V v}, P A H V v → ∀ a ∈ A, mutAt H a
theorem OP.frame (p : OP) {A : List Addr} {H H' V V' : Hp} {v : L2.V} (e : ∀ a ∈ A, H' a = H a) (x : Ext V V') (h : p.P A H V v) : p.P A H' V' v := p.frameT e x.t h
inductive Sl
  | un | sh (m : Md) (p : SP) | ow (p : OP) | io
abbrev Ctx := List Sl
structure Tm where
  v : V
  m : Md
  p : SP
structure Fm where
  H0 : Hp
  I : List Addr
  G : List (Addr × HO)
/-- a list under way -/
def ghst (F : Fm) (a : Addr) : Prop := ∃ o, (a, o) ∈ F.G
def hB (F : Fm) (B : List Addr) (a : Addr) : Prop := a ∈ B ∨ ghst F a
def StP (B : List Addr) (H : Hp) : Prop := ∃ (a c : Addr) (ns : List Int) (sd : Int), B = [a, c] ∧ a ≠ c ∧ H a = some (.lst [V.ref c, V.int sd]) ∧ H c = some (.lst (ns.map V.int))
theorem StP.frame {B : List Addr} {H H' : Hp} (h : StP B H) (e : ∀ a ∈ B, H' a = H a) : StP B H' := by
  obtain ⟨a, c, ns, sd, rfl, n, h1, h2⟩ := h
  exact ⟨a, c, ns, sd, rfl, n, by rw [e a (by simp)]; exact h1, by rw [e c (by simp)]; exact h2⟩
theorem StP.obj {B : List Addr} {H : Hp} (h : StP B H) : ∀ a ∈ B, mutAt H a := by
  obtain ⟨a, c, ns, sd, rfl, n, h1, h2⟩ := h
  intro b hb
  simp at hb
  rcases hb with rfl | rfl
  · exact ⟨_, h1, trivial⟩
  · exact ⟨_, h2, trivial⟩

def vP (F : Fm) (A : Nat → List Addr) (B : List Addr) : Md → Addr → Prop
  | .b => fun a => hB F B a
  | .s => fun a => hB F B a ∨ ∃ i, a ∈ A i
  | .n => fun a => (hB F B a ∨ ∃ i, a ∈ A i) ∨ mutAt F.H0 a
noncomputable def view (F : Fm) (A : Nat → List Addr) (B : List Addr) (m : Md) (H : Hp) : Hp := hid (vP F A B m) H
theorem vP_B {F : Fm} {A : Nat → List Addr} {B : List Addr} {m : Md} {a : Addr} (h : a ∈ B) : vP F A B m a := by
  cases m
  · exact .inl (.inl (.inl h))
  · exact .inl (.inl h)
  · exact .inl h
def slOk (F : Fm) (A : Nat → List Addr) (B : List Addr) (c : Ctx) (σ : Sg) (H : Hp) (i : Nat) : Prop :=
  match c[i]? with
  | some (.sh m p) => A i = [] ∧ ∃ v, σ[i]? = some (some v) ∧ p.P (view F A B m H) v
  | some (.ow p) => ∃ v, σ[i]? = some (some v) ∧ p.P (A i) H (view F A B p.md H) v
  | some .io => A i = [] ∧ ∃ a r, σ[i]? = some (some (V.ref a)) ∧ B = a :: r
  | _ => A i = []
structure HdA (F : Fm) (c : Ctx) (T : List Tm) (σ : Sg) (H : Hp) (A : Nat → List Addr) (B : List Addr) : Prop where
  len : c.length = σ.length
  sl : ∀ i, slOk F A B c σ H i
  tm : ∀ t ∈ T, t.p.P (view F A B t.m H) t.v
  dj : ∀ i j a, a ∈ A i → a ∈ A j → i = j
  db : ∀ i a, a ∈ A i → ¬ hB F B a
  iq : F.I = [] ∨ F.I = B
  fr : ∀ a o, F.H0 a = some o → a ∉ F.I → H a = some o
  ni : ∀ a, (hB F B a ∨ ∃ i, a ∈ A i) → a ∉ F.I → F.H0 a = none
  st : B = [] ∨ StP B H
  gb : ∀ a, ghst F a → a ∉ B
  gh : ∀ p ∈ F.G, H p.1 = some p.2 ∧ notTup p.2
def HD (F : Fm) (c : Ctx) (T : List Tm) (σ : Sg) (H : Hp) : Prop := ∃ A B, HdA F c T σ H A B

section
variable {F : Fm} {c : Ctx} {T : List Tm} {σ : Sg} {H H' : Hp} {A : Nat → List Addr} {B : List Addr}
theorem HdA.io (h : HdA F c T σ H A B) : ∀ a ∈ F.I, a ∈ B := fun a ha => by
  rcases h.iq with e | e
  · rw [e] at ha; simp at ha
  · rw [← e]; exact ha
theorem HdA.objB (h : HdA F c T σ H A B) : ∀ a ∈ B, mutAt H a := by
  rcases h.st with e | e
  · subst e; intro a ha; simp at ha
  · exact e.obj
theorem HdA.objA (h : HdA F c T σ H A B) {i : Nat} : ∀ a ∈ A i, mutAt H a := by
  intro a ha
  have q := h.sl i
  unfold slOk at q
  split at q
  · rw [q.1] at ha; simp at ha
  · obtain ⟨v, _, hp⟩ := q; exact OP.obj _ hp a ha
  · rw [q.1] at ha; simp at ha
  · rw [q] at ha; simp at ha
theorem HdA.own (h : HdA F c T σ H A B) : ∀ a, (hB F B a ∨ ∃ i, a ∈ A i) → mutAt H a := by
  rintro a ((ha | ⟨o, ha⟩) | ⟨i, ha⟩)
  · exact h.objB a ha
  · exact ⟨o, h.gh _ ha⟩
  · exact h.objA a ha
theorem HdA.mut0 (h : HdA F c T σ H A B) : ∀ a, mutAt F.H0 a → mutAt H a := by
  rintro a ⟨o, e, n⟩
  by_cases hi : a ∈ F.I
  · exact h.objB a (h.io a hi)
  · exact ⟨o, h.fr a o e hi, n⟩
theorem view_some {m : Md} {a : Addr} {o : HO} : view F A B m H a = some o ↔ ¬ vP F A B m a ∧ H a = some o := hid_some
theorem view_ns : Ext (view F A B .n H) (view F A B .s H) := hid_ext (fun _ _ _ q => .inl q) fun _ _ _ q => q
theorem view_sb : Ext (view F A B .s H) (view F A B .b H) := hid_ext (fun _ _ _ q => .inl q) fun _ _ _ q => q
theorem view_mb {m : Md} : Ext (view F A B m H) (view F A B .b H) := by
  cases m
  · exact view_ns.trans view_sb
  · exact view_sb
  · exact Ext.refl _
theorem view_full {m : Md} : Ext (view F A B m H) H := fun a o h => (view_some.mp h).2
theorem view_mono {m : Md} (e : ∀ a o, a ∉ B → H a = some o → H' a = some o) : Ext (view F A B m H) (view F A B m H') :=
  hid_ext (fun _ _ _ q => q) fun a o q r => e a o (fun z => q (vP_B z)) r
theorem HdA.vis (h : HdA F c T σ H A B) {m : Md} {a : Addr} (n : ¬ mutAt H a) : ¬ vP F A B m a := by
  have nb : ¬ (hB F B a ∨ ∃ i, a ∈ A i) := fun z => n (h.own a z)
  cases m
  · exact fun (z : (hB F B a ∨ ∃ i, a ∈ A i) ∨ mutAt F.H0 a) => z.elim nb fun z => n (h.mut0 a z)
  · exact nb
  · exact fun (z : hB F B a) => nb (.inl z)
theorem HdA.im (h : HdA F c T σ H A B) {m m' : Md} : Ext (hid (mutAt (view F A B m H)) (view F A B m H)) (view F A B m' H) := by
  intro a o q
  obtain ⟨q1, q2⟩ := hid_some.mp q
  have q3 : H a = some o := view_full a o q2
  have nt : ¬ notTup o := fun z => q1 ⟨o, q2, z⟩
  have nm : ¬ mutAt H a := fun ⟨o', e', z⟩ => by rw [q3] at e'; cases e'; exact nt z
  exact view_some.mpr ⟨h.vis nm, q3⟩

/-! ## 2. steps of the state -/
theorem HD.push {m : Md} {p : SP} {v : V} (h : HdA F c T σ H A B) (hp : p.P (view F A B m H) v) : HD F c (⟨v, m, p⟩ :: T) σ H :=
  ⟨A, B, h.len, h.sl, (fun t ht => (List.mem_cons.mp ht).elim (fun e => by subst e; exact hp) (h.tm t)), h.dj, h.db, h.iq, h.fr, h.ni, h.st, h.gb, h.gh⟩
theorem HD.sub {T' : List Tm} (h : HD F c T σ H) (e : ∀ t ∈ T', t ∈ T) : HD F c T' σ H := by
  obtain ⟨A, B, h⟩ := h
  exact ⟨A, B, { h with tm := fun t ht => h.tm t (e t ht) }⟩
theorem HD.pop {t : Tm} (h : HD F c (t :: T) σ H) : HD F c T σ H := h.sub fun _ q => List.mem_cons_of_mem _ q
theorem HD.pop2 {t u : Tm} (h : HD F c (t :: u :: T) σ H) : HD F c T σ H := h.pop.pop
theorem HD.drop2 {t u : Tm} (h : HD F c (t :: u :: T) σ H) : HD F c (t :: T) σ H := h.sub fun x q => by
  rcases List.mem_cons.mp q with rfl | q
  · simp
  · simp [q]
theorem HD.drop3 {t u w : Tm} (h : HD F c (t :: u :: w :: T) σ H) : HD F c (t :: T) σ H := h.drop2.drop2
/-- the heap grows -/
theorem HdA.grow (h : HdA F c T σ H A B) (e : Ext H H') : HdA F c T σ H' A B where
  len := h.len
  sl := fun i => by
    have q := h.sl i
    have e1 : ∀ m, Ext (view F A B m H) (view F A B m H') := fun m => view_mono fun a o _ q => e a o q
    unfold slOk at q ⊢
    split at q
    · obtain ⟨a, v, hv, hp⟩ := q; exact ⟨a, v, hv, SP.mono _ (e1 _) hp⟩
    · obtain ⟨v, hv, hp⟩ := q
      refine ⟨v, hv, OP.frame _ (fun a ha => ?_) (e1 _) hp⟩
      obtain ⟨o, ho, _⟩ := OP.obj _ hp a ha
      rw [ho]; exact e a o ho
    · exact q
    · exact q
  tm := fun t ht => SP.mono _ (view_mono fun a o _ q => e a o q) (h.tm t ht)
  dj := h.dj
  db := h.db
  iq := h.iq
  fr := fun a o q r => e a o (h.fr a o q r)
  ni := h.ni
  st := by
    rcases h.st with q | q
    · exact .inl q
    · refine .inr (q.frame fun a ha => ?_)
      obtain ⟨o, ho, _⟩ := q.obj a ha
      rw [ho]; exact e a o ho
  gb := h.gb
  gh := fun p hp => ⟨e _ _ (h.gh p hp).1, (h.gh p hp).2⟩
/-- a new object -/
theorem HdA.alloc {p : Addr} {o : HO} (h : HdA F c T σ H A B) (hp : H p = none) : HdA F c T σ (upd H p o) A B := h.grow (Ext.new hp)
theorem HdA.fresh {p : Addr} {m : Md} {o : HO} (h : HdA F c T σ H A B) (hp : H p = none) : view F A B m (upd H p o) p = some o := by
  have nm : ¬ mutAt H p := fun ⟨o, e, _⟩ => by rw [hp] at e; cases e
  exact view_some.mpr ⟨h.vis nm, upd_same⟩
theorem HdA.vext {p : Addr} {m : Md} {o : HO} (hp : H p = none) : Ext (view F A B m H) (view F A B m (upd H p o)) := view_mono fun a u _ q => Ext.new hp a u q
/-- only the state's own lists change, and the heap grows -/
theorem HdA.drawn (h : HdA F c T σ H A B) (e : ∀ a o, a ∉ B → H a = some o → H' a = some o) (s : B = [] ∨ StP B H') : HdA F c T σ H' A B where
  len := h.len
  sl := fun i => by
    have q := h.sl i
    have e1 : ∀ m, Ext (view F A B m H) (view F A B m H') := fun m => view_mono e
    unfold slOk at q ⊢
    split at q
    · obtain ⟨a, v, hv, hp⟩ := q; exact ⟨a, v, hv, SP.mono _ (e1 _) hp⟩
    · obtain ⟨v, hv, hp⟩ := q
      refine ⟨v, hv, OP.frame _ (fun a ha => ?_) (e1 _) hp⟩
      obtain ⟨o, ho, _⟩ := OP.obj _ hp a ha
      rw [ho]; exact e a o (fun z => h.db i a ha (.inl z)) ho
    · exact q
    · exact q
  tm := fun t ht => SP.mono _ (view_mono e) (h.tm t ht)
  dj := h.dj
  db := h.db
  iq := h.iq
  fr := fun a o q r => by
    by_cases hb : a ∈ B
    · have := h.ni a (.inl (.inl hb)) r
      rw [q] at this; cases this
    · exact e a o hb (h.fr a o q r)
  ni := h.ni
  st := s
  gb := h.gb
  gh := fun p hp => ⟨e _ _ (fun z => h.gb p.1 ⟨p.2, hp⟩ z) (h.gh p hp).1, (h.gh p hp).2⟩
/-- a name gets a value that is shared -/
theorem HdA.set {m : Md} {p : SP} {v : V} {i : Nat} (h : HdA F c T σ H A B) (hi : i < c.length) (hp : p.P (view F A B m H) v) (hA : A i = []) : HdA F (c.set i (.sh m p)) T (σ.set i (some v)) H A B where
  len := by simp [h.len]
  sl := fun j => by
    unfold slOk
    by_cases e : j = i
    · subst e
      have e1 : (c.set j (Sl.sh m p))[j]? = some (.sh m p) := by simp [List.getElem?_set_self hi]
      rw [e1]
      exact ⟨hA, v, by rw [List.getElem?_set_self (by rw [← h.len]; exact hi)], hp⟩
    · have e1 : (c.set i (Sl.sh m p))[j]? = c[j]? := List.getElem?_set_ne (fun z => e z.symm)
      have e2 : (σ.set i (some v))[j]? = σ[j]? := List.getElem?_set_ne (fun z => e z.symm)
      rw [e1, e2]
      exact h.sl j
  tm := h.tm
  dj := h.dj
  db := h.db
  iq := h.iq
  fr := h.fr
  ni := h.ni
  st := h.st
  gb := h.gb
  gh := h.gh
end
end TW

set_option maxRecDepth 100000
set_option maxHeartbeats 2000000
namespace TW
open PySem PySem.Spec PyProof.Rows L2

/-! ## 3. typed values -/
def rInt : Rp Int := ⟨fun _ v i => v = .int i, fun _ h => h⟩
def rBool : Rp Bool := ⟨fun _ v i => v = .bl i, fun _ h => h⟩
def rStr : Rp Str := ⟨fun _ v i => v = .str i, fun _ h => h⟩
def rNon : Rp Unit := ⟨fun _ v _ => v = .non, fun _ h => h⟩
def rOpt {α : Type} (R : Rp α) : Rp (Option α) := ⟨fun H v a => match a with | none => v = .non | some x => v ≠ .non ∧ R.r H v x, fun {H H' v a} e h => by
  cases a with
  | none => exact h
  | some x => exact ⟨h.1, R.monoT e h.2⟩⟩
theorem SqT.extT {K : PySem.W.Frag} {H H' : Hp} {a : Addr} {xs : List V} (e : ExtT H H') (h : SqT K H a xs) : SqT K H' a xs := by
  rcases h with (h | ⟨o, h⟩) | h
  · exact .inl (.inl (e.ap _ _ h))
  · exact .inl (.inr ⟨o, e.ap _ _ h⟩)
  · exact .inr h
theorem SqT.ext {K : PySem.W.Frag} {H H' : Hp} {a : Addr} {xs : List V} (e : Ext H H') (h : SqT K H a xs) : SqT K H' a xs := SqT.extT e.t h
theorem SqT.im {K : PySem.W.Frag} {H : Hp} {a : Addr} {xs : List V} (h : SqT K H a xs) : SqT K (hid (mutAt H) H) a xs := by
  rcases h with (h | ⟨o, h⟩) | h
  · exact .inl (.inl (hid_some.mpr ⟨fun ⟨u, e, n⟩ => by rw [h] at e; cases e; exact n, h⟩))
  · exact .inl (.inr ⟨o, hid_some.mpr ⟨fun ⟨u, e, n⟩ => by rw [h] at e; cases e; exact n, h⟩⟩)
  · exact .inr h
def rTup (K : PySem.W.Frag) {α : Type} (R : Rp α) : Rp (List α) := ⟨fun H v xs => ∃ a vs, v = .ref a ∧ SqT K H a vs ∧ Paired (R.r H) vs xs, fun e ⟨a, vs, h1, h2, h3⟩ => ⟨a, vs, h1, SqT.extT e h2, Paired.mono (fun _ _ q => R.monoT e q) h3⟩⟩
def rList {α : Type} (R : Rp α) : Rp (List α) := ⟨fun H v xs => ∃ a vs, v = .ref a ∧ H a = some (.lst vs) ∧ Paired (R.r H) vs xs, fun e ⟨a, vs, h1, h2, h3⟩ => ⟨a, vs, h1, e.ap _ _ h2, Paired.mono (fun _ _ q => R.monoT e q) h3⟩⟩
def rPair (K : PySem.W.Frag) {α β : Type} (R : Rp α) (S : Rp β) : Rp (α × β) := ⟨fun H v p => ∃ a x y, v = .ref a ∧ SqT K H a [x, y] ∧ R.r H x p.1 ∧ S.r H y p.2, fun e ⟨a, x, y, h1, h2, h3, h4⟩ => ⟨a, x, y, h1, SqT.extT e h2, R.monoT e h3, S.monoT e h4⟩⟩
def rTri (K : PySem.W.Frag) {α β γ : Type} (R : Rp α) (S : Rp β) (U : Rp γ) : Rp (α × β × γ) := ⟨fun H v p => ∃ a x y z, v = .ref a ∧ SqT K H a [x, y, z] ∧ R.r H x p.1 ∧ S.r H y p.2.1 ∧ U.r H z p.2.2,
  fun e ⟨a, x, y, z, h1, h2, h3, h4, h5⟩ => ⟨a, x, y, z, h1, SqT.extT e h2, R.monoT e h3, S.monoT e h4, U.monoT e h5⟩⟩
instance : Im rInt := ⟨fun h => h⟩
instance : Im rBool := ⟨fun h => h⟩
instance : Im rStr := ⟨fun h => h⟩
instance : Im rNon := ⟨fun h => h⟩
instance {α : Type} (R : Rp α) [Im R] : Im (rOpt R) := ⟨fun {H v a} h => by
  cases a with
  | none => exact h
  | some x => exact ⟨h.1, Im.im h.2⟩⟩
instance {K : PySem.W.Frag} {α : Type} (R : Rp α) [Im R] : Im (rTup K R) := ⟨fun ⟨a, vs, h1, h2, h3⟩ => ⟨a, vs, h1, SqT.im h2, Paired.mono (fun _ _ q => Im.im q) h3⟩⟩
instance {K : PySem.W.Frag} {α β : Type} (R : Rp α) (S : Rp β) [Im R] [Im S] : Im (rPair K R S) := ⟨fun ⟨a, x, y, h1, h2, h3, h4⟩ => ⟨a, x, y, h1, SqT.im h2, Im.im h3, Im.im h4⟩⟩
instance {K : PySem.W.Frag} {α β γ : Type} (R : Rp α) (S : Rp β) (U : Rp γ) [Im R] [Im S] [Im U] : Im (rTri K R S U) := ⟨fun ⟨a, x, y, z, h1, h2, h3, h4, h5⟩ => ⟨a, x, y, z, h1, SqT.im h2, Im.im h3, Im.im h4, Im.im h5⟩⟩
/-- never None -/
class NN {α : Type} (R : Rp α) : Prop where
  nn : ∀ {H v a}, R.r H v a → v ≠ .non
instance : NN rInt := ⟨fun {H v a} h => by rw [show v = _ from h]; simp⟩
instance : NN rBool := ⟨fun {H v a} h => by rw [show v = _ from h]; simp⟩
instance : NN rStr := ⟨fun {H v a} h => by rw [show v = _ from h]; simp⟩
instance {α : Type} (R : Rp α) : NN (rList R) := ⟨fun ⟨_, _, h, _⟩ => by rw [h]; simp⟩
instance {K : PySem.W.Frag} {α : Type} (R : Rp α) : NN (rTup K R) := ⟨fun ⟨_, _, h, _⟩ => by rw [h]; simp⟩
instance {K : PySem.W.Frag} {α β : Type} (R : Rp α) (S : Rp β) : NN (rPair K R S) := ⟨fun ⟨_, _, _, h, _⟩ => by rw [h]; simp⟩
instance {K : PySem.W.Frag} {α β γ : Type} (R : Rp α) (S : Rp β) (U : Rp γ) : NN (rTri K R S U) := ⟨fun ⟨_, _, _, _, h, _⟩ => by rw [h]; simp⟩

/-- its data -/
class Dt (K : PySem.W.Frag) {α : Type} (R : Rp α) where
  d : α → PyData
  dep : Nat
  ok : ∀ {H v a}, R.r H v a → Dp K H v (d a)
  lay : ∀ a, (d a).canLay0 = true
  deep : ∀ a, (d a).depth ≤ dep
  inj : ∀ a b, PyData.eqv (d a) (d b) = true ↔ a = b
/-- never None, as data -/
class Dn {α : Type} (K : PySem.W.Frag) (R : Rp α) [Dt K R] : Prop where
  nn : ∀ a, PyData.eqv (Dt.d K R a) .none = false
  nn' : ∀ a, PyData.eqv .none (Dt.d K R a) = false
section
variable {K : PySem.W.Frag} {α β γ : Type} {R : Rp α} {S : Rp β} {U : Rp γ}
instance : Dt K rInt := ⟨fun i => .int i, 0, fun {H v a} h => by rw [show v = _ from h]; exact .int _, fun _ => by simp only [PyData.canLay0], fun _ => by simp [PyData.depth], fun a b => by simp [PyData.eqv]⟩
instance : Dt K rBool := ⟨fun i => .bool i, 0, fun {H v a} h => by rw [show v = _ from h]; exact .bl _, fun _ => by simp only [PyData.canLay0], fun _ => by simp [PyData.depth], fun a b => by simp [PyData.eqv]⟩
instance : Dt K rNon := ⟨fun _ => .none, 0, fun {H v a} h => by rw [show v = _ from h]; exact .non, fun _ => by simp only [PyData.canLay0], fun _ => by simp [PyData.depth], fun a b => by simp [PyData.eqv]⟩
theorem DpAll_of {H : Hp} [Dt K R] : ∀ {vs : List V} {xs : List α}, Paired (R.r H) vs xs → DpAll K H vs (xs.map (Dt.d K R))
  | _, _, .nil => .nil
  | _, _, .cons h t => .cons (Dt.ok h) (DpAll_of t)
theorem layAll [Dt K R] : ∀ xs : List α, PyData.canLayAll0 (xs.map (Dt.d K R)) = true
  | [] => by simp [PyData.canLayAll0]
  | x :: xs => by simp [PyData.canLayAll0, layAll xs, Dt.lay]
theorem eqvAll_of [Dt K R] : ∀ xs ys : List α, PyData.eqvAll (xs.map (Dt.d K R)) (ys.map (Dt.d K R)) = true ↔ xs = ys
  | [], [] => by simp [PyData.eqvAll]
  | [], y :: ys => by simp [PyData.eqvAll]
  | x :: xs, [] => by simp [PyData.eqvAll]
  | x :: xs, y :: ys => by simp [PyData.eqvAll, eqvAll_of xs ys, Dt.inj]
theorem depAll [Dt K R] : ∀ xs : List α, PyData.depthAll (xs.map (Dt.d K R)) ≤ Dt.dep K R
  | [] => by simp [PyData.depthAll]
  | x :: xs => by
    have h1 := depAll xs
    have h2 := Dt.deep (K := K) (R := R) x
    simp only [List.map_cons, PyData.depthAll]
    omega
instance [Dt K R] : Dt K (rList R) := ⟨fun xs => .list (xs.map (Dt.d K R)), Dt.dep K R + 1, fun ⟨a, vs, h1, h2, h3⟩ => by rw [h1]; exact .lst (SqL.of h2) (DpAll_of h3), fun xs => by simp only [PyData.canLay0]; exact layAll xs,
  fun xs => by
    have := depAll (K := K) (R := R) xs
    simp only [PyData.depth]
    omega, fun a b => by simp only [PyData.eqv]; exact eqvAll_of a b⟩
instance [Dt K R] : Dt K (rTup K R) := ⟨fun xs => .tuple (xs.map (Dt.d K R)), Dt.dep K R + 1, fun ⟨a, vs, h1, h2, h3⟩ => by rw [h1]; exact .tup h2 (DpAll_of h3), fun xs => by simp only [PyData.canLay0]; exact layAll xs,
  fun xs => by
    have := depAll (K := K) (R := R) xs
    simp only [PyData.depth]
    omega, fun a b => by simp only [PyData.eqv]; exact eqvAll_of a b⟩
instance [Dt K R] [Dt K S] : Dt K (rPair K R S) := ⟨fun p => .tuple [Dt.d K R p.1, Dt.d K S p.2], max (Dt.dep K R) (Dt.dep K S) + 1, fun ⟨a, x, y, h1, h2, h3, h4⟩ => by rw [h1]; exact .tup h2 (.cons (Dt.ok h3) (.cons (Dt.ok h4) .nil)),
  fun p => by simp [PyData.canLay0, PyData.canLayAll0, Dt.lay], fun p => by
    have h1 := Dt.deep (K := K) (R := R) p.1
    have h2 := Dt.deep (K := K) (R := S) p.2
    simp only [PyData.depth, PyData.depthAll]
    omega, fun a b => by
    obtain ⟨a1, a2⟩ := a
    obtain ⟨b1, b2⟩ := b
    simp [PyData.eqv, PyData.eqvAll, Dt.inj]⟩
instance [Dt K R] [Dt K S] [Dt K U] : Dt K (rTri K R S U) := ⟨fun p => .tuple [Dt.d K R p.1, Dt.d K S p.2.1, Dt.d K U p.2.2], max (Dt.dep K R) (max (Dt.dep K S) (Dt.dep K U)) + 1, fun ⟨a, x, y, z, h1, h2, h3, h4, h5⟩ => by rw [h1]; exact .tup h2 (.cons (Dt.ok h3) (.cons (Dt.ok h4) (.cons (Dt.ok h5) .nil))),
  fun p => by simp [PyData.canLay0, PyData.canLayAll0, Dt.lay], fun p => by
    have h1 := Dt.deep (K := K) (R := R) p.1
    have h2 := Dt.deep (K := K) (R := S) p.2.1
    have h3 := Dt.deep (K := K) (R := U) p.2.2
    simp only [PyData.depth, PyData.depthAll]
    omega, fun a b => by
    obtain ⟨a1, a2, a3⟩ := a
    obtain ⟨b1, b2, b3⟩ := b
    simp [PyData.eqv, PyData.eqvAll, Dt.inj]⟩
instance : Dn K rInt := ⟨fun a => by simp [Dt.d, PyData.eqv], fun a => by simp [Dt.d, PyData.eqv]⟩
instance : Dn K rBool := ⟨fun a => by simp [Dt.d, PyData.eqv], fun a => by simp [Dt.d, PyData.eqv]⟩
instance [Dt K R] : Dn K (rList R) := ⟨fun a => by simp [Dt.d, PyData.eqv], fun a => by simp [Dt.d, PyData.eqv]⟩
instance [Dt K R] : Dn K (rTup K R) := ⟨fun a => by simp [Dt.d, PyData.eqv], fun a => by simp [Dt.d, PyData.eqv]⟩
instance [Dt K R] [Dt K S] : Dn K (rPair K R S) := ⟨fun a => by simp [Dt.d, PyData.eqv], fun a => by simp [Dt.d, PyData.eqv]⟩
instance [Dt K R] [Dt K S] [Dt K U] : Dn K (rTri K R S U) := ⟨fun a => by simp [Dt.d, PyData.eqv], fun a => by simp [Dt.d, PyData.eqv]⟩
instance [Dt K R] [Dn K R] : Dt K (rOpt R) := ⟨fun o => match o with | none => .none | some x => Dt.d K R x, Dt.dep K R, fun {H v a} h => by
    cases a with
    | none => rw [show v = _ from h]; exact .non
    | some x => exact Dt.ok h.2, fun a => by
    cases a with
    | none => simp [PyData.canLay0]
    | some x => exact Dt.lay x, fun a => by
    cases a with
    | none => simp [PyData.depth]
    | some x => exact Dt.deep x, fun a b => by
    cases a with
    | none =>
      cases b with
      | none => simp [PyData.eqv]
      | some y => simp [Dn.nn']
    | some x =>
      cases b with
      | none => simp [Dn.nn]
      | some y => simp [Dt.inj]⟩
end
end TW

set_option maxRecDepth 100000
set_option maxHeartbeats 2000000
namespace TW
open PySem PySem.Spec PyProof.Rows L2

/-! ## 4. judgements: expressions -/
/-- if S, te comes to a (kept as R, seen in mode m) -/
def EP (c : Ctx) (te : TE) (m : Md) {α : Type} (R : Rp α) (S : Prop) (a : α) : Prop :=
  ∀ {F : Fm}, S → ∀ T σ H, HD F c T σ H → ∀ Q : VK, (∀ v H', HD F c (⟨v, m, R.at a⟩ :: T) σ H' → Q v H') → te σ H Q
/-- te comes to some a of which W says what is known -/
def EW (c : Ctx) (te : TE) (m : Md) {α : Type} (R : Rp α) (W : (α → Prop) → Prop) : Prop :=
  ∀ {F : Fm} (Post : α → Prop), W Post → ∀ T σ H, HD F c T σ H → ∀ Q : VK, (∀ a v H', Post a → HD F c (⟨v, m, R.at a⟩ :: T) σ H' → Q v H') → te σ H Q
/-- tests -/
def TP' (c : Ctx) (tt : TT) (S : Prop) (b : Bool) : Prop :=
  ∀ {F : Fm}, S → ∀ T σ H, HD F c T σ H → ∀ Q : Bool → Hp → Prop, (∀ H', HD F c T σ H' → Q b H') → tt σ H Q
def TW' (c : Ctx) (tt : TT) (W : (Bool → Prop) → Prop) : Prop :=
  ∀ {F : Fm} (Post : Bool → Prop), W Post → ∀ T σ H, HD F c T σ H → ∀ Q : Bool → Hp → Prop, (∀ b H', Post b → HD F c T σ H' → Q b H') → tt σ H Q
abbrev AL := List (Md × SP)
def zipT (vs : List V) (L : AL) : List Tm := List.zipWith (fun v p => ⟨v, p.1, p.2⟩) vs L
def AP' (c : Ctx) (ta : TA) (S : Prop) (L : AL) : Prop :=
  ∀ {F : Fm}, S → ∀ T σ H, HD F c T σ H → ∀ Q : List V → Hp → Prop, (∀ vs H', vs.length = L.length → HD F c (zipT vs L ++ T) σ H' → Q vs H') → ta σ H Q
def AW' (c : Ctx) (ta : TA) {ι : Type} (L : ι → AL) (W : (ι → Prop) → Prop) : Prop :=
  ∀ {F : Fm} (Post : ι → Prop), W Post → ∀ T σ H, HD F c T σ H → ∀ Q : List V → Hp → Prop, (∀ i vs H', Post i → vs.length = (L i).length → HD F c (zipT vs (L i) ++ T) σ H' → Q vs H') → ta σ H Q
/-- operations on values -/
def O1 (c : Ctx) (r : V → Hp → VK → Prop) {α β : Type} (m1 : Md) (R1 : Rp α) (m : Md) (R : Rp β) (S : α → Prop) (f : α → β) : Prop :=
  ∀ {F : Fm} a, S a → ∀ T σ H x, HD F c (⟨x, m1, R1.at a⟩ :: T) σ H → ∀ Q : VK, (∀ v H', HD F c (⟨v, m, R.at (f a)⟩ :: T) σ H' → Q v H') → r x H Q
def O2 (c : Ctx) (r : R2) {α β γ : Type} (m1 : Md) (R1 : Rp α) (m2 : Md) (R2 : Rp β) (m : Md) (R : Rp γ) (S : α → β → Prop) (f : α → β → γ) : Prop :=
  ∀ {F : Fm} a b, S a b → ∀ T σ H x y, HD F c (⟨y, m2, R2.at b⟩ :: ⟨x, m1, R1.at a⟩ :: T) σ H → ∀ Q : VK, (∀ v H', HD F c (⟨v, m, R.at (f a b)⟩ :: T) σ H' → Q v H') → r x y H Q
/-- a built-in's call on values -/
def OB (c : Ctx) (r : List V → Hp → VK → Prop) (L : AL) (m : Md) {α : Type} (R : Rp α) (S : Prop) (a : α) : Prop :=
  ∀ {F : Fm}, S → ∀ T σ H vs, vs.length = L.length → HD F c (zipT vs L ++ T) σ H → ∀ Q : VK, (∀ v H', HD F c (⟨v, m, R.at a⟩ :: T) σ H' → Q v H') → r vs H Q

section
variable {F : Fm} {c : Ctx} {α β γ : Type} {R : Rp α} {Ra : Rp β} {Rb : Rp γ} {m m1 m2 : Md} {te ta tb : TE} {tt tu : TT}
theorem EP.w {S : Prop} {a : α} (h : EP c te m R S a) : EW c te m R (fun P => S ∧ P a) :=
  fun P w T σ H hd Q k => h w.1 T σ H hd Q fun v H' q => k a v H' w.2 q
theorem TP'.w {S : Prop} {b : Bool} (h : TP' c tt S b) : TW' c tt (fun P => S ∧ P b) :=
  fun P w T σ H hd Q k => h w.1 T σ H hd Q fun H' q => k b H' w.2 q
theorem EP.imp {S S' : Prop} {a : α} (h : EP c te m R S a) (e : S' → S) : EP c te m R S' a := fun s => h (e s)
theorem EW.imp {W W' : (α → Prop) → Prop} (h : EW c te m R W) (e : ∀ P, W' P → W P) : EW c te m R W' := fun P w => h P (e P w)
theorem AP'.w {ta : TA} {S : Prop} {L : AL} (h : AP' c ta S L) : AW' c ta (fun _ : Unit => L) (fun P => S ∧ P ()) :=
  fun P w T σ H hd Q k => h w.1 T σ H hd Q fun vs H' e q => k () vs H' w.2 e q
/-- a name -/
theorem ep_var {i : Nat} {a : α} (h : c[i]? = some (.sh m (R.at a))) : EP c (tVar i) m R True a := fun _ T σ H ⟨A, B, hd⟩ Q k => by
  have q := hd.sl i
  unfold slOk at q
  rw [h] at q
  obtain ⟨_, v, hv, hp⟩ := q
  exact ⟨v, hv, k v H (HD.push hd hp)⟩
theorem HdA.re {T : List Tm} {σ : Sg} {H : Hp} {A : Nat → List Addr} {B : List Addr} {v : V} {m : Md} {p : SP} {m' : Md} {p' : SP} (q : HdA F c (⟨v, m, p⟩ :: T) σ H A B) (e : p'.P (view F A B m' H) v) : HdA F c (⟨v, m', p'⟩ :: T) σ H A B :=
  ⟨q.len, q.sl, fun t ht => (List.mem_cons.mp ht).elim (fun z => by subst z; exact e) (fun z => q.tm t (List.mem_cons_of_mem _ z)), q.dj, q.db, q.iq, q.fr, q.ni, q.st, q.gb, q.gh⟩
theorem HdA.hd {t : Tm} {T : List Tm} {σ : Sg} {H : Hp} {A : Nat → List Addr} {B : List Addr} (q : HdA F c (t :: T) σ H A B) : t.p.P (view F A B t.m H) t.v := q.tm _ (by simp)
theorem HdA.hd2 {t u : Tm} {T : List Tm} {σ : Sg} {H : Hp} {A : Nat → List Addr} {B : List Addr} (q : HdA F c (t :: u :: T) σ H A B) : u.p.P (view F A B u.m H) u.v := q.tm _ (by simp)
theorem HdA.sub {T T' : List Tm} {σ : Sg} {H : Hp} {A : Nat → List Addr} {B : List Addr} (q : HdA F c T σ H A B) (e : ∀ t ∈ T', t ∈ T) : HdA F c T' σ H A B :=
  ⟨q.len, q.sl, fun t ht => q.tm t (e t ht), q.dj, q.db, q.iq, q.fr, q.ni, q.st, q.gb, q.gh⟩
theorem HdA.tl {t : Tm} {T : List Tm} {σ : Sg} {H : Hp} {A : Nat → List Addr} {B : List Addr} (q : HdA F c (t :: T) σ H A B) : HdA F c T σ H A B := q.sub fun _ z => List.mem_cons_of_mem _ z
theorem ep_im [Im R] {m' : Md} {S : Prop} {a : α} (h : EP c te m R S a) : EP c te m' R S a := fun s T σ H hd Q k =>
  h s T σ H hd Q fun v H' ⟨A, B, q⟩ => k v H' ⟨A, B, q.re (p' := R.at a) (by
    have e : R.r (view _ A B m H') v a := q.hd
    exact R.mono q.im (Im.im e))⟩
theorem ew_im [Im R] {m' : Md} {W : (α → Prop) → Prop} (h : EW c te m R W) : EW c te m' R W := fun P w T σ H hd Q k =>
  h P w T σ H hd Q fun a v H' pa ⟨A, B, q⟩ => k a v H' pa ⟨A, B, q.re (p' := R.at a) (by
    have e : R.r (view _ A B m H') v a := q.hd
    exact R.mono q.im (Im.im e))⟩
theorem ep_ns {S : Prop} {a : α} (h : EP c te .n R S a) : EP c te .s R S a := fun s T σ H hd Q k =>
  h s T σ H hd Q fun v H' ⟨A, B, q⟩ => k v H' ⟨A, B, q.re (p' := R.at a) (R.mono view_ns q.hd)⟩
theorem ew_ns {W : (α → Prop) → Prop} (h : EW c te .n R W) : EW c te .s R W := fun P w T σ H hd Q k =>
  h P w T σ H hd Q fun a v H' pa ⟨A, B, q⟩ => k a v H' pa ⟨A, B, q.re (p' := R.at a) (R.mono view_ns q.hd)⟩
theorem HdA.puts {T : List Tm} {σ : Sg} {H : Hp} {A : Nat → List Addr} {B : List Addr} (h : HdA F c T σ H A B) (T2 : List Tm) (e : ∀ t ∈ T2, t.p.P (view F A B t.m H) t.v) : HD F c (T2 ++ T) σ H :=
  ⟨A, B, h.len, h.sl, (fun t ht => (List.mem_append.mp ht).elim (e t) (h.tm t)), h.dj, h.db, h.iq, h.fr, h.ni, h.st, h.gb, h.gh⟩
/-- constants -/
theorem ep_int {i : Int} : EP c (tC (.int i)) .n rInt True i := fun _ T σ H ⟨A, B, hd⟩ Q k => k _ H (HD.push hd rfl)
theorem ep_bl {i : Bool} : EP c (tC (.bl i)) .n rBool True i := fun _ T σ H ⟨A, B, hd⟩ Q k => k _ H (HD.push hd rfl)
theorem ep_str {i : Str} : EP c (tC (.str i)) .n rStr True i := fun _ T σ H ⟨A, B, hd⟩ Q k => k _ H (HD.push hd rfl)
theorem ep_non : EP c (tC .non) .n rNon True () := fun _ T σ H ⟨A, B, hd⟩ Q k => k _ H (HD.push hd rfl)
theorem ep_none : EP c (tC .non) .n (rOpt R) True none := fun _ T σ H ⟨A, B, hd⟩ Q k => k _ H (HD.push hd (p := (rOpt R).at none) rfl)
theorem ep_some [NN R] {S : Prop} {a : α} (h : EP c te m R S a) : EP c te m (rOpt R) S (some a) := fun s T σ H hd Q k =>
  h s T σ H hd Q fun v H' ⟨A, B, q⟩ => k v H' ⟨A, B, q.re (p' := (rOpt R).at (some a)) ⟨NN.nn q.hd, q.hd⟩⟩
theorem ew_some [NN R] {W : (α → Prop) → Prop} (h : EW c te m R W) : EW c te m (rOpt R) (fun P => W fun a => P (some a)) := fun P w T σ H hd Q k =>
  h _ w T σ H hd Q fun a v H' pa ⟨A, B, q⟩ => k (some a) v H' pa ⟨A, B, q.re (p' := (rOpt R).at (some a)) ⟨NN.nn q.hd, q.hd⟩⟩
/-- an optional value that is there -/
theorem ep_get {S : Prop} {o : Option α} (h : EP c te m (rOpt R) S o) (a : α) : EP c te m R (S ∧ o = some a) a := fun s T σ H hd Q k =>
  h s.1 T σ H hd Q fun v H' ⟨A, B, q⟩ => k v H' ⟨A, B, q.re (p' := R.at a) (by
    have e : (rOpt R).r (view _ A B m H') v o := q.hd
    rw [s.2] at e
    exact e.2)⟩
/-- operations -/
theorem ep_op {r : R2} {S : β → γ → Prop} {f : β → γ → α} {Sa Sb : Prop} {a : β} {b : γ} (ho : O2 c r m1 Ra m2 Rb m R S f) (ha : EP c ta m1 Ra Sa a) (hb : EP c tb m2 Rb Sb b) : EP c (tOp r ta tb) m R (Sa ∧ Sb ∧ S a b) (f a b) :=
  fun s T σ H hd Q k => ha s.1 T σ H hd _ fun x H1 h1 => hb s.2.1 _ σ H1 h1 _ fun y H2 h2 => ho a b s.2.2 T σ H2 x y h2 Q k
theorem ew_op {r : R2} {S : β → γ → Prop} {f : β → γ → α} {Wa : (β → Prop) → Prop} {Wb : β → (γ → Prop) → Prop} (ho : O2 c r m1 Ra m2 Rb m R S f) (ha : EW c ta m1 Ra Wa) (hb : ∀ a, EW c tb m2 Rb (Wb a)) : EW c (tOp r ta tb) m R (fun P => Wa fun a => Wb a fun b => S a b ∧ P (f a b)) :=
  fun P w T σ H hd Q k => ha _ w T σ H hd _ fun a x H1 pa h1 => hb a _ pa _ σ H1 h1 _ fun b y H2 pb h2 => ho a b pb.1 T σ H2 x y h2 Q fun v H' q => k _ v H' pb.2 q
theorem ep_un {r : V → Hp → VK → Prop} {S : β → Prop} {f : β → α} {Sa : Prop} {a : β} (ho : O1 c r m1 Ra m R S f) (ha : EP c ta m1 Ra Sa a) : EP c (tUn r ta) m R (Sa ∧ S a) (f a) :=
  fun s T σ H hd Q k => ha s.1 T σ H hd _ fun x H1 h1 => ho a s.2 T σ H1 x h1 Q k
theorem ew_un {r : V → Hp → VK → Prop} {S : β → Prop} {f : β → α} {Wa : (β → Prop) → Prop} (ho : O1 c r m1 Ra m R S f) (ha : EW c ta m1 Ra Wa) : EW c (tUn r ta) m R (fun P => Wa fun a => S a ∧ P (f a)) :=
  fun P w T σ H hd Q k => ha _ w T σ H hd _ fun a x H1 pa h1 => ho a pa.1 T σ H1 x h1 Q fun v H' q => k _ v H' pa.2 q
/-- arguments -/
theorem ap_nil : AP' c tNil True [] := fun _ T σ H hd Q k => k [] H rfl hd
theorem ap_cons {tr : TA} {Sa Sr : Prop} {a : α} {L : AL} (ha : EP c ta m R Sa a) (hr : AP' c tr Sr L) : AP' c (tCons ta tr) (Sa ∧ Sr) ((m, R.at a) :: L) :=
  fun s T σ H hd Q k => ha s.1 T σ H hd _ fun x H1 h1 => hr s.2 _ σ H1 h1 _ fun vs H2 e h2 => k (x :: vs) H2 (by simp [e]) (h2.sub fun t ht => by
    simp only [zipT, List.zipWith_cons_cons, List.cons_append, List.mem_cons, List.mem_append] at ht ⊢
    rcases ht with rfl | ht | ht
    · exact .inr (.inl rfl)
    · exact .inl ht
    · exact .inr (.inr ht))
theorem aw_nil : AW' c tNil (fun _ : Unit => []) (fun P => P ()) := fun P w T σ H hd Q k => k () [] H w rfl hd
theorem aw_cons {tr : TA} {ι : Type} {L : ι → AL} {Wa : (α → Prop) → Prop} {Wr : α → (ι → Prop) → Prop} (ha : EW c ta m R Wa) (hr : ∀ a, AW' c tr L (Wr a)) : AW' c (tCons ta tr) (fun i : α × ι => (m, R.at i.1) :: L i.2) (fun P => Wa fun a => Wr a fun i => P (a, i)) :=
  fun P w T σ H hd Q k => ha _ w T σ H hd _ fun a x H1 pa h1 => hr a _ pa _ σ H1 h1 _ fun i vs H2 pi e h2 => k (a, i) (x :: vs) H2 pi (by simp [e]) (h2.sub fun t ht => by
    simp only [zipT, List.zipWith_cons_cons, List.cons_append, List.mem_cons, List.mem_append] at ht ⊢
    rcases ht with rfl | ht | ht
    · exact .inr (.inl rfl)
    · exact .inl ht
    · exact .inr (.inr ht))
/-- built-ins -/
theorem ep_cb {r : List V → Hp → VK → Prop} {ta : TA} {Sa S : Prop} {L : AL} {a : α} (ho : OB c r L m R S a) (ha : AP' c ta Sa L) : EP c (tCB r ta) m R (Sa ∧ S) a :=
  fun s T σ H hd Q k => ha s.1 T σ H hd _ fun vs H1 e h1 => ho s.2 T σ H1 vs e h1 Q k
theorem ew_cb {ι : Type} {r : List V → Hp → VK → Prop} {ta : TA} {L : ι → AL} {W : (ι → Prop) → Prop} {S : ι → Prop} {f : ι → α} (ha : AW' c ta L W) (ho : ∀ i, OB c r (L i) m R (S i) (f i)) : EW c (tCB r ta) m R (fun P => W fun i => S i ∧ P (f i)) :=
  fun P w T σ H hd Q k => ha _ w T σ H hd _ fun i vs H1 pi e h1 => ho i pi.1 T σ H1 vs e h1 Q fun v H' q => k _ v H' pi.2 q
theorem zip1 {vs : List V} {p : Md × SP} {T : List Tm} {σ : Sg} {H : Hp} (e : vs.length = 1) (h : HD F c (zipT vs [p] ++ T) σ H) : ∃ v, vs = [v] ∧ HD F c (⟨v, p.1, p.2⟩ :: T) σ H := by
  match vs, e with
  | [v], _ => exact ⟨v, rfl, h⟩
theorem zip2 {vs : List V} {p q : Md × SP} {T : List Tm} {σ : Sg} {H : Hp} (e : vs.length = 2) (h : HD F c (zipT vs [p, q] ++ T) σ H) : ∃ v w, vs = [v, w] ∧ HD F c (⟨v, p.1, p.2⟩ :: ⟨w, q.1, q.2⟩ :: T) σ H := by
  match vs, e with
  | [v, w], _ => exact ⟨v, w, rfl, h⟩
/-- ints -/
abbrev MulOk (i j : Int) : Prop := i.natAbs.log2 + j.natAbs.log2 < 1000000
theorem o2_I0 {g : Int → Int → Int} : O2 c (rI0 fun i j => .int (g i j)) m1 rInt m2 rInt .n rInt (fun _ _ => True) g := fun a b _ T σ H x y ⟨A, B, h⟩ Q k =>
  ⟨a, b, h.hd2, h.hd, k _ H (HD.push h.tl.tl rfl)⟩
theorem o2_I {C : Int → Int → Prop} {g : Int → Int → Int} : O2 c (rI C fun i j => .int (g i j)) m1 rInt m2 rInt .n rInt C g := fun a b s T σ H x y ⟨A, B, h⟩ Q k =>
  ⟨a, b, h.hd2, h.hd, s, k _ H (HD.push h.tl.tl rfl)⟩
theorem o2_B0 {g : Int → Int → Bool} : O2 c (rI0 fun i j => .bl (g i j)) m1 rInt m2 rInt .n rBool (fun _ _ => True) g := fun a b _ T σ H x y ⟨A, B, h⟩ Q k =>
  ⟨a, b, h.hd2, h.hd, k _ H (HD.push h.tl.tl rfl)⟩
theorem o1_I {g : Int → Int} : O1 c (rU fun i => .int (g i)) m1 rInt .n rInt (fun _ => True) g := fun a _ T σ H x ⟨A, B, h⟩ Q k => ⟨a, h.hd, k _ H (HD.push h.tl rfl)⟩
theorem o2_eqI : O2 c rEq m1 rInt m2 rInt .n rBool (fun _ _ => True) (fun a b => decide (a = b)) := fun a b _ T σ H x y ⟨A, B, h⟩ Q k => by
  have hx : x = .int a := h.hd2
  have hy : y = .int b := h.hd
  subst hx hy
  exact ⟨rfl, k _ H (HD.push h.tl.tl (p := rBool.at (decide (a = b))) (by show V.bl _ = V.bl _; simp))⟩
theorem o2_neI : O2 c rNe m1 rInt m2 rInt .n rBool (fun _ _ => True) (fun a b => !decide (a = b)) := fun a b _ T σ H x y ⟨A, B, h⟩ Q k => by
  have hx : x = .int a := h.hd2
  have hy : y = .int b := h.hd
  subst hx hy
  exact ⟨rfl, k _ H (HD.push h.tl.tl (p := rBool.at (!decide (a = b))) (by show V.bl _ = V.bl _; simp))⟩
theorem o2_eqB : O2 c rEq m1 rBool m2 rBool .n rBool (fun _ _ => True) (fun a b => a == b) := fun a b _ T σ H x y ⟨A, B, h⟩ Q k => by
  have hx : x = .bl a := h.hd2
  have hy : y = .bl b := h.hd
  subst hx hy
  exact ⟨rfl, k _ H (HD.push h.tl.tl (p := rBool.at (a == b)) (by show V.bl _ = V.bl _; cases a <;> cases b <;> rfl))⟩
theorem o2_neB : O2 c rNe m1 rBool m2 rBool .n rBool (fun _ _ => True) (fun a b => a != b) := fun a b _ T σ H x y ⟨A, B, h⟩ Q k => by
  have hx : x = .bl a := h.hd2
  have hy : y = .bl b := h.hd
  subst hx hy
  exact ⟨rfl, k _ H (HD.push h.tl.tl (p := rBool.at (a != b)) (by show V.bl _ = V.bl _; cases a <;> cases b <;> rfl))⟩
/-- is None -/
theorem o2_isN {β : Type} {Rn : Rp β} (hn : ∀ {H v b}, Rn.r H v b → v = .non) : O2 c (fun x y H Q => y = .non ∧ Q (.bl (decide (x = .non))) H) m1 (rOpt R) m2 Rn .n rBool (fun _ _ => True) (fun a _ => a.isNone) := fun a b _ T σ H x y ⟨A, B, h⟩ Q k =>
  ⟨hn h.hd, k _ H (HD.push h.tl.tl (p := rBool.at a.isNone) (by
    have q : (rOpt R).r (view _ A B m1 H) x a := h.hd2
    show V.bl _ = V.bl _
    cases a with
    | none => rw [show x = .non from q]; rfl
    | some z => simp [q.1]))⟩
theorem o2_notN {β : Type} {Rn : Rp β} (hn : ∀ {H v b}, Rn.r H v b → v = .non) : O2 c (fun x y H Q => y = .non ∧ Q (.bl (!decide (x = .non))) H) m1 (rOpt R) m2 Rn .n rBool (fun _ _ => True) (fun a _ => a.isSome) := fun a b _ T σ H x y ⟨A, B, h⟩ Q k =>
  ⟨hn h.hd, k _ H (HD.push h.tl.tl (p := rBool.at a.isSome) (by
    have q : (rOpt R).r (view _ A B m1 H) x a := h.hd2
    show V.bl _ = V.bl _
    cases a with
    | none => rw [show x = .non from q]; rfl
    | some z => simp [q.1]))⟩
/-- == and != of data -/
theorem view_sqT {K : PySem.W.Frag} : ∀ {d : PyData} {v : V} {H H' : Hp}, ExtT H H' → Dp K H v d → Dp K H' v d := by
  intro d
  refine PyData.rec (motive_1 := fun d => ∀ {v : V} {H H' : Hp}, ExtT H H' → Dp K H v d → Dp K H' v d) (motive_2 := fun ds => ∀ {vs : List V} {H H' : Hp}, ExtT H H' → DpAll K H vs ds → DpAll K H' vs ds)
    (motive_3 := fun _ => True) (motive_4 := fun _ => True) ?_ ?_ ?_ ?_ ?_ ?_ ?_ ?_ ?_ ?_ ?_ ?_ d
  · intro v H H' e h; cases h; exact .non
  · intro b v H H' e h; cases h; exact .bl _
  · intro b v H H' e h; cases h; exact .int _
  · intro b v H H' e h; cases h; exact .str _
  · intro xs ih v H H' e h
    cases h with
    | lst h1 h2 =>
      refine .lst ?_ (ih e h2)
      rcases h1 with (h1 | ⟨o, h1⟩) | h1
      · exact .inl (.inl (e.ap _ _ h1))
      · exact .inl (.inr ⟨o, e.ap _ _ h1⟩)
      · exact .inr h1
  · intro xs ih v H H' e h
    cases h with
    | tup h1 h2 => exact .tup (SqT.extT e h1) (ih e h2)
  · intro kvs _ v H H' e h; cases h
  · intro vs H H' e h; cases h; exact .nil
  · intro x xs ih1 ih2 vs H H' e h
    cases h with
    | cons h1 h2 => exact .cons (ih1 e h1) (ih2 e h2)
  · trivial
  · intros; trivial
  · intros; trivial
theorem view_sq {K : PySem.W.Frag} {d : PyData} {v : V} {H H' : Hp} (e : Ext H H') (h : Dp K H v d) : Dp K H' v d := view_sqT e.t h
end
section
variable {F : Fm} {c : Ctx} {α β γ : Type} {R : Rp α} {m m1 m2 : Md} {K : PySem.W.Frag}
theorem shaped_d [Dt K R] (hd : Dt.dep K R ≤ 64) (a : α) : SeqAt.shaped (Dt.d K R a) = true := by
  unfold SeqAt.shaped
  rw [Dt.lay, Bool.true_and]
  exact decide_eq_true (Nat.le_trans (Dt.deep a) hd)
theorem o2_eqD [DecidableEq α] [Dt K R] (hd : Dt.dep K R ≤ 64) : O2 c (rEqD K) m1 R m2 R .n rBool (fun _ _ => True) (fun a b => decide (a = b)) := fun a b _ T σ H x y ⟨A, B, h⟩ Q k =>
  ⟨Dt.d K R a, Dt.d K R b, view_sq view_full (Dt.ok h.hd2), view_sq view_full (Dt.ok h.hd), shaped_d hd a, shaped_d hd b, k _ H (HD.push h.tl.tl (p := rBool.at (decide (a = b))) (by
    show V.bl _ = V.bl _
    congr 1
    rw [Bool.eq_iff_iff, Dt.inj, decide_eq_true_iff]))⟩
theorem o2_neD [DecidableEq α] [Dt K R] (hd : Dt.dep K R ≤ 64) : O2 c (rNeD K) m1 R m2 R .n rBool (fun _ _ => True) (fun a b => !decide (a = b)) := fun a b _ T σ H x y ⟨A, B, h⟩ Q k =>
  ⟨Dt.d K R a, Dt.d K R b, view_sq view_full (Dt.ok h.hd2), view_sq view_full (Dt.ok h.hd), shaped_d hd a, shaped_d hd b, k _ H (HD.push h.tl.tl (p := rBool.at (!decide (a = b))) (by
    show V.bl _ = V.bl _
    congr 2
    rw [Bool.eq_iff_iff, Dt.inj, decide_eq_true_iff]))⟩
end
end TW

set_option maxRecDepth 100000
set_option maxHeartbeats 2000000
namespace TW
open PySem PySem.Spec PyProof.Rows L2

/-! ## 5. contexts made weaker; owned lists -/
inductive Wk : Ctx → Ctx → Prop
  | nil : Wk [] []
  | keep {s : Sl} {c c' : Ctx} : Wk c c' → Wk (s :: c) (s :: c')
  | un {s : Sl} {c c' : Ctx} : Wk c c' → Wk (s :: c) (.un :: c')
  | ns {p : SP} {c c' : Ctx} : Wk c c' → Wk (.sh .n p :: c) (.sh .s p :: c')
theorem Wk.refl : ∀ c : Ctx, Wk c c
  | [] => .nil
  | _ :: c => .keep (Wk.refl c)
theorem Wk.len {c c' : Ctx} (h : Wk c c') : c.length = c'.length := by
  induction h <;> simp_all
theorem Wk.at {c c' : Ctx} (h : Wk c c') : ∀ i : Nat, c'[i]? = c[i]? ∨ c'[i]? = some Sl.un ∨ ∃ p, c[i]? = some (Sl.sh .n p) ∧ c'[i]? = some (Sl.sh .s p) := by
  induction h with
  | nil => intro i; exact .inl rfl
  | keep _ ih => intro i; cases i with
    | zero => exact .inl rfl
    | succ i => simpa using ih i
  | un _ ih => intro i; cases i with
    | zero => exact .inr (.inl rfl)
    | succ i => simpa using ih i
  | ns _ ih => intro i; cases i with
    | zero => exact .inr (.inr ⟨_, rfl, rfl⟩)
    | succ i => simpa using ih i
section
variable {F : Fm} {c c' : Ctx} {T : List Tm} {σ : Sg} {H H' : Hp} {A : Nat → List Addr} {B : List Addr}
/-- fewer owned lists: more is seen -/
theorem view_less {A' : Nat → List Addr} (hA : ∀ i a, a ∈ A' i → a ∈ A i) (m : Md) : Ext (view F A B m H) (view F A' B m H) := by
  refine hid_ext (fun a o _ q => ?_) fun _ _ _ q => q
  cases m
  · rcases q with (q | ⟨i, q⟩) | q
    · exact .inl (.inl q)
    · exact .inl (.inr ⟨i, hA i a q⟩)
    · exact .inr q
  · rcases q with q | ⟨i, q⟩
    · exact .inl q
    · exact .inr ⟨i, hA i a q⟩
  · exact q
theorem slOk.mono {c c' : Ctx} {σ σ' : Sg} {A A' : Nat → List Addr} {H H' : Hp} {i : Nat} (q : slOk F A B c σ H i) (hc : c'[i]? = c[i]?) (hs : ∀ w, σ[i]? = some w → σ'[i]? = some w) (ha : A' i = A i) (hH : ∀ a ∈ A i, H' a = H a)
    (hv : ∀ m, Ext (view F A B m H) (view F A' B m H')) : slOk F A' B c' σ' H' i := by
  unfold slOk at q ⊢
  rw [hc, ha]
  cases e : c[i]? with
  | none => rw [e] at q; exact q
  | some s =>
    rw [e] at q
    cases s with
    | un => exact q
    | sh m p => obtain ⟨a, v, hv1, hp1⟩ := q; exact ⟨a, v, hs _ hv1, SP.mono _ (hv _) hp1⟩
    | ow p => obtain ⟨v, hv1, hp1⟩ := q; exact ⟨v, hs _ hv1, OP.frame _ hH (hv _) hp1⟩
    | io => obtain ⟨a, b, r, z, y⟩ := q; exact ⟨a, b, r, hs _ z, y⟩
theorem HD.weak (w : Wk c c') (h : HD F c T σ H) : HD F c' T σ H := by
  obtain ⟨A, B, h⟩ := h
  classical
  let A' : Nat → List Addr := fun i => if c'[i]? = some .un then [] else A i
  have hA : ∀ i a, a ∈ A' i → a ∈ A i := fun i a q => by
    by_cases e : c'[i]? = some .un
    · have : A' i = [] := if_pos e
      rw [this] at q; simp at q
    · have : A' i = A i := if_neg e
      rw [this] at q; exact q
  have hv := fun m => view_less (F := F) (B := B) (H := H) hA m
  refine ⟨A', B, by rw [← w.len]; exact h.len, fun i => ?_, fun t ht => SP.mono _ (hv _) (h.tm t ht), fun i j a p q => h.dj i j a (hA _ _ p) (hA _ _ q), fun i a q => h.db i a (hA _ _ q), h.iq, h.fr, fun a q => h.ni a (q.imp id fun ⟨i, z⟩ => ⟨i, hA i a z⟩), h.st, h.gb, h.gh⟩
  have q := h.sl i
  unfold slOk at q ⊢
  rcases w.at i with e | e | ⟨p, e1, e2⟩
  · by_cases eu : c'[i]? = some .un
    · rw [eu]; exact if_pos eu
    · have ea : A' i = A i := if_neg eu
      rw [e]
      split at q
      · obtain ⟨a, v, hv1, hp⟩ := q; exact ⟨by rw [ea]; exact a, v, hv1, SP.mono _ (hv _) hp⟩
      · obtain ⟨v, hv1, hp⟩ := q; exact ⟨v, hv1, by rw [ea]; exact OP.frame _ (fun _ _ => rfl) (hv _) hp⟩
      · rw [ea]; exact q
      · rw [ea]; exact q
  · rw [e]; exact if_pos e
  · rw [e2]; rw [e1] at q
    obtain ⟨a, v, hv1, hp⟩ := q
    have ea : A' i = A i := if_neg (by rw [e2]; simp)
    exact ⟨by rw [ea]; exact a, v, hv1, SP.mono _ (hv _) (SP.mono _ view_ns hp)⟩

/-- an owned list: its items seen in mode m -/
def oList (m : Md) {α : Type} (R : Rp α) (xs : List α) : OP where
  md := m
  P := fun A H V v => ∃ l vs, A = [l] ∧ v = .ref l ∧ H l = some (.lst vs) ∧ Paired (R.r V) vs xs
  frameT := fun e1 e2 ⟨l, vs, h1, h2, h3, h4⟩ => ⟨l, vs, h1, h2, by rw [e1 l (by rw [h1]; simp)]; exact h3, Paired.mono (fun _ _ q => R.monoT e2 q) h4⟩
  obj := fun ⟨l, vs, h1, h2, h3, h4⟩ a ha => by
    rw [h1] at ha; simp at ha; subst ha
    exact ⟨_, h3, trivial⟩
/-- a new owned list, kept behind the slots -/
theorem HdA.allocO {m : Md} {α : Type} {R : Rp α} {xs : List α} {vs : List V} {l : Addr} (h : HdA F c T σ H A B) (hl : H l = none) (hp : Paired (R.r (view F A B m H)) vs xs) :
    HD F (c ++ [.ow (oList m R xs)]) T (σ ++ [some (.ref l)]) (upd H l (.lst vs)) := by
  let A' : Nat → List Addr := fun i => if i = c.length then [l] else A i
  have nl : ¬ mutAt H l := fun ⟨o, e, _⟩ => by rw [hl] at e; cases e
  have nown : ¬ (hB F B l ∨ ∃ i, l ∈ A i) := fun z => nl (h.own l z)
  have hA0 : A c.length = [] := by
    have q := h.sl c.length
    unfold slOk at q
    rw [List.getElem?_eq_none (Nat.le_refl _)] at q
    exact q
  have hA : ∀ i a, a ∈ A' i → a = l ∧ i = c.length ∨ a ∈ A i := fun i a q => by
    by_cases e : i = c.length
    · have : A' i = [l] := if_pos e
      rw [this] at q; simp at q; exact .inl ⟨q, e⟩
    · have : A' i = A i := if_neg e
      rw [this] at q; exact .inr q
  have hv : ∀ m, Ext (view F A B m H) (view F A' B m (upd H l (.lst vs))) := fun m => by
    intro a o q
    obtain ⟨q1, q2⟩ := view_some.mp q
    have ne : a ≠ l := ne_of_none q2 hl
    refine view_some.mpr ⟨fun z => q1 ?_, by rw [upd_ne ne]; exact q2⟩
    have sub : (∃ i, a ∈ A' i) → ∃ i, a ∈ A i := fun ⟨i, z⟩ => (hA i a z).elim (fun z => absurd z.1 ne) fun z => ⟨i, z⟩
    cases m
    · rcases z with (z | z) | z
      · exact .inl (.inl z)
      · exact .inl (.inr (sub z))
      · exact .inr z
    · exact z.imp id sub
    · exact z
  refine ⟨A', B, by simp [h.len], fun i => ?_, fun t ht => SP.mono _ (hv _) (h.tm t ht), fun i j a p q => ?_, fun i a q => ?_, h.iq, fun a o q r => Ext.new hl a o (h.fr a o q r), fun a q r => ?_, ?_, h.gb, fun p hp => ⟨Ext.new hl _ _ (h.gh p hp).1, (h.gh p hp).2⟩⟩
  · by_cases e : i = c.length
    · subst e
      unfold slOk
      have e1 : (c ++ [Sl.ow (oList m R xs)])[c.length]? = some (.ow (oList m R xs)) := by simp
      rw [e1]
      exact ⟨.ref l, by rw [h.len]; simp, l, vs, if_pos rfl, rfl, upd_same, Paired.mono (fun _ _ q => R.mono (hv m) q) hp⟩
    · have e1 : (c ++ [Sl.ow (oList m R xs)])[i]? = c[i]? := by
        by_cases hlt : i < c.length
        · rw [List.getElem?_append_left hlt]
        · rw [List.getElem?_eq_none (l := c) (by omega), List.getElem?_eq_none (by simp; omega)]
      exact (h.sl i).mono e1 (fun w z => by rw [List.getElem?_append_left (List.getElem?_eq_some_iff.mp z).1]; exact z) (if_neg e) (fun a ha => upd_ne fun z => nown (by rw [← z]; exact .inr ⟨i, ha⟩)) hv
  · rcases hA i a p with ⟨z1, e1⟩ | p1
    · rcases hA j a q with ⟨_, e2⟩ | q1
      · rw [e1, e2]
      · exact absurd (.inr ⟨j, by rw [← z1]; exact q1⟩) nown
    · rcases hA j a q with ⟨z2, e2⟩ | q1
      · exact absurd (.inr ⟨i, by rw [← z2]; exact p1⟩) nown
      · exact h.dj i j a p1 q1
  · rcases hA i a q with ⟨rfl, _⟩ | q
    · exact fun z => nown (.inl z)
    · exact h.db i a q
  · rcases q with q | ⟨i, q⟩
    · exact h.ni a (.inl q) r
    · rcases hA i a q with ⟨rfl, _⟩ | q
      · cases e : F.H0 a with
        | none => rfl
        | some o =>
          have := h.fr a o e r
          rw [hl] at this; cases this
      · exact h.ni a (.inr ⟨i, q⟩) r
  · rcases h.st with q | q
    · exact .inl q
    · exact .inr (q.frame fun a ha => upd_ne fun z => nown (by rw [← z]; exact .inl (.inl ha)))
/-- it goes into slot i -/
theorem HD.bring {p : OP} {v : V} {i : Nat} (hi : i < c.length) (h : HD F (c ++ [.ow p]) T (σ ++ [some v]) H) : HD F (c.set i (.ow p)) T (σ.set i (some v)) H := by
  obtain ⟨A, B, h⟩ := h
  have hl : c.length = σ.length := by have := h.len; simp at this; exact this
  let A' : Nat → List Addr := fun j => if j = i then A c.length else if j < c.length then A j else []
  have hA : ∀ j a, a ∈ A' j → (j = i ∧ a ∈ A c.length) ∨ (j ≠ i ∧ j < c.length ∧ a ∈ A j) := fun j a q => by
    by_cases e : j = i
    · have : A' j = A c.length := if_pos e
      rw [this] at q; exact .inl ⟨e, q⟩
    · by_cases e2 : j < c.length
      · have : A' j = A j := by show (if j = i then _ else _) = _; rw [if_neg e, if_pos e2]
        rw [this] at q; exact .inr ⟨e, e2, q⟩
      · have : A' j = [] := by show (if j = i then _ else _) = _; rw [if_neg e, if_neg e2]
        rw [this] at q; simp at q
  have sub : ∀ a, (∃ j, a ∈ A' j) → ∃ j, a ∈ A j := fun a ⟨j, q⟩ => (hA j a q).elim (fun z => ⟨_, z.2⟩) fun z => ⟨j, z.2.2⟩
  have hv : ∀ m, Ext (view F A B m H) (view F A' B m H) := fun m => hid_ext (fun a o _ q => by
    cases m
    · rcases q with (q | q) | q
      · exact .inl (.inl q)
      · exact .inl (.inr (sub a q))
      · exact .inr q
    · exact q.imp id (sub a)
    · exact q) fun _ _ _ q => q
  refine ⟨A', B, by simp [hl], fun j => ?_, fun t ht => SP.mono _ (hv _) (h.tm t ht), fun j k a p q => ?_, fun j a q => ?_, h.iq, h.fr, fun a q r => h.ni a (q.imp id (sub a)) r, h.st, h.gb, h.gh⟩
  · unfold slOk
    by_cases e : j = i
    · subst e
      have q := h.sl c.length
      unfold slOk at q
      have e1 : (c ++ [Sl.ow p])[c.length]? = some (.ow p) := by simp
      rw [e1] at q
      obtain ⟨w, hw, hp⟩ := q
      rw [hl] at hw; simp at hw; subst hw
      have e2 : (c.set j (Sl.ow p))[j]? = some (.ow p) := by simp [List.getElem?_set_self hi]
      have ea : A' j = A c.length := if_pos rfl
      rw [e2, ea]
      exact ⟨v, by rw [List.getElem?_set_self (by rw [← hl]; exact hi)], OP.frame _ (fun _ _ => rfl) (hv _) hp⟩
    · have e1 : (c.set i (Sl.ow p))[j]? = c[j]? := List.getElem?_set_ne (fun z => e z.symm)
      have e2 : (σ.set i (some v))[j]? = σ[j]? := List.getElem?_set_ne (fun z => e z.symm)
      rw [e1, e2]
      by_cases hj : j < c.length
      · have ea : A' j = A j := by show (if j = i then _ else _) = _; rw [if_neg e, if_pos hj]
        have q := (h.sl j).mono (c' := c) (σ' := σ) (A' := A') (by rw [List.getElem?_append_left hj]) (fun w z => by rw [List.getElem?_append_left (by rw [← hl]; exact hj)] at z; exact z) ea (fun _ _ => rfl) hv
        exact q
      · rw [List.getElem?_eq_none (l := c) (by omega)]
        show (if j = i then _ else _) = _
        rw [if_neg e, if_neg hj]
  · rcases hA j a p with ⟨e1, p1⟩ | ⟨e1, l1, p1⟩ <;> rcases hA k a q with ⟨e2, q1⟩ | ⟨e2, l2, q1⟩
    · rw [e1, e2]
    · exact absurd (h.dj _ _ a p1 q1) (by omega)
    · exact absurd (h.dj _ _ a p1 q1) (by omega)
    · exact h.dj _ _ a p1 q1
  · rcases hA j a q with ⟨_, q⟩ | ⟨_, _, q⟩ <;> exact h.db _ a q
/-- what an owned thing is when it is shared -/
class OwR {α : Type} (p : α → OP) (m : outParam Md) (R : outParam (Rp α)) : Prop where
  md : ∀ x, (p x).md = m
  sh : ∀ {A H V0 v x V}, (p x).P A H V0 v → (∀ a ∈ A, ∀ o, H a = some o → V a = some o) → Ext V0 V → R.r V v x
instance {m : Md} {α : Type} {R : Rp α} : OwR (oList m R) m (rList R) := ⟨fun _ => rfl, fun {A H V0 v x V} ⟨l, vs, h1, h2, h3, h4⟩ e1 e2 => ⟨l, vs, h2, e1 l (by rw [h1]; simp) _ h3, Paired.mono (fun _ _ q => R.mono e2 q) h4⟩⟩
theorem HD.share {m : Md} {α : Type} {R : Rp α} {p : α → OP} [hp0 : OwR p m R] {x : α} {v : V} (h : HD F (c ++ [.ow (p x)]) T (σ ++ [some v]) H) : HD F c (⟨v, m, R.at x⟩ :: T) σ H := by
  obtain ⟨A, B, h⟩ := h
  have hl : c.length = σ.length := by have := h.len; simp at this; exact this
  let A' : Nat → List Addr := fun j => if j < c.length then A j else []
  have hA : ∀ j a, a ∈ A' j → j < c.length ∧ a ∈ A j := fun j a q => by
    by_cases e2 : j < c.length
    · have : A' j = A j := if_pos e2
      rw [this] at q; exact ⟨e2, q⟩
    · have : A' j = [] := if_neg e2
      rw [this] at q; simp at q
  have hv : ∀ m, Ext (view F A B m H) (view F A' B m H) := fun m => view_less (fun i a q => (hA i a q).2) m
  have q := h.sl c.length
  unfold slOk at q
  have e1 : (c ++ [Sl.ow (p x)])[c.length]? = some (.ow (p x)) := by simp
  rw [e1] at q
  obtain ⟨w, hw, hp⟩ := q
  rw [hl] at hw; simp at hw; subst hw
  have vis : ∀ m, ∀ l ∈ A c.length, ¬ vP F A' B m l := fun m l lin z => by
   have nI : l ∉ F.I := fun z => h.db _ l lin (.inl (h.io l z))
   have h0 : F.H0 l = none := h.ni l (.inr ⟨_, lin⟩) nI
   have nB : ¬ hB F B l := h.db _ l lin
   have nA : ¬ ∃ j, l ∈ A' j := fun ⟨j, z⟩ => by
      obtain ⟨j1, j2⟩ := hA j l z
      have := h.dj _ _ l j2 lin
      omega
   cases m
   · rcases z with (z | z) | ⟨o, z, _⟩
     · exact nB z
     · exact nA z
     · rw [h0] at z; cases z
   · exact z.elim nB nA
   · exact nB z
  refine HD.push (A := A') (B := B) ⟨hl, fun j => ?_, fun t ht => SP.mono _ (hv _) (h.tm t ht), fun i j a p q => h.dj i j a (hA _ _ p).2 (hA _ _ q).2, fun i a q => h.db i a (hA _ _ q).2, h.iq, h.fr, fun a q => h.ni a (q.imp id fun ⟨i, z⟩ => ⟨i, (hA i a z).2⟩), h.st, h.gb, h.gh⟩ ?_
  · unfold slOk
    by_cases hj : j < c.length
    · have ea : A' j = A j := if_pos hj
      exact (h.sl j).mono (c' := c) (σ' := σ) (A' := A') (by rw [List.getElem?_append_left hj]) (fun w z => by rw [List.getElem?_append_left (by rw [← hl]; exact hj)] at z; exact z) ea (fun _ _ => rfl) hv
    · rw [List.getElem?_eq_none (l := c) (by omega)]
      exact if_neg hj
  · exact hp0.sh hp (fun a ha o e => view_some.mpr ⟨vis m a ha, e⟩) (by rw [hp0.md]; exact hv m)
end
end TW

set_option maxRecDepth 100000
set_option maxHeartbeats 2000000
namespace TW
open PySem PySem.Spec PyProof.Rows L2

/-! ## 6. statements -/
def NoB (T : List Tm) : Prop := ∀ t ∈ T, t.m ≠ .b
def SW (F : Fm) (c : Ctx) (T : List Tm) (t : TS) (D : Ends) (W : Prop) : Prop := NoB T → W → ∀ σ H, HD F c T σ H → t D σ H
/-- what stands at a def's end -/
structure RetOk (F : Fm) {α : Type} (R : Rp α) (a : α) (v : V) (H' : Hp) : Prop where
  fr : ∀ x o, F.H0 x = some o → x ∉ F.I → H' x = some o
  st : F.I = [] ∨ StP F.I H'
  rp : R.r (hid (fun x => x ∈ F.I ∨ mutAt F.H0 x) H') v a
def RtOk (F : Fm) {α : Type} (R : Rp α) (Post : α → Prop) (rt : VK) : Prop := ∀ a v H', Post a → RetOk F R a v H' → rt v H'
def Nx {τ : Type} (F : Fm) (T : List Tm) (cc : τ → Ctx) (κ : τ → Prop) (nx : Sg → Hp → Prop) : Prop := ∀ t, κ t → ∀ σ H, HD F (cc t) T σ H → nx σ H
def isFree (c : Ctx) (i : Nat) : Bool := match c[i]? with | some (.ow _) => false | some _ => true | none => false
section
variable {F : Fm} {c : Ctx} {T : List Tm} {σ : Sg} {H : Hp} {A : Nat → List Addr} {B : List Addr} {D : Ends} {α β τ : Type} {R : Rp α} {m : Md} {te : TE} {tr ta tb : TS}
theorem isFree_A {i : Nat} (hi : isFree c i = true) (h : HdA F c T σ H A B) : i < c.length ∧ A i = [] := by
  unfold isFree at hi
  have q := h.sl i
  unfold slOk at q
  cases e : c[i]? with
  | none => rw [e] at hi; cases hi
  | some s =>
    refine ⟨(List.getElem?_eq_some_iff.mp e).1, ?_⟩
    rw [e] at hi q
    cases s with
    | un => exact q
    | sh m p => exact q.1
    | ow p => cases hi
    | io => exact q.1
theorem HD.setTop {i : Nat} {v : V} {p : SP} (hi : isFree c i = true) (h : HD F c (⟨v, m, p⟩ :: T) σ H) : HD F (c.set i (.sh m p)) T (σ.set i (some v)) H := by
  obtain ⟨A, B, h⟩ := h
  obtain ⟨h1, h2⟩ := isFree_A hi h
  exact ⟨A, B, HdA.set h.tl h1 h.hd h2⟩
/-- a finished block: what is wanted behind it -/
theorem sw_nx {cc : τ → Ctx} {κ : τ → Prop} (h : Nx F T cc κ D.nx) (t : τ) (w : Wk c (cc t)) : SW F c T tNext D (κ t) := fun _ k σ H hd => h t k σ H (hd.weak w)
theorem sw_break {cc : τ → Ctx} {κ : τ → Prop} (h : Nx F T cc κ D.bk) (t : τ) (w : Wk c (cc t)) : SW F c T (tSeq tBreak tr) D (κ t) := fun _ k σ H hd => h t k σ H (hd.weak w)
theorem sw_cont {cc : τ → Ctx} {κ : τ → Prop} (h : Nx F T cc κ D.ct) (t : τ) (w : Wk c (cc t)) : SW F c T (tSeq tCont tr) D (κ t) := fun _ k σ H hd => h t k σ H (hd.weak w)
theorem sw_pass {W : Prop} (k : SW F c T tr D W) : SW F c T (tSeq tNext tr) D W := k
theorem sw_imp {t : TS} {W W' : Prop} (h : SW F c T t D W) (e : W' → W) : SW F c T t D W' := fun nb w => h nb (e w)
theorem sw_wk {c' : Ctx} {t : TS} {W : Prop} (w : Wk c c') (h : SW F c' T t D W) : SW F c T t D W := fun nb k σ H hd => h nb k σ H (hd.weak w)
/-- x = e -/
theorem sw_asg {i : Nat} {We : (α → Prop) → Prop} {Wr : α → Prop} (he : EW c te m R We) (k : ∀ a, SW F (c.set i (.sh m (R.at a))) T tr D (Wr a)) (hi : isFree c i = true := by rfl) : SW F c T (tSeq (tAsg te (gName i)) tr) D (We Wr) :=
  fun nb w σ H hd => he _ w T σ H hd _ fun a v H' pa h' => k a nb pa _ H' (h'.setTop hi)
/-- a judgement of new lists -/
def EO (c : Ctx) (te : TE) {ι : Type} (p : ι → OP) (W : (ι → Prop) → Prop) : Prop :=
  ∀ {F : Fm} (Post : ι → Prop), W Post → ∀ T σ H, HD F c T σ H → ∀ Q : VK, (∀ i v H', Post i → HD F (c ++ [.ow (p i)]) T (σ ++ [some v]) H' → Q v H') → te σ H Q
theorem eo_sh {p : α → OP} [OwR p m R] {W : (α → Prop) → Prop} (h : EO c te p W) : EW c te m R W := fun P w T σ H hd Q k => h P w T σ H hd Q fun i v H' pi q => k i v H' pi q.share
theorem eo_shP {p : α → OP} [OwR p m R] {S : Prop} {a : α} (h : EO c te p (fun P => S ∧ P a)) : EP c te m R S a := fun s T σ H hd Q k => h (fun x => x = a) ⟨s, rfl⟩ T σ H hd Q fun i v H' pi q => by
  subst pi; exact k v H' q.share
theorem sw_asgO {ι : Type} {p : ι → OP} {i : Nat} {We : (ι → Prop) → Prop} {Wr : ι → Prop} (he : EO c te p We) (k : ∀ a, SW F (c.set i (.ow (p a))) T tr D (Wr a)) (hi : isFree c i = true := by rfl) : SW F c T (tSeq (tAsg te (gName i)) tr) D (We Wr) :=
  fun nb w σ H hd => he _ w T σ H hd _ fun a v H' pa h' => k a nb pa _ H' (h'.bring (by
    obtain ⟨A, B, hd⟩ := hd
    exact (isFree_A hi hd).1))
/-- an owned name may get a new list too -/
theorem sw_asgOO {ι : Type} {p : ι → OP} {i : Nat} {We : (ι → Prop) → Prop} {Wr : ι → Prop} (he : EO c te p We) (k : ∀ a, SW F (c.set i (.ow (p a))) T tr D (Wr a)) (hi : i < c.length := by exact Nat.le_of_ble_eq_true rfl) : SW F c T (tSeq (tAsg te (gName i)) tr) D (We Wr) :=
  fun nb w σ H hd => he _ w T σ H hd _ fun a v H' pa h' => k a nb pa _ H' (h'.bring hi)
/-- e alone -/
theorem sw_expr {We : (α → Prop) → Prop} {Wr : Prop} (he : EW c te m R We) (k : SW F c T tr D Wr) : SW F c T (tSeq (tDrop te) tr) D (We fun _ => Wr) :=
  fun nb w σ H hd => he _ w T σ H hd _ fun a v H' pa h' => k nb pa σ H' h'.pop
/-- return e -/
theorem HdA.ret {v : V} {a : α} (h : HdA F c (⟨v, .n, R.at a⟩ :: T) σ H A B) : RetOk F R a v H := by
  refine ⟨h.fr, ?_, ?_⟩
  · rcases h.iq with e | e
    · exact .inl e
    · rw [e]; exact h.st
  · refine R.mono ?_ (show R.r (view F A B .n H) v a from h.hd)
    exact hid_ext (fun x o _ q => q.elim (fun z => .inl (.inl (.inl (h.io x z)))) .inr) fun _ _ _ q => q
theorem sw_ret {We : (α → Prop) → Prop} {Post : α → Prop} (hR : RtOk F R Post D.rt) (he : EW c te .n R We) : SW F c T (tSeq (tRet te) tr) D (We Post) :=
  fun nb w σ H hd => he _ w T σ H hd _ fun a v H' pa ⟨A, B, h'⟩ => hR a v H' pa h'.ret
theorem sw_retN {R : Rp α} {a : α} {Post : α → Prop} (hR : RtOk F R Post D.rt) (hn : ∀ H, R.r H .non a) : SW F c T (tSeq tRetN tr) D (Post a) :=
  fun nb w σ H ⟨A, B, hd⟩ => hR a .non H w (HdA.ret (R := R) (a := a) (T := T) ⟨hd.len, hd.sl, (fun t ht => (List.mem_cons.mp ht).elim (fun z => by subst z; exact hn _) (fun z => hd.tm t z)), hd.dj, hd.db, hd.iq, hd.fr, hd.ni, hd.st, hd.gb, hd.gh⟩)
/-- if -/
theorem sw_if {cc : τ → Ctx} {tc : TT} {Wt : (Bool → Prop) → Prop} {Wa Wb : (τ → Prop) → Prop} {Wr : τ → Prop} (ht : TW' c tc Wt)
    (ha : ∀ (κ : τ → Prop) (nx : Sg → Hp → Prop), Nx F T cc κ nx → SW F c T ta { D with nx := nx } (Wa κ)) (hb : ∀ (κ : τ → Prop) (nx : Sg → Hp → Prop), Nx F T cc κ nx → SW F c T tb { D with nx := nx } (Wb κ))
    (hr : ∀ t, SW F (cc t) T tr D (Wr t)) : SW F c T (tSeq (tIfS tc ta tb) tr) D (Wt fun b => ∃ κ : τ → Prop, (∀ t, κ t → Wr t) ∧ (b = true → Wa κ) ∧ (b = false → Wb κ)) :=
  fun nb w σ H hd => ht _ w T σ H hd _ fun b H' pb h' => by
    obtain ⟨κ, k1, k2, k3⟩ := pb
    have nx : Nx F T cc κ (tr D) := fun t kt σ H hd => hr t nb (k1 t kt) σ H hd
    cases b with
    | true => exact ha κ _ nx nb (k2 rfl) σ H' h'
    | false => exact hb κ _ nx nb (k3 rfl) σ H' h'
/-- if c: .. that does not go on -/
theorem sw_ifx {tc : TT} {Wt : (Bool → Prop) → Prop} {Wa Wr : Prop} (ht : TW' c tc Wt) (ha : ∀ (nx : Sg → Hp → Prop), SW F c T ta { D with nx := nx } Wa) (hr : SW F c T tr D Wr) :
    SW F c T (tSeq (tIfS tc ta tNext) tr) D (Wt fun b => (b = true → Wa) ∧ (b = false → Wr)) :=
  fun nb w σ H hd => ht _ w T σ H hd _ fun b H' pb h' => by
    cases b with
    | true => exact ha _ nb (pb.1 rfl) σ H' h'
    | false => exact hr nb (pb.2 rfl) σ H' h'
/-- both ways do not go on -/
theorem sw_ifxx {tc : TT} {Wt : (Bool → Prop) → Prop} {Wa Wb : Prop} (ht : TW' c tc Wt) (ha : ∀ (nx : Sg → Hp → Prop), SW F c T ta { D with nx := nx } Wa) (hb : ∀ (nx : Sg → Hp → Prop), SW F c T tb { D with nx := nx } Wb) :
    SW F c T (tSeq (tIfS tc ta tb) tr) D (Wt fun b => (b = true → Wa) ∧ (b = false → Wb)) :=
  fun nb w σ H hd => ht _ w T σ H hd _ fun b H' pb h' => by
    cases b with
    | true => exact ha _ nb (pb.1 rfl) σ H' h'
    | false => exact hb _ nb (pb.2 rfl) σ H' h'

/-! ## 7. loops -/
def Off (js : List Nat) (σ σ' : Sg) : Prop := σ'.length = σ.length ∧ ∀ k : Nat, k ∉ js → σ'[k]? = σ[k]?
theorem Off.refl {σ : Sg} : Off [] σ σ := ⟨rfl, fun _ _ => rfl⟩
theorem Off.set {σ : Sg} {i : Nat} {x : Option V} : Off [i] σ (σ.set i x) := ⟨by simp, fun k hk => List.getElem?_set_ne (fun z => hk (by simp [z]))⟩
theorem Off.trans {js ks : List Nat} {σ σ1 σ2 : Sg} (a : Off js σ σ1) (b : Off ks σ1 σ2) : Off (js ++ ks) σ σ2 := ⟨b.1.trans a.1, fun k hk => (b.2 k fun z => hk (List.mem_append_right _ z)).trans (a.2 k fun z => hk (List.mem_append_left _ z))⟩
structure ItO (T T' : List Tm) (J : It) (m : Md) {β : Type} (R : Rp β) (xs : List β) : Prop where
  sub : ∀ t ∈ T, t ∈ T'
  nb : m ≠ .b → NoB T → NoB T'
  go : ∀ F c T2 σ H, (∀ t ∈ T', t ∈ T2) → HD F c T2 σ H → ∀ i, i < xs.length → J.go i H
  stop : ∀ F c T2 σ H, (∀ t ∈ T', t ∈ T2) → HD F c T2 σ H → J.stop xs.length H
  yld : ∀ F c T2 σ H, (∀ t ∈ T', t ∈ T2) → HD F c T2 σ H → ∀ i (h : i < xs.length) x H', J.yld i H x H' → HD F c (⟨x, m, R.at xs[i]⟩ :: T2) σ H'
def IW (c : Ctx) (wi : TI) (m : Md) {β : Type} (R : Rp β) (W : (List β → Prop) → Prop) : Prop :=
  ∀ {F : Fm} (Post : List β → Prop), W Post → ∀ T σ H, HD F c T σ H → ∀ K : It → Hp → Prop, (∀ xs J T' H', Post xs → ItO T T' J m R xs → HD F c T' σ H' → K J H') → wi σ H K
def GP (c : Ctx) (g : TG) (m : Md) {β : Type} (R : Rp β) (cg : β → Ctx) (js : List Nat) : Prop :=
  ∀ {F : Fm} b x T σ H, HD F c (⟨x, m, R.at b⟩ :: T) σ H → ∀ Q : Sg → Hp → Prop, (∀ σ' H', HD F (cg b) T σ' H' → Off js σ σ' → Q σ' H') → g x σ H Q
theorem gp_name {Rb : Rp β} {i : Nat} (hi : isFree c i = true := by rfl) : GP c (gName i) m Rb (fun b => c.set i (.sh m (Rb.at b))) [i] := fun b x T σ H hd Q k => k _ H (hd.setTop hi) Off.set
theorem gp_pair {K : PySem.W.Frag} {γ : Type} {R1 : Rp β} {R2 : Rp γ} {g1 g2 : TG} {c1 : β → Ctx} {c2 : β → γ → Ctx} {js ks : List Nat} (h1 : GP c g1 m R1 c1 js) (h2 : ∀ a, GP (c1 a) g2 m R2 (c2 a) ks) :
    GP c (gTup K 2 (gCons g1 (gCons g2 gNil))) m (rPair K R1 R2) (fun p => c2 p.1 p.2) (js ++ ks) := fun b x T σ H ⟨A, B, hd⟩ Q k => by
  obtain ⟨a, x1, x2, e, hs, r1, r2⟩ := (show (rPair K R1 R2).r (view _ A B m H) x b from hd.hd)
  refine ⟨a, [x1, x2], e, SqT.ext view_full hs, rfl, x1, [x2], rfl, ?_⟩
  have hd2 := hd.tl.puts [⟨x1, m, R1.at b.1⟩, ⟨x2, m, R2.at b.2⟩] (fun t ht => by
    simp only [List.mem_cons, List.not_mem_nil, or_false] at ht
    rcases ht with z | z <;> subst z
    · exact r1
    · exact r2)
  exact h1 _ _ _ σ H hd2 _ fun σ1 H1 q1 o1 => ⟨x2, [], rfl, h2 _ _ _ _ σ1 H1 q1 _ fun σ2 H2 q2 o2 => ⟨rfl, k σ2 H2 q2 (o1.trans o2)⟩⟩
theorem gp_tri {K : PySem.W.Frag} {γ δ : Type} {R1 : Rp β} {R2 : Rp γ} {R3 : Rp δ} {g1 g2 g3 : TG} {c1 : β → Ctx} {c2 : β → γ → Ctx} {c3 : β → γ → δ → Ctx} {js ks ls : List Nat} (h1 : GP c g1 m R1 c1 js) (h2 : ∀ a, GP (c1 a) g2 m R2 (c2 a) ks) (h3 : ∀ a b, GP (c2 a b) g3 m R3 (c3 a b) ls) :
    GP c (gTup K 3 (gCons g1 (gCons g2 (gCons g3 gNil)))) m (rTri K R1 R2 R3) (fun p => c3 p.1 p.2.1 p.2.2) (js ++ (ks ++ ls)) := fun b x T σ H ⟨A, B, hd⟩ Q k => by
  obtain ⟨a, x1, x2, x3, e, hs, r1, r2, r3⟩ := (show (rTri K R1 R2 R3).r (view _ A B m H) x b from hd.hd)
  refine ⟨a, [x1, x2, x3], e, SqT.ext view_full hs, rfl, x1, [x2, x3], rfl, ?_⟩
  have hd2 := hd.tl.puts [⟨x1, m, R1.at b.1⟩, ⟨x2, m, R2.at b.2.1⟩, ⟨x3, m, R3.at b.2.2⟩] (fun t ht => by
    simp only [List.mem_cons, List.not_mem_nil, or_false] at ht
    rcases ht with z | z | z <;> subst z
    · exact r1
    · exact r2
    · exact r3)
  exact h1 _ _ _ σ H hd2 _ fun σ1 H1 q1 o1 => ⟨x2, [x3], rfl, h2 _ _ _ _ σ1 H1 q1 _ fun σ2 H2 q2 o2 => ⟨x3, [], rfl, h3 _ _ _ _ _ σ2 H2 q2 _ fun σ3 H3 q3 o3 => ⟨rfl, k σ3 H3 q3 (o1.trans (o2.trans o3))⟩⟩⟩
/-- a, b = e with e a pair or a triple -/
theorem sw_asgT {g : TG} {cg : α → Ctx} {js : List Nat} {We : (α → Prop) → Prop} {Wr : α → Prop} (he : EW c te m R We) (hg : GP c g m R cg js) (k : ∀ a, SW F (cg a) T tr D (Wr a)) : SW F c T (tSeq (tAsg te g) tr) D (We Wr) :=
  fun nb w σ H hd => he _ w T σ H hd _ fun a v H' pa h' => hg a v T σ H' h' _ fun σ2 H2 h2 _ => k a nb pa σ2 H2 h2
/-- a, b = e1, e2 -/
theorem sw_par {Rb : Rp β} {i j : Nat} {t1 t2 : TE} {W1 : (α → Prop) → Prop} {W2 : α → (β → Prop) → Prop} {Wr : α → β → Prop} {m1 m2 : Md} (h1 : EW c t1 m1 R W1) (h2 : ∀ a, EW c t2 m2 Rb (W2 a)) (k : ∀ a b, SW F ((c.set i (.sh m1 (R.at a))).set j (.sh m2 (Rb.at b))) T tr D (Wr a b))
    (hi : isFree c i = true := by rfl) (hj : ∀ a, isFree (c.set i (.sh m1 (R.at a))) j = true := by intro _; rfl) : SW F c T (tSeq (tPar i j (tCons t1 (tCons t2 tNil))) tr) D (W1 fun a => W2 a fun b => Wr a b) :=
  fun nb w σ H hd => h1 _ w T σ H hd _ fun a x H1 pa q1 => h2 a _ pa _ σ H1 q1 _ fun b y H2 pb q2 => ⟨x, y, rfl, k a b nb pb _ H2 (by
    have q3 : HD F c (⟨x, m1, R.at a⟩ :: ⟨y, m2, Rb.at b⟩ :: T) σ H2 := q2.sub fun t ht => by
      simp only [List.mem_cons] at ht ⊢
      rcases ht with z | z | z
      · exact .inr (.inl z)
      · exact .inl z
      · exact .inr (.inr z)
    exact (q3.setTop hi).setTop (hj a))⟩
theorem sw_for {cc : τ → Ctx} {t0 : τ} {wi : TI} {g : TG} {Rb : Rp β} {cg : τ → β → Ctx} {js : List Nat} {ρ : Type} {Rr : Rp ρ} {Post : ρ → Prop} {Wi : (List β → Prop) → Prop} {Wb : τ → β → (τ → Prop) → (τ → Prop) → Prop} {Wr : τ → Prop}
    (hi : IW c wi m Rb Wi) (hw : Wk c (cc t0)) (hR : RtOk F Rr Post D.rt) (hg : ∀ t, GP (cc t) g m Rb (cg t) js)
    (hb : ∀ t x (T' : List Tm) (κ κb : τ → Prop) (D' : Ends), Nx F T' cc κ D'.nx → Nx F T' cc κ D'.ct → Nx F T' cc κb D'.bk → RtOk F Rr Post D'.rt → SW F (cg t x) T' tb D' (Wb t x κ κb))
    (hr : ∀ t, SW F (cc t) T tr D (Wr t)) (hm : m ≠ .b := by decide) :
    SW F c T (tSeq (tFor wi g tb) tr) D (Wi fun xs => ∃ I : List β → τ → Prop, I [] t0 ∧ (∀ pre x post t, xs = pre ++ x :: post → I pre t → Wb t x (I (pre ++ [x])) Wr) ∧ ∀ t, I xs t → Wr t) :=
  fun nb w σ H hd => hi _ w T σ H hd _ fun xs J T' H1 pw io h1 => by
    obtain ⟨I, i0, i1, i2⟩ := pw
    have nb' := io.nb hm nb
    refine ⟨fun i k σ H => k = xs.length - i ∧ i ≤ xs.length ∧ ∃ t, I (xs.take i) t ∧ HD F (cc t) T' σ H, ⟨xs.length, by simp, Nat.zero_le _, t0, by simpa using i0, h1.weak hw⟩, ?_⟩
    rintro i k σ2 H2 ⟨rfl, hi, t, it, h2⟩
    by_cases hlt : i < xs.length
    · refine .inr ⟨io.go _ _ _ _ _ (fun _ z => z) h2 i hlt, fun σ' H' => ∃ t, I (xs.take (i + 1)) t ∧ HD F (cc t) T' σ' H', fun σ' H' ⟨t', a, b⟩ => ⟨xs.length - (i + 1), by omega, rfl, hlt, t', a, b⟩, fun x H3 y => ?_⟩
      have h3 := io.yld _ _ _ _ _ (fun _ z => z) h2 i hlt x H3 y
      refine hg t _ _ _ _ _ h3 _ fun σ4 H4 h4 _ => ?_
      have e1 : xs.take (i + 1) = xs.take i ++ [xs[i]] := by rw [List.take_succ, List.getElem?_eq_getElem hlt]; rfl
      refine hb t xs[i] T' (I (xs.take i ++ [xs[i]])) Wr { nx := fun σ' H' => ∃ t, I (xs.take (i + 1)) t ∧ HD F (cc t) T' σ' H', rt := D.rt, bk := tr D, ct := fun σ' H' => ∃ t, I (xs.take (i + 1)) t ∧ HD F (cc t) T' σ' H' } ?_ ?_ ?_ hR nb' (i1 (xs.take i) xs[i] (xs.drop (i + 1)) t ?_ it) σ4 H4 h4
      · exact fun t' q σ' H' hd' => ⟨t', by rw [e1]; exact q, hd'⟩
      · exact fun t' q σ' H' hd' => ⟨t', by rw [e1]; exact q, hd'⟩
      · exact fun t' q σ' H' hd' => hr t' nb q σ' H' (hd'.sub io.sub)
      · rw [List.getElem_cons_drop, List.take_append_drop]
    · have e : i = xs.length := by omega
      subst e
      exact .inl ⟨io.stop _ _ _ _ _ (fun _ z => z) h2, hr t nb (i2 t (by simpa using it)) σ2 H2 (h2.sub io.sub)⟩
theorem sw_while {cc : τ → Ctx} {t0 : τ} {tc : TT} {ρ : Type} {Rr : Rp ρ} {Post : ρ → Prop} {Wt : τ → (Bool → Prop) → Prop} {Wb : τ → (τ → Prop) → (τ → Prop) → Prop} {Wr : τ → Prop}
    (hw : Wk c (cc t0)) (hR : RtOk F Rr Post D.rt) (ht : ∀ t, TW' (cc t) tc (Wt t))
    (hb : ∀ t (κ κb : τ → Prop) (D' : Ends), Nx F T cc κ D'.nx → Nx F T cc κ D'.ct → Nx F T cc κb D'.bk → RtOk F Rr Post D'.rt → SW F (cc t) T tb D' (Wb t κ κb))
    (hr : ∀ t, SW F (cc t) T tr D (Wr t)) :
    SW F c T (tSeq (tWhile tc tb) tr) D (∃ (I : τ → Prop) (μ : τ → Nat), I t0 ∧ ∀ t, I t → Wt t fun b => (b = true → Wb t (fun t' => I t' ∧ μ t' < μ t) Wr) ∧ (b = false → Wr t)) :=
  fun nb ⟨I, μ, i0, i1⟩ σ H hd => by
    refine ⟨fun k σ H => ∃ t, I t ∧ k = μ t ∧ HD F (cc t) T σ H, ⟨μ t0, t0, i0, rfl, hd.weak hw⟩, ?_⟩
    rintro k σ2 H2 ⟨t, it, rfl, h2⟩
    refine ht t _ (i1 t it) T σ2 H2 h2 _ fun b H3 pb h3 => ?_
    cases b with
    | true =>
      refine ⟨fun σ' H' => ∃ t', (I t' ∧ μ t' < μ t) ∧ HD F (cc t') T σ' H', fun σ' H' ⟨t', ⟨a, l⟩, h⟩ => ⟨μ t', l, t', a, rfl, h⟩, ?_⟩
      exact hb t (fun t' => I t' ∧ μ t' < μ t) Wr { nx := fun σ' H' => ∃ t', (I t' ∧ μ t' < μ t) ∧ HD F (cc t') T σ' H', rt := D.rt, bk := tr D, ct := fun σ' H' => ∃ t', (I t' ∧ μ t' < μ t) ∧ HD F (cc t') T σ' H' } (fun t' q σ' H' hd' => ⟨t', q, hd'⟩) (fun t' q σ' H' hd' => ⟨t', q, hd'⟩) (fun t' q σ' H' hd' => hr t' nb q σ' H' hd') hR nb (pb.1 rfl) σ2 H3 h3
    | false => exact hr t nb (pb.2 rfl) σ2 H3 h3
end
end TW

set_option maxRecDepth 100000
set_option maxHeartbeats 2000000
namespace TW
open PySem PySem.Spec PyProof.Rows L2

/-! ## 8. tests -/
section
variable {F : Fm} {c : Ctx} {T : List Tm} {σ : Sg} {H : Hp} {A : Nat → List Addr} {B : List Addr} {α β γ ι : Type} {R : Rp α} {Rb : Rp β} {Rc : Rp γ} {m m1 m2 m3 : Md} {te ta tb tc : TE} {tt tu : TT} {K : PySem.W.Frag}
theorem tp_e {S : Prop} {b : Bool} (h : EP c te m rBool S b) : TP' c (tTest te) S b := fun s T σ H hd Q k => h s T σ H hd _ fun v H' ⟨A, B, q⟩ => ⟨b, q.hd, k H' ⟨A, B, q.tl⟩⟩
theorem tp_eB {S : Prop} {b : Bool} (h : EP c te m rBool S b) : TP' c (tB te) S b := fun s T σ H hd Q k => h s T σ H hd _ fun v H' ⟨A, B, q⟩ => ⟨b, q.hd, k H' ⟨A, B, q.tl⟩⟩
theorem tw_e {W : (Bool → Prop) → Prop} (h : EW c te m rBool W) : TW' c (tTest te) W := fun P w T σ H hd Q k => h P w T σ H hd _ fun b v H' pb ⟨A, B, q⟩ => ⟨b, q.hd, k b H' pb ⟨A, B, q.tl⟩⟩
theorem tw_eB {W : (Bool → Prop) → Prop} (h : EW c te m rBool W) : TW' c (tB te) W := fun P w T σ H hd Q k => h P w T σ H hd _ fun b v H' pb ⟨A, B, q⟩ => ⟨b, q.hd, k b H' pb ⟨A, B, q.tl⟩⟩
theorem tp_and {Sa Sb : Prop} {a b : Bool} (ha : TP' c tt Sa a) (hb : TP' c tu Sb b) : TP' c (tAnd tt tu) (Sa ∧ (a = true → Sb)) (a && b) := fun s T σ H hd Q k => ha s.1 T σ H hd _ fun H1 h1 => by
  cases a with
  | true => exact hb (s.2 rfl) T σ H1 h1 Q k
  | false => exact k H1 h1
theorem tp_or {Sa Sb : Prop} {a b : Bool} (ha : TP' c tt Sa a) (hb : TP' c tu Sb b) : TP' c (tOr tt tu) (Sa ∧ (a = false → Sb)) (a || b) := fun s T σ H hd Q k => ha s.1 T σ H hd _ fun H1 h1 => by
  cases a with
  | false => exact hb (s.2 rfl) T σ H1 h1 Q k
  | true => exact k H1 h1
theorem tp_not {Sa : Prop} {a : Bool} (ha : TP' c tt Sa a) : TP' c (tNot tt) Sa (!a) := fun s T σ H hd Q k => ha s T σ H hd _ fun H1 h1 => k H1 h1
theorem tw_and {Wa Wb : (Bool → Prop) → Prop} (ha : TW' c tt Wa) (hb : TW' c tu Wb) : TW' c (tAnd tt tu) (fun P => Wa fun a => (a = true → Wb P) ∧ (a = false → P false)) := fun P w T σ H hd Q k => ha _ w T σ H hd _ fun a H1 pa h1 => by
  cases a with
  | true => exact hb P (pa.1 rfl) T σ H1 h1 Q k
  | false => exact k _ H1 (pa.2 rfl) h1
theorem tw_or {Wa Wb : (Bool → Prop) → Prop} (ha : TW' c tt Wa) (hb : TW' c tu Wb) : TW' c (tOr tt tu) (fun P => Wa fun a => (a = false → Wb P) ∧ (a = true → P true)) := fun P w T σ H hd Q k => ha _ w T σ H hd _ fun a H1 pa h1 => by
  cases a with
  | false => exact hb P (pa.1 rfl) T σ H1 h1 Q k
  | true => exact k _ H1 (pa.2 rfl) h1
theorem tw_not {Wa : (Bool → Prop) → Prop} (ha : TW' c tt Wa) : TW' c (tNot tt) (fun P => Wa fun a => P (!a)) := fun P w T σ H hd Q k => ha _ w T σ H hd _ fun a H1 pa h1 => k _ H1 pa h1
/-- .. as values -/
theorem ep_and {Sa Sb : Prop} {a b : Bool} (ha : EP c ta m1 rBool Sa a) (hb : EP c tb m2 rBool Sb b) : EP c (tAndV ta tb) .n rBool (Sa ∧ (a = true → Sb)) (a && b) := fun s T σ H hd Q k => ha s.1 T σ H hd _ fun v H1 ⟨A, B, q⟩ => by
  refine ⟨a, q.hd, ?_⟩
  cases a with
  | true => exact (ep_im (m' := .n) hb) (s.2 rfl) T σ H1 ⟨A, B, q.tl⟩ Q k
  | false => exact k _ H1 (HD.push (p := rBool.at false) q.tl rfl)
theorem ep_or {Sa Sb : Prop} {a b : Bool} (ha : EP c ta m1 rBool Sa a) (hb : EP c tb m2 rBool Sb b) : EP c (tOrV ta tb) .n rBool (Sa ∧ (a = false → Sb)) (a || b) := fun s T σ H hd Q k => ha s.1 T σ H hd _ fun v H1 ⟨A, B, q⟩ => by
  refine ⟨a, q.hd, ?_⟩
  cases a with
  | false => exact (ep_im (m' := .n) hb) (s.2 rfl) T σ H1 ⟨A, B, q.tl⟩ Q k
  | true => exact k _ H1 (HD.push (p := rBool.at true) q.tl rfl)
theorem ep_not {Sa : Prop} {a : Bool} (ha : EP c ta m1 rBool Sa a) : EP c (tNotV ta) .n rBool Sa (!a) := fun s T σ H hd Q k => ha s T σ H hd _ fun v H1 ⟨A, B, q⟩ => ⟨a, q.hd, k _ H1 (HD.push (p := rBool.at (!a)) q.tl rfl)⟩
theorem ew_and {Wa Wb : (Bool → Prop) → Prop} (ha : EW c ta m1 rBool Wa) (hb : EW c tb m2 rBool Wb) : EW c (tAndV ta tb) .n rBool (fun P => Wa fun a => (a = true → Wb P) ∧ (a = false → P false)) := fun P w T σ H hd Q k => ha _ w T σ H hd _ fun a v H1 pa ⟨A, B, q⟩ => by
  refine ⟨a, q.hd, ?_⟩
  cases a with
  | true => exact (ew_im (m' := .n) hb) P (pa.1 rfl) T σ H1 ⟨A, B, q.tl⟩ Q k
  | false => exact k _ _ H1 (pa.2 rfl) (HD.push (p := rBool.at false) q.tl rfl)
theorem ew_or {Wa Wb : (Bool → Prop) → Prop} (ha : EW c ta m1 rBool Wa) (hb : EW c tb m2 rBool Wb) : EW c (tOrV ta tb) .n rBool (fun P => Wa fun a => (a = false → Wb P) ∧ (a = true → P true)) := fun P w T σ H hd Q k => ha _ w T σ H hd _ fun a v H1 pa ⟨A, B, q⟩ => by
  refine ⟨a, q.hd, ?_⟩
  cases a with
  | false => exact (ew_im (m' := .n) hb) P (pa.1 rfl) T σ H1 ⟨A, B, q.tl⟩ Q k
  | true => exact k _ _ H1 (pa.2 rfl) (HD.push (p := rBool.at true) q.tl rfl)
theorem ew_not {Wa : (Bool → Prop) → Prop} (ha : EW c ta m1 rBool Wa) : EW c (tNotV ta) .n rBool (fun P => Wa fun a => P (!a)) := fun P w T σ H hd Q k => ha _ w T σ H hd _ fun a v H1 pa ⟨A, B, q⟩ => ⟨a, q.hd, k _ _ H1 pa (HD.push (p := rBool.at (!a)) q.tl rfl)⟩
/-- a if t else b -/
theorem ep_if {St Sa Sb : Prop} {b : Bool} {x y : α} (ht : TP' c tt St b) (ha : EP c ta m R Sa x) (hb : EP c tb m R Sb y) : EP c (tIf tt ta tb) m R (St ∧ (b = true → Sa) ∧ (b = false → Sb)) (if b = true then x else y) := fun s T σ H hd Q k => ht s.1 T σ H hd _ fun H1 h1 => by
  cases b with
  | true => exact ha (s.2.1 rfl) T σ H1 h1 Q k
  | false => exact hb (s.2.2 rfl) T σ H1 h1 Q k
theorem ew_if {Wt : (Bool → Prop) → Prop} {Wa Wb : (α → Prop) → Prop} (ht : TW' c tt Wt) (ha : EW c ta m R Wa) (hb : EW c tb m R Wb) : EW c (tIf tt ta tb) m R (fun P => Wt fun b => (b = true → Wa P) ∧ (b = false → Wb P)) := fun P w T σ H hd Q k => ht _ w T σ H hd _ fun b H1 pb h1 => by
  cases b with
  | true => exact ha P (pb.1 rfl) T σ H1 h1 Q k
  | false => exact hb P (pb.2 rfl) T σ H1 h1 Q k
/-- truth of an int, a list, a tuple, an optional tuple -/
def tTru (K : PySem.W.Frag) (te : TE) : TT := fun σ H Q => te σ H fun x H' => ∃ k, TruV K x H' k ∧ Q k H'
theorem tp_truI {S : Prop} {a : Int} (h : EP c te m rInt S a) : TP' c (tTru K te) S (a != 0) := fun s T σ H hd Q k => h s T σ H hd _ fun v H' ⟨A, B, q⟩ => ⟨_, (by rw [show v = _ from q.hd]; exact rfl), k H' ⟨A, B, q.tl⟩⟩
theorem emp_of {F : V → α → Prop} {vs : List V} {xs : List α} (h : Paired F vs xs) : vs.isEmpty = xs.isEmpty := by cases h <;> rfl
theorem tp_truL {S : Prop} {a : List α} (h : EP c te m (rList R) S a) : TP' c (tTru K te) S (!a.isEmpty) := fun s T σ H hd Q k => h s T σ H hd _ fun v H' ⟨A, B, q⟩ => by
  obtain ⟨l, vs, e, h1, h2⟩ := (show (rList R).r (view _ A B m H') v a from q.hd)
  rw [e]
  exact ⟨_, .inl ⟨vs, SqL.of (view_full _ _ h1), by rw [emp_of h2]⟩, k H' ⟨A, B, q.tl⟩⟩
theorem tp_truT {S : Prop} {a : List α} (h : EP c te m (rTup K R) S a) : TP' c (tTru K te) S (!a.isEmpty) := fun s T σ H hd Q k => h s T σ H hd _ fun v H' ⟨A, B, q⟩ => by
  obtain ⟨l, vs, e, h1, h2⟩ := (show (rTup K R).r (view _ A B m H') v a from q.hd)
  rw [e]
  exact ⟨_, .inr (.inl ⟨vs, SqT.ext view_full h1, by rw [emp_of h2]⟩), k H' ⟨A, B, q.tl⟩⟩

/-! ## 9. tuples and lists made, items -/
theorem HdA.newTup {m : Md} {p : SP} {vs : List V} {l : Addr} (h : HdA F c T σ H A B) (hl : H l = none) (hp : ∀ H1 : Hp, Ext (view F A B m H) H1 → SqT K H1 l vs → p.P H1 (.ref l)) : HD F c (⟨.ref l, m, p⟩ :: T) σ (upd H l (.tup vs)) :=
  HD.push (h.alloc hl) (hp _ (HdA.vext hl) (SqT.of (h.fresh hl)))
theorem ap1_ {p q : Md × SP} {Sa : Prop} {t : TA} (h : AP' c t Sa [p, q]) : ∀ {F : Fm} (s : Sa) T σ H, HD F c T σ H → ∀ Q : List V → Hp → Prop, (∀ v w H', HD F c (⟨v, p.1, p.2⟩ :: ⟨w, q.1, q.2⟩ :: T) σ H' → Q [v, w] H') → t σ H Q := fun s T σ H hd Q k =>
  h s T σ H hd Q fun vs H' e h' => by
    obtain ⟨v, w, rfl, h2⟩ := zip2 e h'
    exact k v w H' h2
theorem ep_pair {Sa Sb : Prop} {a : α} {b : β} (ha : EP c ta m R Sa a) (hb : EP c tb m Rb Sb b) : EP c (tTup (tCons ta (tCons tb tNil))) m (rPair K R Rb) (Sa ∧ Sb) (a, b) := fun s T σ H hd Q k =>
  ha s.1 T σ H hd _ fun x H1 h1 => hb s.2 _ σ H1 h1 _ fun y H2 ⟨A, B, h2⟩ => ⟨(by show 2 ≤ sizeLine; decide), fun p hp => k _ _ (h2.tl.tl.newTup (p := (rPair K R Rb).at (a, b)) hp fun H3 e hs => ⟨p, x, y, rfl, hs, R.mono e h2.hd2, Rb.mono e h2.hd⟩)⟩
theorem ew_pair {Wa : (α → Prop) → Prop} {Wb : α → (β → Prop) → Prop} (ha : EW c ta m R Wa) (hb : ∀ a, EW c tb m Rb (Wb a)) : EW c (tTup (tCons ta (tCons tb tNil))) m (rPair K R Rb) (fun P => Wa fun a => Wb a fun b => P (a, b)) := fun P w T σ H hd Q k =>
  ha _ w T σ H hd _ fun a x H1 pa h1 => hb a _ pa _ σ H1 h1 _ fun b y H2 pb ⟨A, B, h2⟩ => ⟨(by show 2 ≤ sizeLine; decide), fun p hp => k _ _ _ pb (h2.tl.tl.newTup (p := (rPair K R Rb).at (a, b)) hp fun H3 e hs => ⟨p, x, y, rfl, hs, R.mono e h2.hd2, Rb.mono e h2.hd⟩)⟩
theorem ep_tri {Sa Sb Sc : Prop} {a : α} {b : β} {d : γ} (ha : EP c ta m R Sa a) (hb : EP c tb m Rb Sb b) (hc : EP c tc m Rc Sc d) : EP c (tTup (tCons ta (tCons tb (tCons tc tNil)))) m (rTri K R Rb Rc) (Sa ∧ Sb ∧ Sc) (a, b, d) := fun s T σ H hd Q k =>
  ha s.1 T σ H hd _ fun x H1 h1 => hb s.2.1 _ σ H1 h1 _ fun y H2 h2 => hc s.2.2 _ σ H2 h2 _ fun z H3 ⟨A, B, h3⟩ => ⟨(by show 3 ≤ sizeLine; decide), fun p hp => k _ _ (h3.tl.tl.tl.newTup (p := (rTri K R Rb Rc).at (a, b, d)) hp fun H4 e hs => ⟨p, x, y, z, rfl, hs, R.mono e h3.tl.hd2, Rb.mono e h3.hd2, Rc.mono e h3.hd⟩)⟩
theorem ew_tri {Wa : (α → Prop) → Prop} {Wb : α → (β → Prop) → Prop} {Wc : α → β → (γ → Prop) → Prop} (ha : EW c ta m R Wa) (hb : ∀ a, EW c tb m Rb (Wb a)) (hc : ∀ a b, EW c tc m Rc (Wc a b)) : EW c (tTup (tCons ta (tCons tb (tCons tc tNil)))) m (rTri K R Rb Rc) (fun P => Wa fun a => Wb a fun b => Wc a b fun d => P (a, b, d)) := fun P w T σ H hd Q k =>
  ha _ w T σ H hd _ fun a x H1 pa h1 => hb a _ pa _ σ H1 h1 _ fun b y H2 pb h2 => hc a b _ pb _ σ H2 h2 _ fun d z H3 pc ⟨A, B, h3⟩ => ⟨(by show 3 ≤ sizeLine; decide), fun p hp => k _ _ _ pc (h3.tl.tl.tl.newTup (p := (rTri K R Rb Rc).at (a, b, d)) hp fun H4 e hs => ⟨p, x, y, z, rfl, hs, R.mono e h3.tl.hd2, Rb.mono e h3.hd2, Rc.mono e h3.hd⟩)⟩
/-- written items of one kind -/
def Ls (c : Ctx) (t : TA) (m : Md) {α : Type} (R : Rp α) (n : Nat) (W : (List α → Prop) → Prop) : Prop :=
  ∀ {F : Fm} (Post : List α → Prop), W Post → ∀ T σ H, HD F c T σ H → ∀ Q : List V → Hp → Prop, (∀ xs vs H' A B, Post xs → xs.length = n → HdA F c T σ H' A B → Paired (R.r (view F A B m H')) vs xs → Q vs H') → t σ H Q
theorem ls_nil : Ls c tNil m R 0 (fun P => P []) := fun P w T σ H ⟨A, B, hd⟩ Q k => k [] [] H A B w rfl hd .nil
theorem ls_cons {n : Nat} {tr : TA} {Wa : (α → Prop) → Prop} {Wr : α → (List α → Prop) → Prop} (ha : EW c ta m R Wa) (hr : ∀ a, Ls c tr m R n (Wr a)) : Ls c (tCons ta tr) m R (n + 1) (fun P => Wa fun a => Wr a fun xs => P (a :: xs)) := fun P w T σ H hd Q k =>
  ha _ w T σ H hd _ fun a x H1 pa h1 => hr a _ pa _ σ H1 h1 _ fun xs vs H2 A B p2 e h2 q => k (a :: xs) (x :: vs) H2 A B p2 (by simp [e]) h2.tl (.cons h2.hd q)
theorem sz1000 {n k : Nat} (e : n = k) (h : k ≤ 1000) : n ≤ sizeLine := Nat.le_trans (by omega : n ≤ 1000) (by decide)
theorem eo_lst {t : TA} {n : Nat} {W : (List α → Prop) → Prop} (h : Ls c t m R n W) (hn : n ≤ 1000 := by decide) : EO c (tLst t) (oList m R) W := fun P w T σ H hd Q k =>
  h P w T σ H hd _ fun xs vs H1 A B pa e h1 q => ⟨sz1000 (q.length.trans e) hn, fun l hl => k xs _ _ pa (h1.allocO hl q)⟩
theorem ew_tup {t : TA} {n : Nat} {W : (List α → Prop) → Prop} (h : Ls c t m R n W) (hn : n ≤ 1000 := by decide) : EW c (tTup t) m (rTup K R) W := fun P w T σ H hd Q k =>
  h P w T σ H hd _ fun xs vs H1 A B pa e h1 q => ⟨sz1000 (q.length.trans e) hn, fun l hl => k xs _ _ pa (h1.newTup (p := (rTup K R).at xs) hl fun H2 e hs => ⟨l, vs, rfl, hs, Paired.mono (fun _ _ z => R.mono e z) q⟩)⟩
theorem ew_pure {S : Prop} {a : α} (h : EW c te m R (fun P => S ∧ P a)) : EP c te m R S a := fun s T σ H hd Q k => h (fun x => x = a) ⟨s, rfl⟩ T σ H hd Q fun b v H' e q => by subst e; exact k v H' q
theorem ew_pure0 {a : α} (h : EW c te m R (fun P => P a)) : EP c te m R True a := fun s T σ H hd Q k => h (fun x => x = a) rfl T σ H hd Q fun b v H' e q => by subst e; exact k v H' q

/-- the item at i, counted from the end where i is below 0 -/
@[irreducible] def gI {α : Type} [Inhabited α] (xs : List α) (i : Int) : α := if 0 ≤ i then xs.getD i.toNat default else xs.getD (i + xs.length).toNat default
abbrev InB (n : Nat) (i : Int) : Prop := -(n : Int) ≤ i ∧ i < n
theorem gI_at [Inhabited α] {xs : List α} {i : Int} (h : InB xs.length i) : ∃ j : Nat, j < xs.length ∧ ixN xs.length i = some j ∧ xs[j]? = some (gI xs i) := by
  unfold gI ixN
  by_cases h0 : 0 ≤ i
  · refine ⟨i.toNat, by omega, by rw [if_pos h0, if_pos h.2], ?_⟩
    rw [if_pos h0, List.getD_eq_getElem?_getD, List.getElem?_eq_getElem (by omega)]; rfl
  · refine ⟨(i + xs.length).toNat, by omega, by rw [if_neg h0, if_pos h.1], ?_⟩
    rw [if_neg h0, List.getD_eq_getElem?_getD, List.getElem?_eq_getElem (by omega)]; rfl
theorem pget {F : V → α → Prop} {vs : List V} {xs : List α} (h : Paired F vs xs) {j : Nat} {x : α} (e : xs[j]? = some x) : ∃ v, vs[j]? = some v ∧ F v x := by
  induction h generalizing j with
  | nil => simp at e
  | cons a _ ih => cases j with
    | zero => simp at e; subst e; exact ⟨_, rfl, a⟩
    | succ j => simpa using ih (by simpa using e)
theorem at_gI [Inhabited α] {F : V → α → Prop} {vs : List V} {xs : List α} {i : Int} (q : Paired F vs xs) (h : InB xs.length i) : ∃ v, atI vs i = some v ∧ F v (gI xs i) := by
  obtain ⟨j, h1, h2, h3⟩ := gI_at h
  obtain ⟨v, hv, r⟩ := pget q h3
  exact ⟨v, by unfold atI; rw [q.length, h2]; exact hv, r⟩
theorem o2_ixL [Inhabited α] : O2 c (rIxL K) m1 (rList R) m2 rInt m1 R (fun xs i => InB xs.length i) gI := fun a b s T σ H x y ⟨A, B, h⟩ Q k => by
  obtain ⟨l, vs, e, h1, h2⟩ := (show (rList R).r (view _ A B m1 H) x a from h.hd2)
  obtain ⟨v, e2, r⟩ := at_gI h2 s
  exact ⟨l, vs, b, v, e, h.hd, SqL.of (view_full _ _ h1), e2, k _ H (HD.push h.tl.tl (p := R.at _) r)⟩
theorem o2_ixT [Inhabited α] : O2 c (rIxT K) m1 (rTup K R) m2 rInt m1 R (fun xs i => InB xs.length i) gI := fun a b s T σ H x y ⟨A, B, h⟩ Q k => by
  obtain ⟨l, vs, e, h1, h2⟩ := (show (rTup K R).r (view _ A B m1 H) x a from h.hd2)
  obtain ⟨v, e2, r⟩ := at_gI h2 s
  exact ⟨l, vs, b, v, e, h.hd, SqT.ext view_full h1, e2, k _ H (HD.push h.tl.tl (p := R.at _) r)⟩
/-- p[0], p[1] of a pair, t[0], t[1], t[2] of a triple -/
theorem ew_p0 {W : (α × β → Prop) → Prop} (h : EW c te m (rPair K R Rb) W) : EW c (tOp (rIxT K) te (tC (.int 0))) m R (fun P => W fun p => P p.1) := fun P w T σ H hd Q k => h _ w T σ H hd _ fun p v H' pa ⟨A, B, q⟩ => by
  obtain ⟨l, x, y, e, h1, h2, h3⟩ := (show (rPair K R Rb).r (view _ A B m H') v p from q.hd)
  exact ⟨l, [x, y], 0, x, e, rfl, SqT.ext view_full h1, rfl, k _ x H' pa (HD.push q.tl (p := R.at _) h2)⟩
theorem ew_p1 {W : (α × β → Prop) → Prop} (h : EW c te m (rPair K R Rb) W) : EW c (tOp (rIxT K) te (tC (.int 1))) m Rb (fun P => W fun p => P p.2) := fun P w T σ H hd Q k => h _ w T σ H hd _ fun p v H' pa ⟨A, B, q⟩ => by
  obtain ⟨l, x, y, e, h1, h2, h3⟩ := (show (rPair K R Rb).r (view _ A B m H') v p from q.hd)
  exact ⟨l, [x, y], 1, y, e, rfl, SqT.ext view_full h1, rfl, k _ y H' pa (HD.push q.tl (p := Rb.at _) h3)⟩
theorem ep_p0 {S : Prop} {p : α × β} (h : EP c te m (rPair K R Rb) S p) : EP c (tOp (rIxT K) te (tC (.int 0))) m R S p.1 := ew_pure (ew_p0 h.w)
theorem ep_p1 {S : Prop} {p : α × β} (h : EP c te m (rPair K R Rb) S p) : EP c (tOp (rIxT K) te (tC (.int 1))) m Rb S p.2 := ew_pure (ew_p1 h.w)
theorem ep_t0 {S : Prop} {p : α × β × γ} (h : EP c te m (rTri K R Rb Rc) S p) : EP c (tOp (rIxT K) te (tC (.int 0))) m R S p.1 := fun s T σ H hd Q k => h s T σ H hd _ fun v H' ⟨A, B, q⟩ => by
  obtain ⟨l, x, y, z, e, h1, h2, h3, h4⟩ := (show (rTri K R Rb Rc).r (view _ A B m H') v p from q.hd)
  exact ⟨l, [x, y, z], 0, x, e, rfl, SqT.ext view_full h1, rfl, k x H' (HD.push q.tl (p := R.at _) h2)⟩
theorem ep_t1 {S : Prop} {p : α × β × γ} (h : EP c te m (rTri K R Rb Rc) S p) : EP c (tOp (rIxT K) te (tC (.int 1))) m Rb S p.2.1 := fun s T σ H hd Q k => h s T σ H hd _ fun v H' ⟨A, B, q⟩ => by
  obtain ⟨l, x, y, z, e, h1, h2, h3, h4⟩ := (show (rTri K R Rb Rc).r (view _ A B m H') v p from q.hd)
  exact ⟨l, [x, y, z], 1, y, e, rfl, SqT.ext view_full h1, rfl, k y H' (HD.push q.tl (p := Rb.at _) h3)⟩
theorem ep_t2 {S : Prop} {p : α × β × γ} (h : EP c te m (rTri K R Rb Rc) S p) : EP c (tOp (rIxT K) te (tC (.int 2))) m Rc S p.2.2 := fun s T σ H hd Q k => h s T σ H hd _ fun v H' ⟨A, B, q⟩ => by
  obtain ⟨l, x, y, z, e, h1, h2, h3, h4⟩ := (show (rTri K R Rb Rc).r (view _ A B m H') v p from q.hd)
  exact ⟨l, [x, y, z], 2, z, e, rfl, SqT.ext view_full h1, rfl, k z H' (HD.push q.tl (p := Rc.at _) h4)⟩
/-- an owned list, looked at -/
theorem ep_ow {p : α → OP} [hp0 : OwR p m R] {i : Nat} {x : α} (h : c[i]? = some (.ow (p x))) : EP c (tVar i) .b R True x := fun _ T σ H ⟨A, B, hd⟩ Q k => by
  have q := hd.sl i
  unfold slOk at q
  rw [h] at q
  obtain ⟨v, hv, hp⟩ := q
  exact ⟨v, hv, k v H (HD.push (p := R.at x) hd (hp0.sh hp (fun a ha o e => view_some.mpr ⟨hd.db i a ha, e⟩) (by rw [hp0.md]; exact view_mb)))⟩
/-- len -/
theorem ob_lenL {xs : List α} : OB c (fun vs H Q => ∃ p ys, vs = [.ref p] ∧ (SqL K H p ys ∨ SqT K H p ys) ∧ Q (.int ys.length) H) [(m, (rList R).at xs)] .n rInt True (xs.length : Int) := fun _ T σ H vs e hd Q k => by
  obtain ⟨v, rfl, A, B, h⟩ := zip1 e hd
  obtain ⟨l, us, e, h1, h2⟩ := (show (rList R).r (view _ A B m H) v xs from h.hd)
  exact ⟨l, us, by rw [e], .inl (SqL.of (view_full _ _ h1)), k _ H (HD.push h.tl (p := rInt.at _) (by show V.int _ = V.int _; rw [h2.length]))⟩
theorem ob_lenT {xs : List α} : OB c (fun vs H Q => ∃ p ys, vs = [.ref p] ∧ (SqL K H p ys ∨ SqT K H p ys) ∧ Q (.int ys.length) H) [(m, (rTup K R).at xs)] .n rInt True (xs.length : Int) := fun _ T σ H vs e hd Q k => by
  obtain ⟨v, rfl, A, B, h⟩ := zip1 e hd
  obtain ⟨l, us, e, h1, h2⟩ := (show (rTup K R).r (view _ A B m H) v xs from h.hd)
  exact ⟨l, us, by rw [e], .inr (SqT.ext view_full h1), k _ H (HD.push h.tl (p := rInt.at _) (by show V.int _ = V.int _; rw [h2.length]))⟩
/-- abs, int, max, min, gcd -/
theorem ob_I1 {f : Int → Int} {a : Int} : OB c (fun xs H Q => ∃ i, xs = [.int i] ∧ Q (.int (f i)) H) [(m, rInt.at a)] .n rInt True (f a) := fun _ T σ H vs e hd Q k => by
  obtain ⟨v, rfl, A, B, h⟩ := zip1 e hd
  exact ⟨a, by rw [show v = _ from h.hd], k _ H (HD.push h.tl (p := rInt.at _) rfl)⟩
theorem ob_int {a : Int} : OB c (fun xs H Q => (∃ i, xs = [.int i] ∧ Q (.int i) H) ∨ ∃ k, xs = [.bl k] ∧ Q (.int (if k then 1 else 0)) H) [(m, rInt.at a)] .n rInt True a := fun _ T σ H vs e hd Q k => by
  obtain ⟨v, rfl, A, B, h⟩ := zip1 e hd
  exact .inl ⟨a, by rw [show v = _ from h.hd], k _ H (HD.push h.tl (p := rInt.at _) rfl)⟩
theorem ob_intB {a : Bool} : OB c (fun xs H Q => (∃ i, xs = [.int i] ∧ Q (.int i) H) ∨ ∃ k, xs = [.bl k] ∧ Q (.int (if k then 1 else 0)) H) [(m, rBool.at a)] .n rInt True (if a then 1 else 0) := fun _ T σ H vs e hd Q k => by
  obtain ⟨v, rfl, A, B, h⟩ := zip1 e hd
  exact .inr ⟨a, by rw [show v = _ from h.hd], k _ H (HD.push h.tl (p := rInt.at _) rfl)⟩
theorem ob_I2 {f : Int → Int → Int} {a b : Int} : OB c (fun xs H Q => ∃ i j, xs = [.int i, .int j] ∧ Q (.int (f i j)) H) [(m1, rInt.at a), (m2, rInt.at b)] .n rInt True (f a b) := fun _ T σ H vs e hd Q k => by
  obtain ⟨v, w, rfl, A, B, h⟩ := zip2 e hd
  exact ⟨a, b, by rw [show v = _ from h.hd, show w = _ from h.hd2], k _ H (HD.push h.tl.tl (p := rInt.at _) rfl)⟩
end
end TW

set_option maxRecDepth 100000
set_option maxHeartbeats 2000000
namespace TW
open PySem PySem.Spec PyProof.Rows L2

/-! ## 10. what is walked -/
@[irreducible] def rng (a b : Int) : List Int := (List.range (b - a).toNat).map fun i => a + ((i : Nat) : Int)
theorem rng_len (a b : Int) : (rng a b).length = (b - a).toNat := by simp [rng]
section
variable {F : Fm} {c : Ctx} {T : List Tm} {σ : Sg} {H : Hp} {A : Nat → List Addr} {B : List Addr} {α β γ ι : Type} {R : Rp α} {Rb : Rp β} {Rc : Rp γ} {m m1 m2 m3 : Md} {te ta tb tc : TE} {tt tu : TT} {K : PySem.W.Frag}
theorem itO_of {T' : List Tm} {J : It} {xs : List β} {G : Hp → Prop} {Y : Nat → Hp → V → Hp → Prop} {n : Nat} (w : L2.Walk J n G Y) (hn : n = xs.length) (sub : ∀ t ∈ T, t ∈ T') (nb : m ≠ .b → NoB T → NoB T') (hG : ∀ F c T2 σ H, (∀ t ∈ T', t ∈ T2) → HD F c T2 σ H → G H)
    (hY : ∀ F c T2 σ H, (∀ t ∈ T', t ∈ T2) → HD F c T2 σ H → ∀ i (h : i < xs.length) x H', Y i H x H' → HD F c (⟨x, m, Rb.at xs[i]⟩ :: T2) σ H') : ItO T T' J m Rb xs := by
  subst hn
  exact ⟨sub, nb, fun F c T2 σ H s hd i hi => w.goes i H hi (hG F c T2 σ H s hd), fun F c T2 σ H s hd => w.stops H (hG F c T2 σ H s hd), fun F c T2 σ H s hd i hi x H' y => hY F c T2 σ H s hd i hi x H' (w.yields i H x H' hi (hG F c T2 σ H s hd) y)⟩
theorem itO_rng (lo hi : Int) : ItO T T (Itr lo (hi - lo).toNat) .n rInt (rng lo hi) := by
  refine itO_of (xs := rng lo hi) walk_range (by rw [rng_len]) (fun _ h => h) (fun _ h => h) (fun _ _ _ _ _ _ _ => trivial) fun F c T2 σ H s ⟨A, B, hd⟩ i hi x H' ⟨e1, e2⟩ => ?_
  subst e1 e2
  exact HD.push hd (by show V.int _ = V.int _; simp [rng])
theorem iw_range1 {W : (Int → Prop) → Prop} (h : EW c te m rInt W) : IW c (iRng1 (tCons te tNil)) .n rInt (fun P => W fun n => (-(2 ^ 62) ≤ n ∧ n < 2 ^ 62) ∧ P (rng 0 n)) := fun P w T σ H hd K k =>
  h _ w T σ H hd _ fun n v H' pn ⟨A, B, q⟩ => ⟨n, by rw [show v = _ from q.hd], pn.1.1, pn.1.2, by
    have := k (rng 0 n) (Itr 0 (n - 0).toNat) T H' pn.2 (itO_rng 0 n) ⟨A, B, q.tl⟩
    rw [Int.sub_zero] at this
    exact this⟩
theorem iw_range2 {W1 : (Int → Prop) → Prop} {W2 : Int → (Int → Prop) → Prop} (h1 : EW c ta m1 rInt W1) (h2 : ∀ a, EW c tb m2 rInt (W2 a)) :
    IW c (iRng2 (tCons ta (tCons tb tNil))) .n rInt (fun P => W1 fun a => W2 a fun b => (-(2 ^ 62) ≤ a ∧ a < 2 ^ 62 ∧ -(2 ^ 62) ≤ b ∧ b < 2 ^ 62) ∧ P (rng a b)) := fun P w T σ H hd K k =>
  h1 _ w T σ H hd _ fun a x H1 pa q1 => h2 a _ pa _ σ H1 q1 _ fun b y H2 pb ⟨A, B, q⟩ => ⟨a, b, by rw [show x = _ from q.hd2, show y = _ from q.hd], pb.1, k (rng a b) _ T H2 pb.2 (itO_rng a b) ⟨A, B, q.tl.tl⟩⟩
/-- a, a - 1, .. above b -/
@[irreducible] def rngD (a b : Int) : List Int := (List.range (a - b).toNat).map fun i => a + ((i : Nat) : Int) * -1
theorem iw_rangeD {W1 : (Int → Prop) → Prop} {W2 : Int → (Int → Prop) → Prop} (h1 : EW c ta m1 rInt W1) (h2 : ∀ a, EW c tb m2 rInt (W2 a)) (h3 : EP c tc m3 rInt True (-1)) :
    IW c (iRng3 (tCons ta (tCons tb (tCons tc tNil)))) .n rInt (fun P => W1 fun a => W2 a fun b => (-(2 ^ 62) ≤ a ∧ a < 2 ^ 62 ∧ -(2 ^ 62) ≤ b ∧ b < 2 ^ 62) ∧ P (rngD a b)) := fun P w T σ H hd K k =>
  h1 _ w T σ H hd _ fun a x H1 pa q1 => h2 a _ pa _ σ H1 q1 _ fun b y H2 pb q2 => h3 trivial _ σ H2 q2 _ fun z H3 ⟨A, B, q⟩ => ⟨a, b, -1, (a - b).toNat, by rw [show x = _ from q.tl.hd2, show y = _ from q.hd2, show z = _ from q.hd], RgC.neg pb.1.1 pb.1.2.1 pb.1.2.2.1 pb.1.2.2.2, by
    refine k (rngD a b) _ T H3 pb.2 ?_ ⟨A, B, q.tl.tl.tl⟩
    refine itO_of (xs := rngD a b) walk_rangeC (by simp [rngD]) (fun _ h => h) (fun _ h => h) (fun _ _ _ _ _ _ _ => trivial) fun F c T2 σ H s ⟨A, B, hd⟩ i hi x H' ⟨e1, e2⟩ => ?_
    subst e1 e2
    exact HD.push hd (by show V.int _ = V.int _; simp [rngD])⟩
theorem nob_cons {t : Tm} (h : t.m ≠ .b) (n : NoB T) : NoB (t :: T) := fun u hu => by
  rcases List.mem_cons.mp hu with z | z
  · subst z; exact h
  · exact n u z
theorem pget' {α β : Type} {F : α → β → Prop} {vs : List α} {xs : List β} (h : Paired F vs xs) {i : Nat} {v : α} (hi : i < xs.length) (e : vs[i]? = some v) : F v xs[i] := by
  induction h generalizing i with
  | nil => simp at e
  | cons a _ ih => cases i with
    | zero => simp at e; subst e; exact a
    | succ i => exact ih (by simpa using hi) (by simpa using e)
/-- the walked list, as a temporary with its very values -/
def pList (R : Rp α) (l : Addr) (vs : List V) (xs : List α) : SP := ⟨fun H _ => H l = some (.lst vs) ∧ Paired (R.r H) vs xs, fun e h => ⟨e.ap _ _ h.1, Paired.mono (fun _ _ q => R.monoT e q) h.2⟩⟩
def pTup (K : PySem.W.Frag) (R : Rp α) (l : Addr) (vs : List V) (xs : List α) : SP := ⟨fun H _ => SqT K H l vs ∧ Paired (R.r H) vs xs, fun e h => ⟨SqT.extT e h.1, Paired.mono (fun _ _ q => R.monoT e q) h.2⟩⟩
theorem HdA.asList {xs : List α} {v : V} (q : HdA F c (⟨v, m, (rList R).at xs⟩ :: T) σ H A B) : ∃ l vs, v = .ref l ∧ vs.length = xs.length ∧ SqL K H l vs ∧ HdA F c (⟨.non, m, pList R l vs xs⟩ :: T) σ H A B := by
  obtain ⟨l, vs, e, h1, h2⟩ := (show (rList R).r (view F A B m H) v xs from q.hd)
  obtain ⟨A', B', z⟩ : True ∧ True ∧ True := ⟨trivial, trivial, trivial⟩
  exact ⟨l, vs, e, h2.length, SqL.of (view_full _ _ h1), q.tl.len, q.tl.sl, (fun t ht => (List.mem_cons.mp ht).elim (fun z => by subst z; exact ⟨h1, h2⟩) (fun z => q.tl.tm t z)), q.dj, q.db, q.iq, q.fr, q.ni, q.st, q.gb, q.gh⟩
theorem HdA.asTup {xs : List α} {v : V} (q : HdA F c (⟨v, m, (rTup K R).at xs⟩ :: T) σ H A B) : ∃ l vs, v = .ref l ∧ vs.length = xs.length ∧ SqT K H l vs ∧ HdA F c (⟨.non, m, pTup K R l vs xs⟩ :: T) σ H A B := by
  obtain ⟨l, vs, e, h1, h2⟩ := (show (rTup K R).r (view F A B m H) v xs from q.hd)
  exact ⟨l, vs, e, h2.length, SqT.ext view_full h1, q.tl.len, q.tl.sl, (fun t ht => (List.mem_cons.mp ht).elim (fun z => by subst z; exact ⟨h1, h2⟩) (fun z => q.tl.tm t z)), q.dj, q.db, q.iq, q.fr, q.ni, q.st, q.gb, q.gh⟩
theorem HdA.pl {l : Addr} {vs : List V} {xs : List α} {v : V} {T' : List Tm} (q : HdA F c T' σ H A B) (h : (⟨v, m, pList R l vs xs⟩ : Tm) ∈ T') : SqL K H l vs ∧ Paired (R.r (view F A B m H)) vs xs := by
  have := q.tm _ h
  exact ⟨SqL.of (view_full _ _ this.1), this.2⟩
theorem HdA.pt {l : Addr} {vs : List V} {xs : List α} {v : V} {T' : List Tm} (q : HdA F c T' σ H A B) (h : (⟨v, m, pTup K R l vs xs⟩ : Tm) ∈ T') : SqT K H l vs ∧ Paired (R.r (view F A B m H)) vs xs := by
  have := q.tm _ h
  exact ⟨SqT.ext view_full this.1, this.2⟩
theorem iw_list {W : (List β → Prop) → Prop} (h : EW c te m (rList Rb) W) : IW c (iList K te) m Rb W := fun P w T σ H hd Kk k =>
  h _ w T σ H hd _ fun xs v H' pn ⟨A, B, q⟩ => by
    obtain ⟨l, vs, e, hl, hs, q2⟩ := q.asList (K := K)
    refine ⟨l, e, ⟨vs, hs⟩, k xs _ _ H' pn ?_ ⟨A, B, q2⟩⟩
    refine itO_of (walk_list (xs := vs)) hl (fun t h => List.mem_cons_of_mem _ h) (fun hm n => nob_cons hm n) (fun F c T2 σ H s ⟨A, B, hd⟩ => (hd.pl (s _ (List.mem_cons_self))).1) fun F c T2 σ H s ⟨A, B, hd⟩ i hi x H' ⟨e1, e2⟩ => ?_
    subst e1
    exact HD.push hd (p := Rb.at _) (pget' (hd.pl (K := K) (s _ List.mem_cons_self)).2 hi e2)
theorem iw_tup {W : (List β → Prop) → Prop} (h : EW c te m (rTup K Rb) W) : IW c (iTup K te) m Rb W := fun P w T σ H hd Kk k =>
  h _ w T σ H hd _ fun xs v H' pn ⟨A, B, q⟩ => by
    obtain ⟨l, vs, e, hl, hs, q2⟩ := q.asTup
    refine ⟨l, e, ⟨vs, hs⟩, k xs _ _ H' pn ?_ ⟨A, B, q2⟩⟩
    refine itO_of (walk_tup (xs := vs)) hl (fun t h => List.mem_cons_of_mem _ h) (fun hm n => nob_cons hm n) (fun F c T2 σ H s ⟨A, B, hd⟩ => (hd.pt (s _ (List.mem_cons_self))).1) fun F c T2 σ H s ⟨A, B, hd⟩ i hi x H' ⟨e1, e2⟩ => ?_
    subst e1
    exact HD.push hd (p := Rb.at _) (pget' (hd.pt (K := K) (s _ List.mem_cons_self)).2 hi e2)
/-- (0, x), (1, y), .. -/
def enum {α : Type} (xs : List α) : List (Int × α) := (List.range xs.length).zipWith (fun i x => (((i : Nat) : Int), x)) xs
theorem enum_len (xs : List α) : (enum xs).length = xs.length := by simp [enum]
theorem iw_enumL {W : (List β → Prop) → Prop} (h : EW c te m (rList Rb) W) : IW c (iEnum K (tCons te tNil)) m (rPair K rInt Rb) (fun P => W fun xs => P (enum xs)) := fun P w T σ H hd Kk k =>
  h _ w T σ H hd _ fun xs v H' pn ⟨A, B, q⟩ => by
    obtain ⟨l, vs, e, hl, hs, q2⟩ := q.asList (K := K)
    refine ⟨l, vs, by rw [e], hs, k (enum xs) _ _ H' pn ?_ ⟨A, B, q2⟩⟩
    refine itO_of (walk_enum (xs := vs)) (by rw [enum_len, hl]) (fun t h => List.mem_cons_of_mem _ h) (fun hm n => nob_cons hm n) (fun F c T2 σ H s ⟨A, B, hd⟩ => (hd.pl (s _ (List.mem_cons_self))).1) fun F c T2 σ H s ⟨A, B, hd⟩ i hi x H' ⟨t, y, z, e0, hn, e1, e2, e3⟩ => ?_
    subst e0 e1
    refine hd.newTup (p := (rPair K rInt Rb).at _) hn fun H1 ex hs => ⟨t, y, z, rfl, hs, ?_, ?_⟩
    · cases e2; simp [enum]; rfl
    · have h0 : i < xs.length := by rw [enum_len] at hi; exact hi
      have := Rb.mono ex (pget' (hd.pl (K := K) (s _ List.mem_cons_self)).2 h0 e3)
      simpa [enum] using this
theorem iw_zipL {W1 : (List α → Prop) → Prop} {W2 : List α → (List β → Prop) → Prop} (h1 : EW c ta m (rList R) W1) (h2 : ∀ xs, EW c tb m (rList Rb) (W2 xs)) : IW c (iZip K (tCons ta (tCons tb tNil))) m (rPair K R Rb) (fun P => W1 fun xs => W2 xs fun ys => P (xs.zip ys)) := fun P w T σ H hd Kk k =>
  h1 _ w T σ H hd _ fun xs v H1 pn q1 => h2 xs _ pn _ σ H1 q1 _ fun ys u H2 pm ⟨A, B, q⟩ => by
    obtain ⟨l2, us, e2, hl2, hs2, q2⟩ := q.asList (K := K)
    have q3 : HdA _ c (⟨v, m, (rList R).at xs⟩ :: ⟨.non, m, pList Rb l2 us ys⟩ :: T) σ H2 A B := q2.sub fun t ht => by
      simp only [List.mem_cons] at ht ⊢
      rcases ht with z | z | z
      · exact .inr (.inl z)
      · exact .inl z
      · exact .inr (.inr z)
    obtain ⟨l1, vs, e1, hl1, hs1, q4⟩ := q3.asList (K := K)
    refine ⟨l1, l2, vs, us, by rw [e1, e2], hs1, hs2, k (xs.zip ys) _ _ H2 pm ?_ ⟨A, B, q4⟩⟩
    refine itO_of (walk_zip (xs := vs) (ys := us) rfl) (by rw [List.length_zip, hl1, hl2]) (fun t h => List.mem_cons_of_mem _ (List.mem_cons_of_mem _ h)) (fun hm n => nob_cons hm (nob_cons hm n)) (fun F c T2 σ H s ⟨A, B, hd⟩ => ⟨(hd.pl (s _ List.mem_cons_self)).1, (hd.pl (s _ (List.mem_cons_of_mem _ List.mem_cons_self))).1⟩) fun F c T2 σ H s ⟨A, B, hd⟩ i hi x H' ⟨t, y, z, e0, hn, e1, f2, f3⟩ => ?_
    subst e0 e1
    have i1 : i < xs.length := by rw [List.length_zip] at hi; omega
    have i2 : i < ys.length := by rw [List.length_zip] at hi; omega
    refine hd.newTup (p := (rPair K R Rb).at _) hn fun H1 ex hs => ⟨t, y, z, rfl, hs, ?_, ?_⟩
    · have := R.mono ex (pget' (hd.pl (K := K) (s _ List.mem_cons_self)).2 i1 f2)
      simpa using this
    · have := Rb.mono ex (pget' (hd.pl (K := K) (s _ (List.mem_cons_of_mem _ List.mem_cons_self))).2 i2 f3)
      simpa using this

/-! ## 11. comprehensions -/
def wipeC (c : Ctx) : List Nat → Ctx
  | [] => c
  | v :: vs => (wipeC c vs).set v .un
theorem HD.unset {i : Nat} (hi : isFree c i = true) (h : HD F c T σ H) : HD F (c.set i .un) T (σ.set i none) H := by
  obtain ⟨A, B, h⟩ := h
  obtain ⟨h1, h2⟩ := isFree_A hi h
  refine ⟨A, B, by simp [h.len], fun j => ?_, h.tm, h.dj, h.db, h.iq, h.fr, h.ni, h.st, h.gb, h.gh⟩
  by_cases e : j = i
  · subst e
    unfold slOk
    rw [List.getElem?_set_self h1]
    exact h2
  · exact (h.sl j).mono (List.getElem?_set_ne (fun z => e z.symm)) (fun w z => by rw [List.getElem?_set_ne (fun z => e z.symm)]; exact z) rfl (fun _ _ => rfl) (fun _ => Ext.refl _)
/-- a slot that is shared or empty -/
def isUS (c : Ctx) (i : Nat) : Bool := match c[i]? with | some (.sh _ _) => true | some .un => true | _ => false
theorem isUS_free {i : Nat} (h : isUS c i = true) : isFree c i = true := by
  unfold isUS at h; unfold isFree
  cases e : c[i]? with
  | none => rw [e] at h; cases h
  | some s => rw [e] at h; cases s <;> first | rfl | cases h
theorem HD.save {i : Nat} (hi : isUS c i = true) (h : HD F c T σ H) : ∃ S : List Tm, HD F (c.set i .un) (S ++ T) (σ.set i none) H ∧ (∀ F' T' H', HD F' (c.set i .un) (S ++ T') (σ.set i none) H' → HD F' c T' σ H') ∧ ∀ t ∈ S, ∃ (j : Nat) (p : SP), c[j]? = some (.sh t.m p) := by
  have hu := h.unset (isUS_free hi)
  obtain ⟨A, B, h⟩ := h
  obtain ⟨A1, B1, hu⟩ := hu
  have q := h.sl i
  unfold slOk at q
  unfold isUS at hi
  have back : ∀ (F' : Fm) (T' : List Tm) (H' : Hp) (A' : Nat → List Addr) (B' : List Addr), HdA F' (c.set i .un) T' (σ.set i none) H' A' B' → (slOk F' A' B' c σ H' i) → HD F' c T' σ H' := fun F' T' H' A' B' h' hs =>
    ⟨A', B', by have := h'.len; simp at this; exact this, fun j => by
      by_cases e : j = i
      · subst e; exact hs
      · exact (h'.sl j).mono (List.getElem?_set_ne (fun z => e z.symm)).symm (fun w z => by rw [List.getElem?_set_ne (fun z => e z.symm)] at z; exact z) rfl (fun _ _ => rfl) (fun _ => Ext.refl _), h'.tm, h'.dj, h'.db, h'.iq, h'.fr, h'.ni, h'.st, h'.gb, h'.gh⟩
  have emp : ∀ (F' : Fm) (T' : List Tm) (H' : Hp) (A' : Nat → List Addr) (B' : List Addr), i < c.length → HdA F' (c.set i .un) T' (σ.set i none) H' A' B' → A' i = [] := fun F' T' H' A' B' hl h' => by
    have q := h'.sl i
    unfold slOk at q
    rw [List.getElem?_set_self hl] at q
    exact q
  cases e : c[i]? with
  | none => rw [e] at hi; cases hi
  | some s =>
    have hl := (List.getElem?_eq_some_iff.mp e).1
    rw [e] at hi q
    cases s with
    | un => exact ⟨[], ⟨A1, B1, hu⟩, fun F' T' H' ⟨A', B', h'⟩ => back _ _ _ A' B' h' (by unfold slOk; rw [e]; exact emp _ _ _ _ _ hl h'), by simp⟩
    | sh m p =>
      obtain ⟨a, v, hv, hp⟩ := q
      have h2 : HD F c (⟨v, m, p⟩ :: T) σ H := HD.push h hp
      refine ⟨[⟨v, m, p⟩], h2.unset (by unfold isFree; rw [e]), fun F' T' H' ⟨A', B', h'⟩ => back _ _ _ A' B' h'.tl ?_, fun t ht => by simp at ht; subst ht; exact ⟨i, p, e⟩⟩
      unfold slOk
      rw [e]
      exact ⟨emp _ _ _ _ _ hl h', v, hv, h'.hd⟩
    | ow p => cases hi
    | io => cases hi
theorem isFree_set {i j : Nat} (h : isFree c j = true) : isFree (c.set i .un) j = true := by
  unfold isFree at h ⊢
  by_cases e : j = i
  · subst e
    cases e : c[j]? with
    | none => rw [e] at h; cases h
    | some s => rw [List.getElem?_set_self (List.getElem?_eq_some_iff.mp e).1]
  · rw [List.getElem?_set_ne (fun z => e z.symm)]; exact h
theorem isFree_wipe {vs : List Nat} {j : Nat} (h : isFree c j = true) : isFree (wipeC c vs) j = true := by
  induction vs with
  | nil => exact h
  | cons v vs ih => exact isFree_set ih
theorem isUS_set {i j : Nat} (h : isUS c j = true) : isUS (c.set i .un) j = true := by
  unfold isUS at h ⊢
  by_cases e : j = i
  · subst e
    cases e : c[j]? with
    | none => rw [e] at h; cases h
    | some s => rw [List.getElem?_set_self (List.getElem?_eq_some_iff.mp e).1]
  · rw [List.getElem?_set_ne (fun z => e z.symm)]; exact h
theorem isUS_wipe {vs : List Nat} {j : Nat} (h : isUS c j = true) : isUS (wipeC c vs) j = true := by
  induction vs with
  | nil => exact h
  | cons v vs ih => exact isUS_set ih
theorem wipeC_at {j : Nat} {x : Sl} : ∀ {vs : List Nat}, (wipeC c vs)[j]? = some x → x ≠ .un → c[j]? = some x
  | [], h, _ => h
  | v :: vs, h, n => by
    refine wipeC_at (vs := vs) ?_ n
    have h' : ((wipeC c vs).set v .un)[j]? = some x := h
    by_cases e : j = v
    · subst e
      by_cases hl : j < (wipeC c vs).length
      · rw [List.getElem?_set_self hl] at h'
        exact absurd (Option.some.inj h').symm n
      · rw [List.getElem?_eq_none (by simpa using hl)] at h'
        cases h'
    · rw [List.getElem?_set_ne (fun z => e z.symm)] at h'
      exact h'
theorem HD.saveAll : ∀ {vs : List Nat}, (∀ i ∈ vs, isUS c i = true) → HD F c T σ H → ∃ S : List Tm, HD F (wipeC c vs) (S ++ T) (L2.wipe σ vs) H ∧ (∀ F' T' H', HD F' (wipeC c vs) (S ++ T') (L2.wipe σ vs) H' → HD F' c T' σ H') ∧ ∀ t ∈ S, ∃ (j : Nat) (p : SP), c[j]? = some (.sh t.m p)
  | [], _, h => ⟨[], h, fun _ _ _ h => h, by simp⟩
  | v :: vs, hf, h => by
    obtain ⟨S1, h1, k1, n1⟩ := HD.saveAll (fun i hi => hf i (List.mem_cons_of_mem _ hi)) h
    obtain ⟨S2, h2, k2, n2⟩ := h1.save (isUS_wipe (hf v List.mem_cons_self))
    exact ⟨S2 ++ S1, by rw [List.append_assoc]; exact h2, fun F' T' H' h' => k1 _ _ _ (k2 _ _ _ (by rw [← List.append_assoc]; exact h')), fun t ht => (List.mem_append.mp ht).elim (fun z => by
      obtain ⟨j, p, e⟩ := n2 t z
      exact ⟨j, p, wipeC_at e (fun z => by cases z)⟩) (n1 t)⟩
theorem HD.wipe : ∀ {vs : List Nat}, (∀ i ∈ vs, isFree c i = true) → HD F c T σ H → HD F (wipeC c vs) T (L2.wipe σ vs) H
  | [], _, h => h
  | v :: vs, hf, h => (HD.wipe (fun i hi => hf i (List.mem_cons_of_mem _ hi)) h).unset (isFree_wipe (hf v (List.mem_cons_self)))
theorem wipe_off {js vs : List Nat} {σ1 : Sg} (o : Off js (L2.wipe σ vs) σ1) (hj : ∀ j ∈ js, j ∈ vs) : L2.wipe σ1 vs = L2.wipe σ vs := by
  have key : ∀ (vs : List Nat) (σ : Sg) (k : Nat), k < σ.length → (L2.wipe σ vs)[k]? = if k ∈ vs then some none else σ[k]? := by
    intro vs σ k hk
    induction vs with
    | nil => simp [L2.wipe]
    | cons v vs ih =>
      unfold L2.wipe
      by_cases e : k = v
      · subst e
        rw [List.getElem?_set_self (by rw [wipe_length]; exact hk)]; simp
      · rw [List.getElem?_set_ne (fun z => e z.symm), ih]
        simp [e]
  have hl : σ1.length = σ.length := o.1.trans (wipe_length σ vs)
  apply List.ext_getElem?
  intro k
  by_cases hk : k < σ.length
  · rw [key vs σ1 k (by rw [hl]; exact hk), key vs σ k hk]
    by_cases hm : k ∈ vs
    · simp [hm]
    · simp only [hm, if_false]
      rw [o.2 k fun z => hm (hj k z), key vs σ k hk]
      simp [hm]
  · rw [List.getElem?_eq_none (by rw [wipe_length, hl]; omega), List.getElem?_eq_none (by rw [wipe_length]; omega)]
/-- what a comprehension makes, one by one -/
def mapW {α β : Type} (f : α → (Option β → Prop) → Prop) : List α → (List β → Prop) → Prop
  | [], P => P []
  | x :: xs, P => f x fun y => mapW f xs fun ys => P (match y with | some y => y :: ys | none => ys)
theorem mapW_mono {α β : Type} {f : α → (Option β → Prop) → Prop} (hf : ∀ x P Q, (∀ y, P y → Q y) → f x P → f x Q) : ∀ (xs : List α) (P Q : List β → Prop), (∀ y, P y → Q y) → mapW f xs P → mapW f xs Q
  | [], P, Q, h, w => h _ w
  | x :: xs, P, Q, h, w => hf x _ _ (fun y z => mapW_mono hf xs _ _ (fun ys q => h _ q) z) w
def accSP (R : Rp α) (vs : List V) (xs : List α) : SP := ⟨fun H _ => Paired (R.r H) vs xs, fun e h => Paired.mono (fun _ _ q => R.monoT e q) h⟩
abbrev Fm.gho (F : Fm) (D : Addr) (o : HO) : Fm := { F with G := (D, o) :: F.G }
theorem HdA.view_gho {D : Addr} {o : HO} {m : Md} {H' : Hp} (hD : H D = none) (e : ∀ a u, H a = some u → H' a = some u) : Ext (view F A B m H) (view (F.gho D o) A B m H') := by
  intro a u q
  obtain ⟨q1, q2⟩ := view_some.mp q
  have ne : a ≠ D := ne_of_none q2 hD
  refine view_some.mpr ⟨fun z => q1 ?_, e a u q2⟩
  have g : ghst (F.gho D o) a → ghst F a := fun ⟨w, hw⟩ => by
    rcases List.mem_cons.mp hw with z | z
    · cases z; exact absurd rfl ne
    · exact ⟨w, z⟩
  have hb : hB (F.gho D o) B a → hB F B a := fun z => z.imp id g
  cases m
  · exact z.imp (fun z => z.imp hb id) id
  · exact z.imp hb id
  · exact hb z
theorem HdA.under {D : Addr} {o : HO} (h : HdA F c T σ H A B) (hD : H D = none) (ho : notTup o) : HdA (F.gho D o) c T σ (upd H D o) A B := by
  have nl : ¬ mutAt H D := fun ⟨o, e, _⟩ => by rw [hD] at e; cases e
  have nown : ¬ (hB F B D ∨ ∃ i, D ∈ A i) := fun z => nl (h.own D z)
  have hv : ∀ m, Ext (view F A B m H) (view (F.gho D o) A B m (upd H D o)) := fun m => HdA.view_gho hD (Ext.new hD)
  have g : ∀ a, ghst (F.gho D o) a → a = D ∨ ghst F a := fun a ⟨w, hw⟩ => by
    rcases List.mem_cons.mp hw with z | z
    · cases z; exact .inl rfl
    · exact .inr ⟨w, z⟩
  refine ⟨h.len, fun i => ?_, fun t ht => SP.mono _ (hv _) (h.tm t ht), h.dj, fun i a q z => ?_, h.iq, fun a u q r => Ext.new hD a u (h.fr a u q r), fun a q r => ?_, ?_, fun a q z => ?_, fun p hp => ?_⟩
  · have q := h.sl i
    unfold slOk at q ⊢
    cases e : c[i]? with
    | none => rw [e] at q; exact q
    | some s =>
      rw [e] at q
      cases s with
      | un => exact q
      | sh m p => obtain ⟨a, v, hv1, hp1⟩ := q; exact ⟨a, v, hv1, SP.mono _ (hv _) hp1⟩
      | ow p => obtain ⟨v, hv1, hp1⟩ := q; exact ⟨v, hv1, OP.frame _ (fun a ha => upd_ne fun z => nown (by rw [← z]; exact .inr ⟨i, ha⟩)) (hv _) hp1⟩
      | io => exact q
  · rcases z with z | z
    · exact h.db i a q (.inl z)
    · rcases g a z with z | z
      · subst z; exact nown (.inr ⟨i, q⟩)
      · exact h.db i a q (.inr z)
  · have q2 : a = D ∨ (hB F B a ∨ ∃ i, a ∈ A i) := by
      rcases q with (q | q) | q
      · exact .inr (.inl (.inl q))
      · exact (g a q).imp id fun z => .inl (.inr z)
      · exact .inr (.inr q)
    rcases q2 with q2 | q2
    · subst q2
      cases e : F.H0 a with
      | none => rfl
      | some u =>
        have := h.fr a u e r
        rw [hD] at this; cases this
    · exact h.ni a q2 r
  · rcases h.st with q | q
    · exact .inl q
    · exact .inr (q.frame fun a ha => upd_ne fun z => nown (by rw [← z]; exact .inl (.inl ha)))
  · rcases g a q with q | q
    · subst q; exact nown (.inl (.inl z))
    · exact h.gb a q z
  · rcases List.mem_cons.mp hp with z | z
    · subst z; exact ⟨upd_same, ho⟩
    · exact ⟨Ext.new hD _ _ (h.gh p z).1, (h.gh p z).2⟩
/-- the list under way is put away -/
theorem HdA.away {D : Addr} {o : HO} (h : HdA (F.gho D o) c T σ H A B) (hn : ¬ ghst F D) : HdA F c T σ (fun a => if a = D then none else H a) A B ∧ ∀ m, Ext (view (F.gho D o) A B m H) (view F A B m (fun a => if a = D then none else H a)) := by
  have hv : ∀ m, Ext (view (F.gho D o) A B m H) (view F A B m (fun a => if a = D then none else H a)) := fun m a u q => by
    obtain ⟨q1, q2⟩ := view_some.mp q
    have ne : a ≠ D := fun z => q1 (by
      subst z
      have g : hB (F.gho a o) B a := .inr ⟨o, List.mem_cons_self⟩
      cases m
      · exact .inl (.inl g)
      · exact .inl g
      · exact g)
    refine view_some.mpr ⟨fun z => q1 ?_, by show (if a = D then none else H a) = some u; rw [if_neg ne]; exact q2⟩
    have g : ghst F a → ghst (F.gho D o) a := fun ⟨w, hw⟩ => ⟨w, List.mem_cons_of_mem _ hw⟩
    have hb : hB F B a → hB (F.gho D o) B a := fun z => z.imp id g
    cases m
    · exact z.imp (fun z => z.imp hb id) id
    · exact z.imp hb id
    · exact hb z
  have gD : ghst (F.gho D o) D := ⟨o, List.mem_cons_self⟩
  have key : ∀ a, a ≠ D → (fun a => if a = D then none else H a) a = H a := fun a ne => if_neg ne
  refine ⟨⟨h.len, fun i => ?_, fun t ht => SP.mono _ (hv _) (h.tm t ht), h.dj, fun i a q z => h.db i a q (z.imp id fun ⟨w, hw⟩ => ⟨w, List.mem_cons_of_mem _ hw⟩), h.iq, fun a u q r => ?_, fun a q r => h.ni a (q.imp (fun z => z.imp id fun ⟨w, hw⟩ => ⟨w, List.mem_cons_of_mem _ hw⟩) id) r, ?_, fun a ⟨w, hw⟩ z => h.gb a ⟨w, List.mem_cons_of_mem _ hw⟩ z, fun p hp => ?_⟩, hv⟩
  · have q := h.sl i
    unfold slOk at q ⊢
    cases e : c[i]? with
    | none => rw [e] at q; exact q
    | some s =>
      rw [e] at q
      cases s with
      | un => exact q
      | sh m p => obtain ⟨a, v, hv1, hp1⟩ := q; exact ⟨a, v, hv1, SP.mono _ (hv _) hp1⟩
      | ow p => obtain ⟨v, hv1, hp1⟩ := q; exact ⟨v, hv1, OP.frame _ (fun a ha => key a fun z => h.db i a ha (by rw [z]; exact .inr gD)) (hv _) hp1⟩
      | io => exact q
  · have ne : a ≠ D := fun z => by
      subst z
      have := h.ni a (.inl (.inr gD)) r
      rw [show F.H0 a = _ from q] at this; cases this
    exact (key a ne).trans (h.fr a u q r)
  · rcases h.st with q | q
    · exact .inl q
    · exact .inr (q.frame fun a ha => key a fun z => h.gb D gD (by rw [← z]; exact ha))
  · have ne : p.1 ≠ D := fun z => hn ⟨p.2, by rw [← z]; exact hp⟩
    exact ⟨(key p.1 ne).trans (h.gh p (List.mem_cons_of_mem _ hp)).1, (h.gh p (List.mem_cons_of_mem _ hp)).2⟩
end
end TW

set_option maxRecDepth 100000
set_option maxHeartbeats 2000000
namespace TW
open PySem PySem.Spec PyProof.Rows L2
section
variable {F : Fm} {c : Ctx} {T : List Tm} {σ : Sg} {H : Hp} {A : Nat → List Addr} {B : List Addr} {α β γ ι : Type} {R : Rp α} {Rb : Rp β} {Rc : Rp γ} {m m1 m2 m3 : Md} {te ta tb tc : TE} {tt tu : TT} {K : PySem.W.Frag}
/-- the comprehension's turn by turn reading -/
theorem mapW_snoc {α β : Type} {f : α → (Option β → Prop) → Prop} {P : List β → Prop} {x : α} {xs : List α} {acc : List β} (h : mapW f (x :: xs) (fun ys => P (acc ++ ys))) : f x fun y => mapW f xs fun ys => P ((match y with | some y => acc ++ [y] | none => acc) ++ ys) := by
  have e : (fun y : Option β => mapW f xs fun ys => P (acc ++ (match y with | some y => y :: ys | none => ys))) = fun y => mapW f xs fun ys => P ((match y with | some y => acc ++ [y] | none => acc) ++ ys) := by
    funext y
    cases y with
    | none => rfl
    | some y => simp
  have h' : f x fun y => mapW f xs fun ys => P (acc ++ (match y with | some y => y :: ys | none => ys)) := h
  rw [e] at h'
  exact h'
/-- the list under way gets one more item -/
theorem HdA.more {D : Addr} {ws ws' : List V} (h : HdA (F.gho D (.lst ws)) c T σ H A B) (hn : ¬ ghst F D) : HdA (F.gho D (.lst ws')) c T σ (upd H D (.lst ws')) A B ∧ ∀ m, Ext (view (F.gho D (.lst ws)) A B m H) (view (F.gho D (.lst ws')) A B m (upd H D (.lst ws'))) := by
  have gD : ∀ o, ghst (F.gho D o) D := fun o => ⟨o, List.mem_cons_self⟩
  have g : ∀ o o' a, ghst (F.gho D o) a → ghst (F.gho D o') a := fun o o' a ⟨w, hw⟩ => by
    rcases List.mem_cons.mp hw with z | z
    · cases z; exact gD o'
    · exact ⟨w, List.mem_cons_of_mem _ z⟩
  have hb : ∀ o o' a, hB (F.gho D o) B a → hB (F.gho D o') B a := fun o o' a z => z.imp id (g o o' a)
  have vp : ∀ o o' m a, vP (F.gho D o) A B m a → vP (F.gho D o') A B m a := fun o o' m a z => by
    cases m
    · exact z.imp (fun z => z.imp (hb o o' a) id) id
    · exact z.imp (hb o o' a) id
    · exact hb o o' a z
  have hv : ∀ m, Ext (view (F.gho D (.lst ws)) A B m H) (view (F.gho D (.lst ws')) A B m (upd H D (.lst ws'))) := fun m a u q => by
    obtain ⟨q1, q2⟩ := view_some.mp q
    have ne : a ≠ D := fun z => q1 (by
      subst z
      cases m
      · exact .inl (.inl (.inr (gD _)))
      · exact .inl (.inr (gD _))
      · exact .inr (gD _))
    exact view_some.mpr ⟨fun z => q1 (vp _ _ m a z), by rw [upd_ne ne]; exact q2⟩
  refine ⟨⟨h.len, fun i => ?_, fun t ht => SP.mono _ (hv _) (h.tm t ht), h.dj, fun i a q z => h.db i a q (hb _ _ a z), h.iq, fun a u q r => ?_, fun a q r => h.ni a (q.imp (hb _ _ a) id) r, ?_, fun a q => h.gb a (g _ _ a q), fun p hp => ?_⟩, hv⟩
  · have q := h.sl i
    unfold slOk at q ⊢
    cases e : c[i]? with
    | none => rw [e] at q; exact q
    | some s =>
      rw [e] at q
      cases s with
      | un => exact q
      | sh m p => obtain ⟨a, v, hv1, hp1⟩ := q; exact ⟨a, v, hv1, SP.mono _ (hv _) hp1⟩
      | ow p => obtain ⟨v, hv1, hp1⟩ := q; exact ⟨v, hv1, OP.frame _ (fun a ha => upd_ne fun z => h.db i a ha (by rw [z]; exact .inr (gD _))) (hv _) hp1⟩
      | io => exact q
  · have ne : a ≠ D := fun z => by
      subst z
      have := h.ni a (.inl (.inr (gD _))) r
      rw [show F.H0 a = _ from q] at this; cases this
    rw [upd_ne ne]; exact h.fr a u q r
  · rcases h.st with q | q
    · exact .inl q
    · exact .inr (q.frame fun a ha => upd_ne fun z => h.gb D (gD _) (by rw [← z]; exact ha))
  · rcases List.mem_cons.mp hp with z | z
    · subst z; exact ⟨upd_same, trivial⟩
    · have e : p.1 ≠ D := fun e => hn ⟨p.2, by rw [← e]; exact z⟩
      rw [upd_ne e]
      exact h.gh p (List.mem_cons_of_mem _ z)
theorem eo_lc0 {wi : TI} {g : TG} {cg : β → Ctx} {js vs : List Nat} {Wi : (List β → Prop) → Prop} {Wt : β → (Bool → Prop) → Prop} {We : β → (α → Prop) → Prop} (hi : IW c wi m Rb Wi) (hg : GP (wipeC c vs) g m Rb cg js)
    (ht : ∀ x, TW' (cg x) tt (Wt x)) (he : ∀ x, EW (cg x) te m1 R (We x)) (hus : ∀ i ∈ vs, isUS c i = true) (hj : ∀ j ∈ js, j ∈ vs) (hcg : ∀ x, wipeC (cg x) vs = wipeC c vs) (hcu : ∀ x, ∀ i ∈ vs, isUS (cg x) i = true) :
    EO c (tLc wi g tt te vs) (oList m1 R) (fun P => ∃ Ws, Wi Ws ∧ ∀ xs, Ws xs → xs.length ≤ sizeLine ∧ mapW (fun x (Q : Option α → Prop) => Wt x fun b => (b = true → We x fun y => Q (some y)) ∧ (b = false → Q none)) xs P) := fun {F} P w T σ H hd Q k => by
  obtain ⟨Ws, w, wk⟩ := w
  exact hi _ w T σ H hd _ fun xs J T' H1 px io h1 => fun D hD => by
    obtain ⟨hsz, px⟩ := wk xs px
    obtain ⟨S, ⟨A, B, hS⟩, back, _⟩ := h1.saveAll hus
    have nG : ¬ ghst F D := fun ⟨o, z⟩ => by
      have := (hS.gh _ z).1
      rw [show H1 D = none from hD] at this; cases this
    generalize hfd : (fun x (Q : Option α → Prop) => Wt x fun b => (b = true → We x fun y => Q (some y)) ∧ (b = false → Q none)) = f at px
    have hu := hS.under hD (o := .lst []) trivial
    refine ⟨fun i k H => k = xs.length - i ∧ i ≤ xs.length ∧ ∃ acc ws, acc.length ≤ i ∧ mapW f (xs.drop i) (fun ys => P (acc ++ ys)) ∧
      HD (F.gho D (.lst ws)) (wipeC c vs) (⟨.non, m1, accSP R ws acc⟩ :: (S ++ T')) (L2.wipe σ vs) H, ⟨xs.length, by simp, Nat.zero_le _, [], [], Nat.le_refl _, px, HD.push (p := accSP R [] []) hu .nil⟩, ?_⟩
    rintro i k2 H2 ⟨rfl, hile, acc, ws, hacc, hm, h2⟩
    have sT : ∀ t ∈ T', t ∈ (⟨.non, m1, accSP R ws acc⟩ :: (S ++ T') : List Tm) := fun t z => List.mem_cons_of_mem _ (List.mem_append_right _ z)
    by_cases hlt : i < xs.length
    · refine .inr ⟨io.go _ _ _ _ _ sT h2 i hlt, fun H' => ∃ acc ws, acc.length ≤ i + 1 ∧ mapW f (xs.drop (i + 1)) (fun ys => P (acc ++ ys)) ∧
        HD (F.gho D (.lst ws)) (wipeC c vs) (⟨.non, m1, accSP R ws acc⟩ :: (S ++ T')) (L2.wipe σ vs) H', fun H' z => ⟨xs.length - (i + 1), by omega, rfl, hlt, z⟩, fun x H3 y => ?_⟩
      have h3 := io.yld _ _ _ _ _ sT h2 i hlt x H3 y
      rw [← List.getElem_cons_drop hlt] at hm
      have hm2 := mapW_snoc hm
      refine hg _ _ _ _ _ h3 _ fun σ4 H4 h4 off => ⟨wipe_off off hj, ?_⟩
      have hw4 := wipe_off off hj
      -- a state behind the element: back to the slots as they were
      have again : ∀ {T2 : List Tm} {H5 : Hp}, HD (F.gho D (.lst ws)) (cg xs[i]) T2 σ4 H5 → HD (F.gho D (.lst ws)) (wipeC c vs) T2 (L2.wipe σ vs) H5 := fun h5 => by
        have := h5.wipe (vs := vs) fun j hj => isUS_free (hcu _ j hj)
        rw [hcg, hw4] at this
        exact this
      subst hfd
      refine ht xs[i] _ hm2 _ σ4 H4 h4 _ fun b H5 pb h5 => ?_
      cases b with
      | false => exact ⟨acc, ws, Nat.le_succ_of_le hacc, pb.2 rfl, again h5⟩
      | true =>
        refine he xs[i] _ (pb.1 rfl) _ σ4 H5 h5 _ fun y v H6 py h6 => ?_
        obtain ⟨A6, B6, h6⟩ := again h6
        have p1 := h6.hd
        have p2 := h6.hd2
        have e1 : H6 D = some (.lst ws) := (h6.gh (D, .lst ws) List.mem_cons_self).1
        have hl : ws.length = acc.length := Paired.length (show Paired (R.r _) ws acc from p2)
        obtain ⟨h7, hv⟩ := h6.more (ws' := ws ++ [v]) nG
        refine ⟨ws, e1, by omega, acc ++ [y], ws ++ [v], by simp; omega, py, ?_⟩
        refine HD.push (p := accSP R (ws ++ [v]) (acc ++ [y])) h7.tl.tl ?_
        exact Paired.snoc (Paired.mono (fun _ _ q => R.mono (hv m1) q) p2) (R.mono (hv m1) p1)
    · have e : i = xs.length := by omega
      subst e
      refine .inl ⟨io.stop _ _ _ _ _ sT h2, ?_⟩
      rw [List.drop_length] at hm
      have hP : P acc := by
        have : P (acc ++ []) := hm
        rwa [List.append_nil] at this
      refine k acc _ _ hP ?_
      obtain ⟨A2, B2, h2⟩ := h2
      have e1 : H2 D = some (.lst ws) := (h2.gh (D, .lst ws) List.mem_cons_self).1
      obtain ⟨h3, hv⟩ := h2.away nG
      have h4 : HD F (wipeC c vs) (⟨.non, m1, accSP R ws acc⟩ :: (S ++ T')) (L2.wipe σ vs) (fun a => if a = D then none else H2 a) := ⟨A2, B2, h3⟩
      have h5 : HD F c (⟨.non, m1, accSP R ws acc⟩ :: T') σ (fun a => if a = D then none else H2 a) := back _ _ _ (h4.sub fun t z => by
        simp only [List.mem_append, List.mem_cons] at z ⊢
        rcases z with z | z | z
        · exact .inr (.inl z)
        · exact .inl z
        · exact .inr (.inr z))
      obtain ⟨A5, B5, h5⟩ := h5
      have h6 := (h5.sub (T' := T) fun t z => List.mem_cons_of_mem _ (io.sub t z)).allocO (m := m1) (R := R) (xs := acc) (vs := ws) (l := D) (if_pos rfl) h5.hd
      have e2 : upd (fun a => if a = D then none else H2 a) D (.lst ws) = H2 := by
        funext a
        by_cases ea : a = D
        · subst ea; rw [upd_same, e1]
        · rw [upd_ne ea]; exact if_neg ea
      rw [e2] at h6
      exact h6
theorem eo_lcW {wi : TI} {g : TG} {cg : β → Ctx} {js vs : List Nat} {Wi : (List β → Prop) → Prop} {Wt : β → (Bool → Prop) → Prop} {We : β → (α → Prop) → Prop} (hi : IW c wi m Rb Wi) (hg : GP (wipeC c vs) g m Rb cg js)
    (ht : ∀ x, TW' (cg x) tt (Wt x)) (he : ∀ x, EW (cg x) te m1 R (We x)) (hus : ∀ i ∈ vs, isUS c i = true) (hj : ∀ j ∈ js, j ∈ vs) (hcg : ∀ x, wipeC (cg x) vs = wipeC c vs) (hcu : ∀ x, ∀ i ∈ vs, isUS (cg x) i = true) :
    EO c (tLc wi g tt te vs) (oList m1 R) (fun P => Wi fun xs => xs.length ≤ sizeLine ∧ mapW (fun x (Q : Option α → Prop) => Wt x fun b => (b = true → We x fun y => Q (some y)) ∧ (b = false → Q none)) xs P) := fun {F} P w T σ H hd Q k =>
  eo_lc0 hi hg ht he hus hj hcg hcu P ⟨_, w, fun _ h => h⟩ T σ H hd Q k
theorem mapW_pure {α β : Type} {St Se : α → Prop} {pt : α → Bool} {fe : α → β} : ∀ {xs : List α} {P : List β → Prop}, (∀ x ∈ xs, St x ∧ (pt x = true → Se x)) → P ((xs.filter pt).map fe) →
    mapW (fun x (Q : Option β → Prop) => St x ∧ ((pt x = true → Se x ∧ Q (some (fe x))) ∧ (pt x = false → Q none))) xs P
  | [], P, _, p => p
  | x :: xs, P, h, p => by
    have h1 := h x List.mem_cons_self
    have h2 : ∀ y ∈ xs, St y ∧ (pt y = true → Se y) := fun y hy => h y (List.mem_cons_of_mem _ hy)
    refine ⟨h1.1, fun e => ⟨h1.2 e, ?_⟩, fun e => ?_⟩
    · refine mapW_pure h2 ?_
      rw [List.filter_cons_of_pos e] at p
      exact p
    · refine mapW_pure h2 ?_
      rw [List.filter_cons_of_neg (by rw [e]; simp)] at p
      exact p
/-- [f x for x in xs if p x] -/
theorem eo_lc {wi : TI} {g : TG} {cg : β → Ctx} {js vs : List Nat} {Wi : (List β → Prop) → Prop} {St Se : β → Prop} {pt : β → Bool} {fe : β → α} (hi : IW c wi m Rb Wi) (hg : GP (wipeC c vs) g m Rb cg js)
    (ht : ∀ x, TP' (cg x) tt (St x) (pt x)) (he : ∀ x, EP (cg x) te m1 R (Se x) (fe x)) (hus : ∀ i ∈ vs, isUS c i = true) (hj : ∀ j ∈ js, j ∈ vs) (hcg : ∀ x, wipeC (cg x) vs = wipeC c vs) (hcu : ∀ x, ∀ i ∈ vs, isUS (cg x) i = true) :
    EO c (tLc wi g tt te vs) (oList m1 R) (fun P => Wi fun xs => xs.length ≤ sizeLine ∧ (∀ x ∈ xs, St x ∧ (pt x = true → Se x)) ∧ P ((xs.filter pt).map fe)) := fun {F} P w T σ H hd Q k =>
  eo_lc0 hi hg (fun x => TP'.w (ht x)) (fun x => EP.w (he x)) hus hj hcg hcu P ⟨_, w, fun xs ⟨h1, h2, h3⟩ => ⟨h1, mapW_pure h2 h3⟩⟩ T σ H hd Q k
theorem tp_yes : TP' c tYes True true := fun _ T σ H hd Q k => k H hd
/-- .. without a test -/
theorem eo_lc1 {wi : TI} {g : TG} {cg : β → Ctx} {js vs : List Nat} {Wi : (List β → Prop) → Prop} {Se : β → Prop} {fe : β → α} (hi : IW c wi m Rb Wi) (hg : GP (wipeC c vs) g m Rb cg js)
    (he : ∀ x, EP (cg x) te m1 R (Se x) (fe x)) (hus : ∀ i ∈ vs, isUS c i = true) (hj : ∀ j ∈ js, j ∈ vs) (hcg : ∀ x, wipeC (cg x) vs = wipeC c vs) (hcu : ∀ x, ∀ i ∈ vs, isUS (cg x) i = true) :
    EO c (tLc wi g tYes te vs) (oList m1 R) (fun P => Wi fun xs => xs.length ≤ sizeLine ∧ (∀ x ∈ xs, Se x) ∧ P (xs.map fe)) := fun {F} P w T σ H hd Q k =>
  eo_lc0 hi hg (fun _ => TP'.w tp_yes) (fun x => EP.w (he x)) hus hj hcg hcu P ⟨_, w, fun xs ⟨h1, h2, h3⟩ => ⟨h1, by
    have := mapW_pure (St := fun _ => True) (pt := fun _ => true) (fe := fe) (Se := Se) (P := P) (fun x hx => ⟨trivial, fun _ => h2 x hx⟩) (by rw [List.filter_eq_self.mpr (by simp)]; exact h3)
    exact this⟩⟩ T σ H hd Q k

/-! ## 12. calls -/
/-- a parameter: how it is seen by the def -/
structure Pm where
  m : Md
  p : SP
  ok : m = .n → ∀ {H v}, p.P H v → p.P (hid (mutAt H) H) v
  nb : m ≠ .b
def Rp.pn {α : Type} (R : Rp α) [Im R] (a : α) : Pm := ⟨.n, R.at a, fun _ {H v} h => Im.im (R := R) h, by decide⟩
def Rp.ps {α : Type} (R : Rp α) (a : α) : Pm := ⟨.s, R.at a, (fun e => by cases e), by decide⟩
def argsOk (stt : Bool) (L : List Pm) (B : List Addr) (vs : List V) (H : Hp) : Prop :=
  if stt then ∃ a r vs', B = a :: r ∧ StP B H ∧ vs = .ref a :: vs' ∧ Paired (fun v (p : Pm) => p.p.P (hid (fun x => x ∈ B) H) v) vs' L
  else B = [] ∧ Paired (fun v (p : Pm) => p.p.P H v) vs L
def spT (stt : Bool) {ι : Type} (L : ι → List Pm) {ρ : Type} (Rr : Rp ρ) (spec : ι → (ρ → Prop) → Prop) : Sp := fun vs H Q _ =>
  ∃ (i : ι) (B : List Addr) (Post : ρ → Prop), argsOk stt (L i) B vs H ∧ spec i Post ∧ ∀ a v H', Post a → RetOk ⟨H, B, []⟩ Rr a v H' → Q v H'
/-- a def that is a function where pre holds -/
abbrev spF {ι : Type} (L : ι → List Pm) {ρ : Type} (Rr : Rp ρ) (pre : ι → Prop) (f : ι → ρ) : Sp := spT false L Rr fun i P => pre i ∧ P (f i)
theorem zipT_paired : ∀ {vs : List V} {La : AL} {L : List Pm} {G : Md → Hp} {H : Hp}, vs.length = La.length → La.map Prod.snd = L.map Pm.p → (∀ t ∈ zipT vs La, t.p.P (G t.m) t.v) → (∀ m, Ext (G m) H) → Paired (fun v (p : Pm) => p.p.P H v) vs L
  | [], [], [], _, _, _, _, _, _ => .nil
  | v :: vs, p :: La, q :: L, G, H, e, e2, h, ex => by
    simp only [List.map_cons, List.cons.injEq] at e2
    refine .cons ?_ (zipT_paired (G := G) (by simpa using e) e2.2 (fun t ht => h t (List.mem_cons_of_mem _ ht)) ex)
    have := h ⟨v, p.1, p.2⟩ List.mem_cons_self
    rw [← e2.1]
    exact SP.mono _ (ex _) this
  | [], _ :: _, _, _, _, e, _, _, _ => by simp at e
  | _ :: _, [], _, _, _, e, _, _, _ => by simp at e
  | [], [], _ :: _, _, _, _, e, _, _ => by simp at e
  | _ :: _, _ :: _, [], _, _, _, e, _, _ => by simp at e
/-- behind a call -/
theorem HdA.called {B0 : List Addr} {H' : Hp} {v : V} {a : α} (h : HdA F c T σ H A B) (hB : B0 = [] ∨ B0 = B) (r : RetOk ⟨H, B0, []⟩ R a v H') : HD F c (⟨v, .n, R.at a⟩ :: T) σ H' := by
  have h2 : HdA F c T σ H' A B := by
    refine h.drawn (fun x o nx q => r.fr x o q ?_) ?_
    · show x ∉ B0
      rcases hB with z | z
      · rw [z]; simp
      · rw [z]; exact nx
    · rcases hB with z | z
      · rcases h.st with q | q
        · exact .inl q
        · refine .inr (q.frame fun x hx => ?_)
          obtain ⟨o, e, _⟩ := q.obj x hx
          rw [e]; exact r.fr x o e (by show x ∉ B0; rw [z]; simp)
      · have := r.st
        rw [show (⟨H, B0, []⟩ : Fm).I = B from z] at this
        exact this
  refine HD.push h2 (show R.r (view F A B .n H') v a from R.mono ?_ r.rp)
  refine hid_ext (fun x o e q => ?_) fun _ _ _ q => q
  show x ∈ B0 ∨ mutAt H x
  by_cases hx : x ∈ B0
  · exact .inl hx
  · refine .inr ?_
    rcases q with q | q
    · exact h.own x q
    · exact h.mut0 x q
theorem ew_call {ρ : Type} {L : ι → List Pm} {Rr : Rp ρ} {spec : ι → (ρ → Prop) → Prop} {E : XK} {t : TA} {La : ι → AL} {W : (ι → Prop) → Prop} (ha : AW' c t La W) (e : ∀ i, (La i).map Prod.snd = (L i).map Pm.p := by intro _; rfl) :
    EW c (tCall (spT false L Rr spec) [] E t) .n Rr (fun P => W fun i => spec i P) := fun P w T σ H hd Q k =>
  ha _ w T σ H hd _ fun i vs H1 pi el ⟨A, B, h1⟩ => by
    rw [List.append_nil]
    refine ⟨i, [], P, ⟨rfl, ?_⟩, pi, fun a v H' pa r => k a v H' pa (HdA.called (h1.sub fun t z => List.mem_append_right _ z) (.inl rfl) r)⟩
    exact zipT_paired (G := fun m => view _ A B m H1) el (e i) (fun t ht => h1.tm t (List.mem_append_left _ ht)) fun m => view_full
theorem ep_call {ρ : Type} {L : ι → List Pm} {Rr : Rp ρ} {pre : ι → Prop} {f : ι → ρ} {E : XK} {t : TA} {La : AL} {S : Prop} (i : ι) (ha : AP' c t S La) (e : La.map Prod.snd = (L i).map Pm.p := by rfl) :
    EP c (tCall (spF L Rr pre f) [] E t) .n Rr (S ∧ pre i) (f i) := fun s T σ H hd Q k =>
  ha s.1 T σ H hd _ fun vs H1 el ⟨A, B, h1⟩ => by
    rw [List.append_nil]
    refine ⟨i, [], fun x => x = f i, ⟨rfl, ?_⟩, ⟨s.2, rfl⟩, fun a v H' pa r => by
      subst pa
      exact k v H' (HdA.called (h1.sub fun t z => List.mem_append_right _ z) (.inl rfl) r)⟩
    exact zipT_paired (G := fun m => view _ A B m H1) el e (fun t ht => h1.tm t (List.mem_append_left _ ht)) fun m => view_full
/-- a call that hands on the drawing state (the name in slot i) -/
theorem ew_callS {ρ : Type} {L : ι → List Pm} {Rr : Rp ρ} {spec : ι → (ρ → Prop) → Prop} {E : XK} {t : TA} {La : ι → AL} {W : (ι → Prop) → Prop} {i : Nat} (hi : c[i]? = some .io) (ha : AW' c t La W) (e : ∀ i, (La i).map Prod.snd = (L i).map Pm.p := by intro _; rfl) :
    EW c (tCall (spT true L Rr spec) [] E (tCons (tVar i) t)) .n Rr (fun P => W fun i => spec i P) := fun P w T σ H hd Q k => by
  have slot : ∀ {T : List Tm} {H : Hp} {A : Nat → List Addr} {B : List Addr} {F : Fm}, HdA F c T σ H A B → ∃ a r, σ[i]? = some (some (V.ref a)) ∧ B = a :: r := fun h => by
    have q := h.sl i
    unfold slOk at q
    rw [hi] at q
    exact q.2
  obtain ⟨A0, B0, hd0⟩ := hd
  obtain ⟨a, r, ea, eb⟩ := slot hd0
  refine ⟨.ref a, ea, ?_⟩
  refine ha _ w T σ H ⟨A0, B0, hd0⟩ _ fun i vs H1 pi el ⟨A, B, h1⟩ => ?_
  obtain ⟨a', r', ea', eb'⟩ := slot h1
  rw [ea] at ea'
  cases ea'
  rw [List.append_nil]
  have hst : StP B H1 := by
    rcases h1.st with z | z
    · rw [eb'] at z; cases z
    · exact z
  refine ⟨i, B, P, ⟨a, r', vs, eb', hst, rfl, ?_⟩, pi, fun a v H' pa r => k a v H' pa (HdA.called (h1.sub fun t z => List.mem_append_right _ z) (.inr rfl) r)⟩
  exact zipT_paired (G := fun m => view _ A B m H1) el (e i) (fun t ht => h1.tm t (List.mem_append_left _ ht)) fun m => by
    refine (view_mb).trans (hid_ext (fun x o _ q => .inl q) fun _ _ _ q => q)

/-! ## 13. a def -/
def c0 (stt : Bool) (L : List Pm) (n : Nat) : Ctx := (if stt then [Sl.io] else []) ++ (L.map fun p => Sl.sh p.m p.p) ++ List.replicate n .un
end
end TW

set_option maxRecDepth 100000
set_option maxHeartbeats 2000000
namespace TW
open PySem PySem.Spec PyProof.Rows L2
theorem paired_at {α β : Type} {G : α → β → Prop} {xs : List α} {ys : List β} (h : Paired G xs ys) {i : Nat} {y : β} (e : ys[i]? = some y) : ∃ x, xs[i]? = some x ∧ G x y := by
  induction h generalizing i with
  | nil => simp at e
  | cons a _ ih => cases i with
    | zero => simp at e; subst e; exact ⟨_, rfl, a⟩
    | succ i => simpa using ih (by simpa using e)
theorem start_at {N : List Str} {vs : List V} {i : Nat} {v : V} (h : vs[i]? = some v) : (start N vs)[i]? = some (some v) := by
  unfold L2.start
  have hl := (List.getElem?_eq_some_iff.mp h).1
  rw [List.getElem?_append_left (by simpa using hl), List.getElem?_map, h]
  rfl
theorem start_hd {stt : Bool} {L : List Pm} {B : List Addr} {vs : List V} {H : Hp} {N : List Str} (h : argsOk stt L B vs H) (hl : vs.length ≤ N.length) : HD ⟨H, B, []⟩ (c0 stt L (N.length - vs.length)) [] (start N vs) H := by
  have hBm : ∀ a ∈ B, mutAt H a := by
    unfold argsOk at h
    split at h
    · obtain ⟨_, _, _, _, st, _⟩ := h; exact st.obj
    · rw [h.1]; simp
  have key : ∀ (pre : List Sl) (vpre vs' : List V), vs = vpre ++ vs' → pre.length = vpre.length → Paired (fun v (p : Pm) => p.p.P (hid (fun x => x ∈ B) H) v) vs' L →
      (∀ i, i < pre.length → slOk ⟨H, B, []⟩ (fun _ => []) B (pre ++ (L.map fun p => Sl.sh p.m p.p) ++ List.replicate (N.length - vs.length) .un) (start N vs) H i) → (B = [] ∨ StP B H) → HD ⟨H, B, []⟩ (pre ++ (L.map fun p => Sl.sh p.m p.p) ++ List.replicate (N.length - vs.length) .un) [] (start N vs) H := by
    intro pre vpre vs' e el hp hs hst
    refine ⟨fun _ => [], B, ?_, fun i => ?_, by simp, by simp, by simp, .inr rfl, fun a o q _ => q, fun a q r => ?_, hst, fun a ⟨o, z⟩ => by simp at z, by simp⟩
    · have h1 := hp.length
      have h2 : (start N vs).length = vs.length + (N.length - vs.length) := by unfold L2.start; simp
      rw [h2, e]
      simp [el, h1]; omega
    · by_cases h1 : i < pre.length
      · exact hs i h1
      · unfold slOk
        rw [List.append_assoc, List.getElem?_append_right (by omega)]
        by_cases h2 : i - pre.length < L.length
        · rw [List.getElem?_append_left (by simpa using h2), List.getElem?_map, List.getElem?_eq_getElem h2]
          obtain ⟨v, hv, pv⟩ := paired_at hp (List.getElem?_eq_getElem h2)
          refine ⟨rfl, v, start_at (by rw [e, List.getElem?_append_right (by omega), ← el]; exact hv), ?_⟩
          generalize L[i - pre.length] = p at pv ⊢
          cases hm : p.m with
          | n =>
            refine SP.mono _ ?_ (p.ok hm pv)
            intro a o q
            obtain ⟨q1, q2⟩ := hid_some.mp q
            obtain ⟨q3, q4⟩ := hid_some.mp q2
            have nm : ¬ mutAt H a := fun ⟨o', e', z⟩ => by
              rw [q4] at e'; cases e'
              exact q1 ⟨o, q2, z⟩
            refine view_some.mpr ⟨fun z => ?_, q4⟩
            rcases z with ((z | ⟨o, z⟩) | ⟨i, z⟩) | z
            · exact q3 z
            · simp at z
            · simp at z
            · exact nm z
          | s =>
            refine SP.mono _ ?_ pv
            refine hid_ext (fun a o _ q => ?_) fun _ _ _ q => q
            rcases q with (q | ⟨o, q⟩) | ⟨i, q⟩
            · exact q
            · simp at q
            · simp at q
          | b => exact absurd hm p.nb
        · rw [List.getElem?_append_right (by simpa using h2)]
          cases e2 : (List.replicate (N.length - vs.length) Sl.un)[i - pre.length - (L.map fun p => Sl.sh p.m p.p).length]? with
          | none => rfl
          | some s =>
            have := List.mem_of_getElem? e2
            rw [List.mem_replicate] at this
            rw [this.2]
    · rcases q with (q | ⟨o, q⟩) | ⟨i, q⟩
      · exact absurd q r
      · simp at q
      · simp at q
  unfold argsOk at h
  cases stt with
  | true =>
    obtain ⟨a, r, vs', e1, st, e2, hp⟩ := h
    refine key [.io] [.ref a] vs' e2 rfl hp (fun i hi => ?_) (.inr st)
    have : i = 0 := by simpa using hi
    subst this
    exact ⟨rfl, a, r, start_at (by rw [e2]; rfl), e1⟩
  | false =>
    obtain ⟨e1, hp⟩ := h
    subst e1
    refine key [] [] vs rfl rfl (Paired.mono (fun v p q => SP.mono _ (fun x o z => hid_some.mpr ⟨by simp, z⟩) q) hp) (fun i hi => by simp at hi) (.inl rfl)
theorem argsOk.len {stt : Bool} {L : List Pm} {B : List Addr} {vs : List V} {H : Hp} (h : argsOk stt L B vs H) : vs.length = L.length + (if stt then 1 else 0) := by
  unfold argsOk at h
  cases stt with
  | true =>
    obtain ⟨a, r, vs', e1, st, e2, hp⟩ := h
    rw [e2]
    simp [hp.length]
  | false =>
    obtain ⟨e1, hp⟩ := h
    simp [hp.length]
abbrev FnP (K : PySem.W.Frag) (x : Str) (st : Stmt) (f : Addr) (fd : FuncData) : Prop := FunD K x x (defArgs st) (defBody st) (defScope st) [] [] f fd
section
variable {P : Program} {w : World} {K : PySem.W.Frag} {mg : Str → Option Value} {base : Heap}
theorem fn_ok {ι ρ : Type} {stt : Bool} {L : ι → List Pm} {Rr : Rp ρ} {spec : ι → (ρ → Prop) → Prop} {x : Str} {st : Stmt} {f : Addr} {fd : FuncData} {N ps : List Str} {k : Nat} (F : FnP K x st f fd) (S : FnScope N ps (defScope st))
    (hl : ∀ i, (L i).length + (if stt then 1 else 0) = ps.length) (hn : ps.length ≤ N.length)
    (h : ∀ (cdv : Value) (A : Around) (outer : List Env) (s : Shared) (H : Hp) (E : XK), Room k (A.deeper (envOfC x (defScope st) s.heap.objs.size f cdv)) →
      ∃ t, PSs (cxOf CX0 P w K mg base N x (defScope st) f cdv A outer s H E).nox (defBody st) t ∧ ∀ (i : ι) (B : List Addr) (Post : ρ → Prop) (Q : VK), RtOk ⟨H, B, []⟩ Rr Post Q → spec i Post → (stt = false → B = []) →
        ∀ σ H1, HD ⟨H, B, []⟩ (c0 stt (L i) (N.length - ps.length)) [] σ H1 → t { nx := fun _ H' => Q .non H', rt := Q } σ H1) :
    FnOk P w K mg base CX0 (k + 1) f fd ps (spT stt L Rr spec) := by
  have len : ∀ vs H Q E, spT stt L Rr spec vs H Q E → vs.length = ps.length := fun vs H Q E ⟨i, B, Post, ha, _⟩ => by rw [ha.len]; exact hl i
  refine F.ok S len fun cdv A outer s H vs Q E hr hsp => ?_
  have hlen := len _ _ _ _ hsp
  obtain ⟨i, B, Post, ha, hs, hQ⟩ := hsp
  obtain ⟨t, ht, hq⟩ := h cdv A outer s H E hr
  refine ⟨t, ht.nox, hq i B Post Q hQ hs (fun e => by subst e; exact ha.1) _ H ?_⟩
  have := start_hd (N := N) ha (by rw [hlen]; exact hn)
  rw [hlen] at this
  exact this
end
theorem SW.go {F : Fm} {c c' : Ctx} {t : TS} {D : Ends} {W : Prop} (h : SW F c' [] t D W) (e : c = c') (hw : W) : ∀ σ H1, HD F c [] σ H1 → t D σ H1 := fun σ H1 hd => h (fun t ht => by simp at ht) hw σ H1 (e ▸ hd)
theorem sw_endN {F : Fm} {c : Ctx} {T : List Tm} {α : Type} {R : Rp α} {a : α} {Post : α → Prop} {Q : VK} (hR : RtOk F R Post Q) (hn : ∀ H, R.r H .non a) : SW F c T tNext { nx := fun _ H' => Q .non H', rt := Q } (Post a) := fun nb w σ H ⟨A, B, hd⟩ =>
  hR a .non H w (HdA.ret (R := R) (a := a) (T := T) ⟨hd.len, hd.sl, (fun t ht => (List.mem_cons.mp ht).elim (fun z => by subst z; exact hn _) (fun z => hd.tm t z)), hd.dj, hd.db, hd.iq, hd.fr, hd.ni, hd.st, hd.gb, hd.gh⟩)
end TW

set_option maxRecDepth 100000
set_option maxHeartbeats 2000000
namespace TW
open PySem PySem.Spec PyProof.Rows L2
theorem bt_len : bootBuiltins "len" = some (.builtin "len") := by decide +kernel
theorem bt_abs : bootBuiltins "abs" = some (.builtin "abs") := by decide +kernel
theorem bt_max : bootBuiltins "max" = some (.builtin "max") := by decide +kernel
theorem bt_min : bootBuiltins "min" = some (.builtin "min") := by decide +kernel
theorem bt_sum : bootBuiltins "sum" = some (.builtin "sum") := by decide +kernel
theorem bt_any : bootBuiltins "any" = some (.builtin "any") := by decide +kernel
theorem bt_all : bootBuiltins "all" = some (.builtin "all") := by decide +kernel
theorem bt_sorted : bootBuiltins "sorted" = some (.builtin "sorted") := by decide +kernel
theorem bt_isinstance : bootBuiltins "isinstance" = some (.builtin "isinstance") := by decide +kernel
theorem bt_int : bootBuiltins "int" = some (.type "int") := by decide +kernel
theorem bt_str : bootBuiltins "str" = some (.type "str") := by decide +kernel
theorem bt_bool : bootBuiltins "bool" = some (.type "bool") := by decide +kernel
theorem bt_list : bootBuiltins "list" = some (.type "list") := by decide +kernel
theorem bt_tuple : bootBuiltins "tuple" = some (.type "tuple") := by decide +kernel
theorem bt_set : bootBuiltins "set" = some (.type "set") := by decide +kernel
theorem bt_dict : bootBuiltins "dict" = some (.type "dict") := by decide +kernel
theorem un65 {k : Nat} {A : Around} (r : Room k A) : A.units + 65 < cLine := by have := r.un; omega
theorem un1 {k : Nat} {A : Around} (r : Room k A) : A.units + 1 < cLine := by have := r.un; omega
/-- what is known of a def by its callers -/
structure Cal (P : Program) (w : World) (K : PySem.W.Frag) (mg : Str → Option Value) (base : Heap) (k : Nat) (x : Str) (n : Nat) (sp : Sp) : Prop where
  ex : ∃ (ps : List Str) (f : Addr) (fd : FuncData), FnOk P w K mg base CX0 k f fd ps sp ∧ mg x = some (.ref f) ∧ PySem.W.keepIn K (.ref f) = true ∧ Binds K fd ps [] ∧ ps.length = n
section
variable {X : Cx} {x : Str} {n k j : Nat} {sp : Sp} {e : Expr} {es : List Expr} {t : TA} {p pos : Pos}
theorem pe_cal (C : Cal X.prog X.w X.K X.mg X.base k x n sp) (hr : Room j X.A) (hj : k ≤ j) (hg : Gl X x) (ha : PA X (e :: es) t) (hdb : (x == ("__debug__" : Str)) = false := by decide) (he : starEach (e :: es) X.env = (false, eval e X.env) :: starEach es X.env := by rfl) (hpl : (backTo pos (starEach es X.env)).any (·.1) = false := by rfl) :
    PE X (.Call (.Name x p) (e :: es) [] pos) (tCall sp [] E0 t) := by
  obtain ⟨ps, f, fd, F, hm, hk, hb, _⟩ := C.ex
  exact pe_call F (hr.mono hj) hg hm hk hb .nil pass0 ha hdb he hpl
theorem pe_cal0 (C : Cal X.prog X.w X.K X.mg X.base k x n sp) (hr : Room j X.A) (hj : k ≤ j) (hg : Gl X x) (hdb : (x == ("__debug__" : Str)) = false := by decide) : PE X (.Call (.Name x p) [] [] pos) (tCall sp [] E0 tNil) := by
  obtain ⟨ps, f, fd, F, hm, hk, hb, _⟩ := C.ex
  exact pe_call0 F (hr.mono hj) hg hm hk hb .nil pass0 hdb
end
/-! ## 14. the drawing state -/
abbrev DrawOk (n : Int) : Prop := 0 < n ∧ n.natAbs.log2 < 9000
abbrev spDraw : Sp := spT true (fun i : Int × Unit => [Rp.pn rInt i.1]) rInt (fun i P => DrawOk i.1 ∧ ∀ d, 0 ≤ d → d < i.1 → P d)
/-- a new state -/
def spState (K : PySem.W.Frag) : Sp := fun vs H Q _ => ∃ (a : Addr) (ns : List Int), vs = [.ref a] ∧ SqL K H a (ns.map V.int) ∧ ns.length ≤ 63 ∧ ∀ (B : List Addr) (b : Addr) (H' : Hp), B.head? = some b → StP B H' → Ext H H' → (∀ x ∈ B, H x = none) → Q (.ref b) H'
/-- the script -/
def pScript (K : PySem.W.Frag) (i : Addr × List Int) : SP := ⟨fun H v => v = .ref i.1 ∧ SqL K H i.1 (i.2.map V.int), fun {H H' v} e h => ⟨h.1, by
  rcases h.2 with (q | ⟨o, q⟩) | q
  · exact .inl (.inl (e.ap _ _ q))
  · exact .inl (.inr ⟨o, e.ap _ _ q⟩)
  · exact .inr q⟩⟩
def pmScript (K : PySem.W.Frag) (i : Addr × List Int) : Pm := ⟨.s, pScript K i, (fun e => by cases e), by decide⟩
/-- the law's promise -/
abbrev spLaw (K : PySem.W.Frag) : Sp := spT false (fun i : Addr × List Int => [pmScript K i]) rBool (fun i P => i.2.length ≤ 63 ∧ P true)
section
variable {K : PySem.W.Frag} {F : Fm} {c : Ctx} {T : List Tm} {D : Ends} {tr : TS} {W : Prop}
def noIo (c : Ctx) : Bool := c.all fun | .io => false | _ => true
/-- state = _law_state(script) -/
theorem sw_state {E : XK} {i j : Nat} {m : Md} {s : Addr × List Int} (hI : F.I = []) (hG : F.G = []) (hj : c[j]? = some (.sh m (pScript K s))) (hs : s.2.length ≤ 63) (k : SW F (c.set i .io) T tr D W) (hi : isFree c i = true := by rfl) (hio : noIo c = true := by rfl) :
    SW F c T (tSeq (tAsg (tCall (spState K) [] E (tCons (tVar j) tNil)) (gName i)) tr) D W := fun nb w σ H ⟨A, B, hd⟩ => by
  have q := hd.sl j
  unfold slOk at q
  rw [hj] at q
  obtain ⟨_, v, hv, hp⟩ := q
  obtain ⟨hil, hiA⟩ := isFree_A hi hd
  have hp' := SP.mono _ view_full hp
  refine ⟨v, hv, s.1, s.2, ?_, hp'.2, hs, fun B' b H' hb st ex fresh => ?_⟩
  · show [v] ++ [] = _
    rw [hp'.1]; rfl
  · obtain ⟨r, eB⟩ : ∃ r, B' = b :: r := by
      cases B' with
      | nil => simp at hb
      | cons x r => simp at hb; subst hb; exact ⟨r, rfl⟩
    have nog : ∀ a, ¬ ghst F a := fun a ⟨o, z⟩ => by rw [hG] at z; simp at z
    -- the old state is forgotten
    have g := hd.grow ex
    have frB : ∀ x, x ∈ B' → ∀ o, H x = some o → False := fun x hx o e => by rw [fresh x hx] at e; cases e
    have hv' : ∀ m, Ext (view F A B m H) (view F A B' m H') := fun m a o z => by
      obtain ⟨z1, z2⟩ := view_some.mp z
      have nB' : a ∉ B' := fun z => frB a z o z2
      refine view_some.mpr ⟨fun y => z1 ?_, ex a o z2⟩
      have hb : hB F B' a → hB F B a := fun y => y.elim (fun y => absurd y nB') fun y => absurd y (nog a)
      cases m
      · exact y.imp (fun y => y.imp hb id) id
      · exact y.imp hb id
      · exact hb y
    refine k nb w _ H' ⟨A, B', by simp [hd.len], fun l => ?_, fun t ht => SP.mono _ (hv' _) (hd.tm t ht), hd.dj, fun l a ha z => ?_, .inl hI, fun a o e n => ex a o (hd.fr a o e n), fun a e n => ?_, .inr st, fun a z => absurd z (nog a), fun p hp => by rw [hG] at hp; simp at hp⟩
    · by_cases e : l = i
      · subst e
        unfold slOk
        rw [List.getElem?_set_self hil]
        exact ⟨hiA, b, r, by rw [List.getElem?_set_self (by rw [← hd.len]; exact hil)], eB⟩
      · have q := hd.sl l
        unfold slOk at q ⊢
        rw [List.getElem?_set_ne (fun z => e z.symm)]
        have es : ∀ w, σ[l]? = some w → (σ.set i (some (V.ref b)))[l]? = some w := fun w z => by rw [List.getElem?_set_ne (fun z => e z.symm)]; exact z
        cases e2 : c[l]? with
        | none => rw [e2] at q; exact q
        | some sl =>
          rw [e2] at q
          cases sl with
          | un => exact q
          | sh m p => obtain ⟨a, v, hv1, hp1⟩ := q; exact ⟨a, v, es _ hv1, SP.mono _ (hv' _) hp1⟩
          | ow p =>
            obtain ⟨v, hv1, hp1⟩ := q
            refine ⟨v, es _ hv1, OP.frame _ (fun a ha => ?_) (hv' _) hp1⟩
            obtain ⟨o, ho, _⟩ := OP.obj _ hp1 a ha
            rw [ho]; exact ex a o ho
          | io =>
            have := List.all_eq_true.mp hio _ (List.mem_of_getElem? e2)
            cases this
    · rcases z with z | z
      · obtain ⟨o, ho, _⟩ := hd.objA a ha
        exact frB a z o ho
      · exact nog a z
    · rcases e with (e | e) | ⟨l, e⟩
      · cases e2 : F.H0 a with
        | none => rfl
        | some o => exact (frB a e o (hd.fr a o e2 (by rw [hI]; simp))).elim
      · exact absurd e (nog a)
      · exact hd.ni a (.inr ⟨l, e⟩) n
end
end TW

set_option maxRecDepth 100000
set_option maxHeartbeats 2000000
namespace TW
open PySem PySem.Spec PyProof.Rows L2
/-- // of any two numbers, the divisor not too great -/
def CDivA (i j : Int) : Prop := CDivW i j ∨ CDivN i j
theorem op_fdivA {X : Cx} : OpR X (binaryOp .FloorDiv) (rI CDivA fun i j => .int (i.fdiv j)) := by
  intro pins s σ H x y v u Q I rx ry h
  obtain ⟨i, j, ex, ey, hc, q⟩ := h
  rcases hc with hc | hc
  · refine op_fdivW pins s σ H x y v u Q I rx ry ⟨i, j, ex, ey, hc, ?_⟩
    show Q (V.int (i / j)) H
    rw [← Int.fdiv_eq_ediv_of_nonneg _ (Int.le_of_lt hc.1)]
    exact q
  · exact op_fdivN pins s σ H x y v u Q I rx ry ⟨i, j, ex, ey, hc, q⟩
section
variable {F : Fm} {c : Ctx} {T : List Tm} {σ : Sg} {H : Hp} {A : Nat → List Addr} {B : List Addr} {D : Ends} {α β γ ι τ : Type} {R : Rp α} {Rb : Rp β} {Rc : Rp γ} {m m1 m2 m3 : Md} {te ta tb tc : TE} {tt tu : TT} {tr : TS} {K : PySem.W.Frag}
/-! ## 15. pure forms -/
def EOP (c : Ctx) (te : TE) {α : Type} (p : α → OP) (S : Prop) (x : α) : Prop := EO c te p (fun P => S ∧ P x)
theorem ep_eo {p : α → OP} [OwR p m R] {S : Prop} {x : α} (h : EOP c te p S x) : EP c te m R S x := eo_shP h
def LsP (c : Ctx) (t : TA) (m : Md) (R : Rp α) (n : Nat) (S : Prop) (xs : List α) : Prop := Ls c t m R n (fun P => S ∧ P xs)
theorem lp_nil : LsP c tNil m R 0 True [] := fun P w T σ H hd Q k => ls_nil P w.2 T σ H hd Q k
theorem lp_cons {n : Nat} {t : TA} {S1 S2 : Prop} {x : α} {xs : List α} (ha : EP c ta m R S1 x) (hr : LsP c t m R n S2 xs) : LsP c (tCons ta t) m R (n + 1) (S1 ∧ S2) (x :: xs) := fun P w T σ H hd Q k =>
  ls_cons ha.w (fun _ => hr) P ⟨w.1.1, w.1.2, w.2⟩ T σ H hd Q k
theorem ep_tupL {n : Nat} {t : TA} {S : Prop} {xs : List α} (h : LsP c t m R n S xs) (hn : n ≤ 1000 := by decide) : EP c (tTup t) m (rTup K R) S xs := ew_pure (ew_tup h hn)
theorem eo_lstP {n : Nat} {t : TA} {S : Prop} {xs : List α} (h : LsP c t m R n S xs) (hn : n ≤ 1000 := by decide) : EOP c (tLst t) (oList m R) S xs := eo_lst h hn
def IWP (c : Ctx) (wi : TI) (m : Md) (R : Rp β) (S : Prop) (xs : List β) : Prop := IW c wi m R (fun P => S ∧ P xs)
theorem IWP.w {wi : TI} {S : Prop} {xs : List β} (h : IWP c wi m Rb S xs) : IW c wi m Rb (fun P => S ∧ P xs) := h
theorem iw_range1P {S : Prop} {n : Int} (h : EP c te m rInt S n) : IWP c (iRng1 (tCons te tNil)) .n rInt (S ∧ (-(2 ^ 62) ≤ n ∧ n < 2 ^ 62)) (rng 0 n) := fun P w T σ H hd K k => iw_range1 h.w P ⟨w.1.1, w.1.2, w.2⟩ T σ H hd K k
theorem iw_range2P {S1 S2 : Prop} {a b : Int} (h1 : EP c ta m1 rInt S1 a) (h2 : EP c tb m2 rInt S2 b) : IWP c (iRng2 (tCons ta (tCons tb tNil))) .n rInt (S1 ∧ S2 ∧ (-(2 ^ 62) ≤ a ∧ a < 2 ^ 62 ∧ -(2 ^ 62) ≤ b ∧ b < 2 ^ 62)) (rng a b) := fun P w T σ H hd K k =>
  iw_range2 h1.w (fun _ => h2.w) P ⟨w.1.1, w.1.2.1, w.1.2.2, w.2⟩ T σ H hd K k
theorem iw_listP {S : Prop} {xs : List β} (h : EP c te m (rList Rb) S xs) : IWP c (iList K te) m Rb S xs := iw_list h.w
theorem iw_tupP {S : Prop} {xs : List β} (h : EP c te m (rTup K Rb) S xs) : IWP c (iTup K te) m Rb S xs := iw_tup h.w
theorem iw_enumLP {S : Prop} {xs : List β} (h : EP c te m (rList Rb) S xs) : IWP c (iEnum K (tCons te tNil)) m (rPair K rInt Rb) S (enum xs) := iw_enumL h.w
theorem iw_zipLP {S1 S2 : Prop} {xs : List α} {ys : List β} (h1 : EP c ta m (rList R) S1 xs) (h2 : EP c tb m (rList Rb) S2 ys) : IWP c (iZip K (tCons ta (tCons tb tNil))) m (rPair K R Rb) (S1 ∧ S2) (xs.zip ys) := fun P w T σ H hd Kk k =>
  iw_zipL h1.w (fun _ => h2.w) P ⟨w.1.1, w.1.2, w.2⟩ T σ H hd Kk k
theorem us_of {vs : List Nat} (h : vs.all (isUS c) = true) : ∀ i ∈ vs, isUS c i = true := List.all_eq_true.mp h
theorem js_of {js vs : List Nat} (h : js.all (fun j => vs.contains j) = true) : ∀ j ∈ js, j ∈ vs := fun j hj => by simpa using List.all_eq_true.mp h j hj
theorem eo_lcP {wi : TI} {g : TG} {cg : β → Ctx} {js vs : List Nat} {Si : Prop} {xs : List β} {St Se : β → Prop} {pt : β → Bool} {fe : β → α} (hi : IWP c wi m Rb Si xs) (hg : GP (wipeC c vs) g m Rb cg js)
    (ht : ∀ x, TP' (cg x) tt (St x) (pt x)) (he : ∀ x, EP (cg x) te m1 R (Se x) (fe x)) (hus : ∀ i ∈ vs, isUS c i = true) (hj : ∀ j ∈ js, j ∈ vs) (hcg : ∀ x, wipeC (cg x) vs = wipeC c vs) (hcu : ∀ x, ∀ i ∈ vs, isUS (cg x) i = true) :
    EOP c (tLc wi g tt te vs) (oList m1 R) (Si ∧ xs.length ≤ sizeLine ∧ ∀ x ∈ xs, St x ∧ (pt x = true → Se x)) ((xs.filter pt).map fe) := fun P w T σ H hd Q k =>
  eo_lc hi hg ht he hus hj hcg hcu P ⟨w.1.1, w.1.2.1, w.1.2.2, w.2⟩ T σ H hd Q k
theorem eo_lc1P {wi : TI} {g : TG} {cg : β → Ctx} {js vs : List Nat} {Si : Prop} {xs : List β} {Se : β → Prop} {fe : β → α} (hi : IWP c wi m Rb Si xs) (hg : GP (wipeC c vs) g m Rb cg js)
    (he : ∀ x, EP (cg x) te m1 R (Se x) (fe x)) (hus : ∀ i ∈ vs, isUS c i = true) (hj : ∀ j ∈ js, j ∈ vs) (hcg : ∀ x, wipeC (cg x) vs = wipeC c vs) (hcu : ∀ x, ∀ i ∈ vs, isUS (cg x) i = true) :
    EOP c (tLc wi g tYes te vs) (oList m1 R) (Si ∧ xs.length ≤ sizeLine ∧ ∀ x ∈ xs, Se x) (xs.map fe) := fun P w T σ H hd Q k =>
  eo_lc1 hi hg he hus hj hcg hcu P ⟨w.1.1, w.1.2.1, w.1.2.2, w.2⟩ T σ H hd Q k
/-- a list drawn one by one -/
def mapW1 {α β : Type} (f : α → (β → Prop) → Prop) : List α → (List β → Prop) → Prop
  | [], P => P []
  | x :: xs, P => f x fun y => mapW1 f xs fun ys => P (y :: ys)
theorem mapW_1 {α β : Type} {f : α → (β → Prop) → Prop} : ∀ (xs : List α) (P : List β → Prop), mapW (fun x (Q : Option β → Prop) => True ∧ ((true = true → f x fun y => Q (some y)) ∧ (true = false → Q none))) xs P = mapW1 f xs P
  | [], P => rfl
  | x :: xs, P => by
    have e : (fun y => mapW (fun x (Q : Option β → Prop) => True ∧ ((true = true → f x fun y => Q (some y)) ∧ (true = false → Q none))) xs fun ys => P (y :: ys)) = fun y => mapW1 f xs fun ys => P (y :: ys) := funext fun y => mapW_1 xs _
    show (True ∧ ((true = true → f x fun y => mapW _ xs fun ys => P (y :: ys)) ∧ (true = false → mapW _ xs fun ys => P ys))) = f x fun y => mapW1 f xs fun ys => P (y :: ys)
    rw [e]
    exact propext ⟨fun h => h.2.1 rfl, fun h => ⟨trivial, fun _ => h, fun e => by cases e⟩⟩
theorem eo_lcW1 {wi : TI} {g : TG} {cg : β → Ctx} {js vs : List Nat} {Wi : (List β → Prop) → Prop} {We : β → (α → Prop) → Prop} (hi : IW c wi m Rb Wi) (hg : GP (wipeC c vs) g m Rb cg js)
    (he : ∀ x, EW (cg x) te m1 R (We x)) (hus : ∀ i ∈ vs, isUS c i = true) (hj : ∀ j ∈ js, j ∈ vs) (hcg : ∀ x, wipeC (cg x) vs = wipeC c vs) (hcu : ∀ x, ∀ i ∈ vs, isUS (cg x) i = true) :
    EO c (tLc wi g tYes te vs) (oList m1 R) (fun P => Wi fun xs => xs.length ≤ sizeLine ∧ mapW1 We xs P) := fun {F} P w T σ H hd Q k =>
  eo_lc0 hi hg (fun _ => TP'.w tp_yes) he hus hj hcg hcu P ⟨_, w, fun xs ⟨h1, h2⟩ => ⟨h1, by rw [← mapW_1] at h2; exact h2⟩⟩ T σ H hd Q k
/-- turn by turn, by a word about what is made -/
theorem mapW1_of {α β : Type} {f : α → (β → Prop) → Prop} (I : α → β → Prop) : ∀ {xs : List α} {P : List β → Prop}, (∀ x ∈ xs, ∀ Q : β → Prop, (∀ y, I x y → Q y) → f x Q) → (∀ ys, Paired I xs ys → P ys) → mapW1 f xs P
  | [], P, _, h => h [] .nil
  | x :: xs, P, hf, h => hf x List.mem_cons_self _ fun y hy => mapW1_of I (fun z hz => hf z (List.mem_cons_of_mem _ hz)) fun ys hys => h _ (.cons hy hys)
/-- x = e, by its equation -/
theorem sw_asgP {i : Nat} {S : Prop} {a : α} {Wr : α → Prop} (he : EP c te m R S a) (k : ∀ v, SW F (c.set i (.sh m (R.at v))) T tr D (Wr v)) (hi : isFree c i = true := by rfl) : SW F c T (tSeq (tAsg te (gName i)) tr) D (S ∧ ∀ v, v = a → Wr v) :=
  sw_imp (sw_asg he.w k hi) fun h => ⟨h.1, h.2 a rfl⟩
theorem sw_asgOP {p : α → OP} {i : Nat} {S : Prop} {a : α} {Wr : α → Prop} (he : EOP c te p S a) (k : ∀ v, SW F (c.set i (.ow (p v))) T tr D (Wr v)) (hi : isFree c i = true := by rfl) : SW F c T (tSeq (tAsg te (gName i)) tr) D (S ∧ ∀ v, v = a → Wr v) :=
  sw_imp (sw_asgO he k hi) fun h => ⟨h.1, h.2 a rfl⟩
theorem sw_asgOOP {p : α → OP} {i : Nat} {S : Prop} {a : α} {Wr : α → Prop} (he : EOP c te p S a) (k : ∀ v, SW F (c.set i (.ow (p v))) T tr D (Wr v)) (hi : i < c.length := by exact Nat.le_of_ble_eq_true rfl) : SW F c T (tSeq (tAsg te (gName i)) tr) D (S ∧ ∀ v, v = a → Wr v) :=
  sw_imp (sw_asgOO he k hi) fun h => ⟨h.1, h.2 a rfl⟩
/-- return x, x an owned list -/
theorem sw_retO {p : α → OP} [hp0 : OwR p .n R] {i : Nat} {x : α} {Post : α → Prop} (hR : RtOk F R Post D.rt) (h : c[i]? = some (.ow (p x))) : SW F c T (tSeq (tRet (tVar i)) tr) D (Post x) := fun nb w σ H ⟨A, B, hd⟩ => by
  have q := hd.sl i
  unfold slOk at q
  rw [h] at q
  obtain ⟨v, hv, hp⟩ := q
  refine ⟨v, hv, hR x v H w ⟨hd.fr, ?_, hp0.sh hp (fun a lin o e => hid_some.mpr ⟨fun z => ?_, e⟩) (by rw [hp0.md]; exact hid_ext (fun x o _ q => q.elim (fun z => .inl (.inl (.inl (hd.io x z)))) .inr) fun _ _ _ q => q)⟩⟩
  · rcases hd.iq with e | e
    · exact .inl e
    · rw [e]; exact hd.st
  · have nI : a ∉ F.I := fun z => hd.db _ a lin (.inl (hd.io a z))
    have h0 : F.H0 a = none := hd.ni a (.inr ⟨_, lin⟩) nI
    rcases z with z | ⟨o, z, _⟩
    · exact nI z
    · rw [h0] at z; cases z
/-- list(xs) -/
theorem HdA.imAll [Im R] {vs : List V} {xs : List α} {m m' : Md} (h : HdA F c T σ H A B) (q : Paired (R.r (view F A B m H)) vs xs) : Paired (R.r (view F A B m' H)) vs xs := Paired.mono (fun _ _ z => R.mono h.im (Im.im z)) q
abbrev rListOf (K : PySem.W.Frag) : List V → Hp → VK → Prop := fun xs H Q => ∃ p ys, xs = [.ref p] ∧ (SqL K H p ys ∨ SqT K H p ys) ∧ ∀ l, H l = none → Q (.ref l) (upd H l (.lst ys))
theorem eo_listL {W : (List α → Prop) → Prop} (h : EW c te m (rList R) W) : EO c (tCB (rListOf K) (tCons te tNil)) (oList m R) W := fun P w T σ H hd Q k => h P w T σ H hd _ fun xs v H' px ⟨A, B, q⟩ => by
  obtain ⟨l, vs, e, h1, h2⟩ := (show (rList R).r (view _ A B m H') v xs from q.hd)
  exact ⟨l, vs, by rw [e], .inl (SqL.of (view_full _ _ h1)), fun l2 hl => k xs _ _ px (q.tl.allocO hl h2)⟩
theorem eo_listLi [Im R] {W : (List α → Prop) → Prop} (h : EW c te m (rList R) W) : EO c (tCB (rListOf K) (tCons te tNil)) (oList .n R) W := fun P w T σ H hd Q k => h P w T σ H hd _ fun xs v H' px ⟨A, B, q⟩ => by
  obtain ⟨l, vs, e, h1, h2⟩ := (show (rList R).r (view _ A B m H') v xs from q.hd)
  exact ⟨l, vs, by rw [e], .inl (SqL.of (view_full _ _ h1)), fun l2 hl => k xs _ _ px (q.tl.allocO hl (q.imAll h2))⟩
theorem eo_listT {W : (List α → Prop) → Prop} (h : EW c te m (rTup K R) W) : EO c (tCB (rListOf K) (tCons te tNil)) (oList m R) W := fun P w T σ H hd Q k => h P w T σ H hd _ fun xs v H' px ⟨A, B, q⟩ => by
  obtain ⟨l, vs, e, h1, h2⟩ := (show (rTup K R).r (view _ A B m H') v xs from q.hd)
  exact ⟨l, vs, by rw [e], .inr (SqT.ext view_full h1), fun l2 hl => k xs _ _ px (q.tl.allocO hl h2)⟩
theorem eo_listTi [Im R] {W : (List α → Prop) → Prop} (h : EW c te m (rTup K R) W) : EO c (tCB (rListOf K) (tCons te tNil)) (oList .n R) W := fun P w T σ H hd Q k => h P w T σ H hd _ fun xs v H' px ⟨A, B, q⟩ => by
  obtain ⟨l, vs, e, h1, h2⟩ := (show (rTup K R).r (view _ A B m H') v xs from q.hd)
  exact ⟨l, vs, by rw [e], .inr (SqT.ext view_full h1), fun l2 hl => k xs _ _ px (q.tl.allocO hl (q.imAll h2))⟩
theorem eo_listLP {S : Prop} {xs : List α} (h : EP c te m (rList R) S xs) : EOP c (tCB (rListOf K) (tCons te tNil)) (oList m R) S xs := eo_listL h.w
theorem eo_listLiP [Im R] {S : Prop} {xs : List α} (h : EP c te m (rList R) S xs) : EOP c (tCB (rListOf K) (tCons te tNil)) (oList .n R) S xs := eo_listLi h.w
theorem eo_listTP {S : Prop} {xs : List α} (h : EP c te m (rTup K R) S xs) : EOP c (tCB (rListOf K) (tCons te tNil)) (oList m R) S xs := eo_listT h.w
theorem eo_listTiP [Im R] {S : Prop} {xs : List α} (h : EP c te m (rTup K R) S xs) : EOP c (tCB (rListOf K) (tCons te tNil)) (oList .n R) S xs := eo_listTi h.w
/-- isinstance of a number, a truth value -/
def rTy : Rp String := ⟨fun _ v n => v = .ty n, fun _ h => h⟩
theorem ep_ty {n : String} : EP c (tC (.ty n)) .n rTy True n := fun _ T σ H ⟨A, B, hd⟩ Q k => k _ H (HD.push hd (p := rTy.at n) rfl)
theorem ob_isiBB {a : Bool} : OB c (rIsi K) [(m1, rBool.at a), (m2, rTy.at "bool")] .n rBool True true := fun _ T σ H vs e hd Q k => by
  obtain ⟨v, w, rfl, A, B, h⟩ := zip2 e hd
  exact ⟨v, w, .type "bool", .type "bool", true, rfl, by rw [show w = _ from h.hd2]; exact .ty _, by rw [show v = _ from h.hd]; exact .base (.bl _), kit_ty (by decide +kernel), k _ H (HD.push h.tl.tl (p := rBool.at true) rfl)⟩
theorem ob_isiIB {a : Int} : OB c (rIsi K) [(m1, rInt.at a), (m2, rTy.at "bool")] .n rBool True false := fun _ T σ H vs e hd Q k => by
  obtain ⟨v, w, rfl, A, B, h⟩ := zip2 e hd
  exact ⟨v, w, .type "int", .type "bool", false, rfl, by rw [show w = _ from h.hd2]; exact .ty _, by rw [show v = _ from h.hd]; exact .base (.int _), kit_ty (by decide +kernel), k _ H (HD.push h.tl.tl (p := rBool.at false) rfl)⟩
theorem ob_isiII {a : Int} : OB c (rIsi K) [(m1, rInt.at a), (m2, rTy.at "int")] .n rBool True true := fun _ T σ H vs e hd Q k => by
  obtain ⟨v, w, rfl, A, B, h⟩ := zip2 e hd
  exact ⟨v, w, .type "int", .type "int", true, rfl, by rw [show w = _ from h.hd2]; exact .ty _, by rw [show v = _ from h.hd]; exact .base (.int _), kit_ty (by decide +kernel), k _ H (HD.push h.tl.tl (p := rBool.at true) rfl)⟩
end
end TW

set_option maxRecDepth 100000
set_option maxHeartbeats 2000000
/-! the head: facts by names, and names that stand for built-ins -/
namespace TW
open PySem PySem.Spec PyProof.Rows L2
def extOk (ex : List (Str × String)) (K : PySem.W.Frag) : Bool := ex.all fun p => He.eqO (PySem.W.nsIn K mainGlobals p.1) (some (some (.builtin p.2)))
abbrev AlX : Type := Bool × He.AlD
def obsX (ex : List (Str × String)) (fa : List He.Fa) (fn : List He.DefD) (K : PySem.W.Frag) : AlX := (extOk ex K, He.obsD fa fn K)
def SaysX (ex : List (Str × String)) (fa : List He.Fa) (fn : List He.DefD) (K : PySem.W.Frag) : Prop := obsX ex fa fn K = (true, He.valD fn)
def obsXG (n : Nat) (ex : List (Str × String)) (fa : List He.Fa) (fn : List He.DefD) (g : Addr → Option Obj) : AlX := obsX ex fa fn (He.frG g (He.asD g n))
def hookX (n : Nat) (ex : List (Str × String)) (fa : List He.Fa) (fn : List He.DefD) : PySem.W.Hook where
  α := AlX
  obs := fun s => obsXG n ex fa fn s.heap.get?
  val := fun _ => (true, He.valD fn)
  says := fun _ h => ∃ K : PySem.W.Frag, K.In h ∧ SaysX ex fa fn K
  of := fun _ _ e => ⟨_, He.frG_in, e⟩
  keeps := fun _ _ _ ⟨K, hK, c⟩ k => ⟨K, PySem.W.Frag.In.keeps hK k, c⟩
theorem obsXG_eq {n : Nat} {ex : List (Str × String)} {fa : List He.Fa} {fn : List He.DefD} {g : Addr → Option Obj} {s : Shared} (h : ∀ a, g a = s.heap.get? a) : obsXG n ex fa fn g = (hookX n ex fa fn).obs s := by
  have e : g = s.heap.get? := funext h
  rw [e]; rfl
section
variable {ex : List (Str × String)} {fa : List He.Fa} {fn : List He.DefD} {K : PySem.W.Frag} {h : Heap} {mg : Str → Option Value}
theorem SaysX.d (c : SaysX ex fa fn K) : He.SaysD fa fn K := congrArg (fun z : AlX => z.2) c
theorem SaysX.ext (c : SaysX ex fa fn K) (X : K.In h) (G : h.Ns mainGlobals mg) (i : Nat) {p : Str × String} (e : ex[i]? = some p := by rfl) : mg p.1 = some (.builtin p.2) := by
  have c1 : extOk ex K = true := congrArg (fun z : AlX => z.1) c
  exact PySem.W.mg_of X G (He.eqO_ok (List.all_eq_true.mp c1 p (List.mem_of_getElem? e)))
/-- a def, by its place in the list -/
theorem SaysX.dfn (c : SaysX ex fa fn K) (i : Nat) {x : Str} {st : Stmt} (e : fn[i]? = some ⟨(x, none), x, x, defArgs st, defBody st, defScope st, [], []⟩) : ∃ fd, FnP K x st (He.ga K x) fd := c.d.def_ i e
theorem SaysX.glo (c : SaysX ex fa fn K) (X : K.In h) (G : h.Ns mainGlobals mg) (i : Nat) {x : Str} (e : fa[i]? = some (.glo x) := by rfl) : mg x = some (.ref (He.ga K x)) := He.glo_ok X G (c.d.fact i e)
theorem SaysX.free (c : SaysX ex fa fn K) (X : K.In h) (G : h.Ns mainGlobals mg) (i : Nat) {x : Str} (e : fa[i]? = some (.free x) := by rfl) : mg x = none := He.free_ok X G (c.d.fact i e)
end
end TW

set_option maxRecDepth 100000
set_option maxHeartbeats 2000000
namespace TW
open PySem PySem.Spec PyProof.Rows L2
/-! ## 16. owned things change -/
def ctxNB (c : Ctx) : Bool := c.all fun | .sh m _ => m != .b | .ow p => p.md != .b | _ => true
section
variable {F : Fm} {c : Ctx} {T : List Tm} {σ : Sg} {H : Hp} {A : Nat → List Addr} {B : List Addr} {D : Ends} {α β γ ι τ : Type} {R : Rp α} {Rb : Rp β} {Rc : Rp γ} {m m1 m2 m3 : Md} {te ta tb tc to ti : TE} {tt tu : TT} {tr : TS} {K : PySem.W.Frag}
theorem ctxNB_sh {i : Nat} {p : SP} (h : ctxNB c = true) (e : c[i]? = some (.sh m p)) : m ≠ .b := by
  have := List.all_eq_true.mp h _ (List.mem_of_getElem? e)
  intro z
  subst z
  cases this
theorem ctxNB_ow {i : Nat} {p : OP} (h : ctxNB c = true) (e : c[i]? = some (.ow p)) : p.md ≠ .b := by
  have : (p.md != .b) = true := List.all_eq_true.mp h _ (List.mem_of_getElem? e)
  intro z
  rw [z] at this
  cases this
theorem HdA.mutate {i : Nat} {p p' : OP} {A' : List Addr} {H' : Hp} (h : HdA F c T σ H A B) (nT : NoB T) (nc : ctxNB c = true) (hi : c[i]? = some (.ow p)) (hA : ∀ a ∈ A', a ∈ A i) (hH : ∀ a, a ∉ A' → H' a = H a)
    (new : (∀ m, m ≠ .b → Ext (view F A B m H) (view F A B m H')) → ∀ w, σ[i]? = some (some w) → p'.P (A i) H' (view F A B p'.md H') w) : HdA F (c.set i (.ow p')) T σ H' A B := by
  have hv : ∀ m, m ≠ .b → Ext (view F A B m H) (view F A B m H') := fun m hm a o q => by
    obtain ⟨q1, q2⟩ := view_some.mp q
    refine view_some.mpr ⟨q1, ?_⟩
    rw [hH a fun z => q1 ?_]
    · exact q2
    · cases m
      · exact .inl (.inr ⟨i, hA a z⟩)
      · exact .inr ⟨i, hA a z⟩
      · exact absurd rfl hm
  have off : ∀ a, (∀ j, j ≠ i → a ∈ A j → H' a = H a) := fun a j ne ha => hH a fun z => ne (h.dj _ _ a ha (hA a z))
  have hlt : i < c.length := (List.getElem?_eq_some_iff.mp hi).1
  refine ⟨by simp [h.len], fun j => ?_, fun t ht => SP.mono _ (hv _ (nT t ht)) (h.tm t ht), h.dj, h.db, h.iq, fun a o q r => ?_, h.ni, ?_, h.gb, fun p hp => ?_⟩
  · by_cases e : j = i
    · subst e
      unfold slOk
      rw [List.getElem?_set_self hlt]
      have q := h.sl j
      unfold slOk at q
      rw [hi] at q
      obtain ⟨v, hv1, _⟩ := q
      exact ⟨v, hv1, new hv v hv1⟩
    · have q := h.sl j
      unfold slOk at q ⊢
      rw [List.getElem?_set_ne (fun z => e z.symm)]
      cases e2 : c[j]? with
      | none => rw [e2] at q; exact q
      | some s =>
        rw [e2] at q
        cases s with
        | un => exact q
        | sh m p => obtain ⟨a, v, hv1, hp1⟩ := q; exact ⟨a, v, hv1, SP.mono _ (hv _ (ctxNB_sh nc e2)) hp1⟩
        | ow p => obtain ⟨v, hv1, hp1⟩ := q; exact ⟨v, hv1, OP.frame p (fun a ha => off a j e ha) (hv _ (ctxNB_ow nc e2)) hp1⟩
        | io => exact q
  · by_cases ha : a ∈ A'
    · have := h.ni a (.inr ⟨i, hA a ha⟩) r
      rw [q] at this; cases this
    · rw [hH a ha]; exact h.fr a o q r
  · rcases h.st with q | q
    · exact .inl q
    · exact .inr (q.frame fun a ha => hH a fun z => h.db i a (hA a z) (.inl ha))
  · refine ⟨?_, (h.gh p hp).2⟩
    rw [hH p.1 fun z => h.db i _ (hA _ z) (.inr ⟨p.2, hp⟩)]
    exact (h.gh p hp).1
theorem paired_mem {α β : Type} {G G' : α → β → Prop} : ∀ {xs : List α} {ys : List β}, Paired G xs ys → (∀ x ∈ xs, ∀ y, G x y → G' x y) → Paired G' xs ys
  | _, _, .nil, _ => .nil
  | _, _, .cons h t, e => .cons (e _ List.mem_cons_self _ h) (paired_mem t fun x hx => e x (List.mem_cons_of_mem _ hx))
theorem paired_l {α β : Type} {G : α → β → Prop} : ∀ {xs : List α} {ys : List β}, Paired G xs ys → ∀ x ∈ xs, ∃ y ∈ ys, G x y
  | _, _, .nil, _, h => by simp at h
  | _, _, .cons h t, x, hx => by
    rcases List.mem_cons.mp hx with rfl | hx
    · exact ⟨_, List.mem_cons_self, h⟩
    · obtain ⟨y, hy, g⟩ := paired_l t x hx
      exact ⟨y, List.mem_cons_of_mem _ hy, g⟩
theorem mem_fl {zs : List (List Addr × V)} {a : Addr} : a ∈ (zs.map (·.1)).flatten ↔ ∃ z ∈ zs, a ∈ z.1 := by
  rw [List.mem_flatten]
  exact ⟨fun ⟨L, hL, ha⟩ => by
    obtain ⟨z, hz, rfl⟩ := List.mem_map.mp hL
    exact ⟨z, hz, ha⟩, fun ⟨z, hz, ha⟩ => ⟨z.1, List.mem_map_of_mem hz, ha⟩⟩
/-- lists of owned things -/
def oLO (md : Md) {α : Type} (p : α → OP) (xs : List α) : OP where
  md := md
  P := fun A H V0 v => ∃ l, ∃ zs : List (List Addr × V), v = .ref l ∧ H l = some (.lst (zs.map (·.2))) ∧ A = l :: (zs.map (·.1)).flatten ∧ Paired (fun z x => (p x).P z.1 H V0 z.2) zs xs ∧
    (∀ z ∈ zs, l ∉ z.1) ∧ zs.Pairwise (fun (y z : List Addr × V) => ∀ a : Addr, a ∈ y.1 → a ∉ z.1)
  frameT := fun {A H H' V0 V' v} e1 e2 ⟨l, zs, h1, h2, h3, h4, h5, h6⟩ => ⟨l, zs, h1, by rw [e1 l (by rw [h3]; simp)]; exact h2, h3, by
    refine paired_mem h4 fun z hz x h => ?_
    exact (p x).frameT (fun a ha => e1 a (by rw [h3]; exact List.mem_cons_of_mem _ (mem_fl.mpr ⟨z, hz, ha⟩))) e2 h, h5, h6⟩
  obj := fun {A H S v} ⟨l, zs, h1, h2, h3, h4, h5, h6⟩ a ha => by
    rw [h3] at ha
    rcases List.mem_cons.mp ha with rfl | ha
    · exact ⟨_, h2, trivial⟩
    · obtain ⟨z, hz, ha⟩ := mem_fl.mp ha
      obtain ⟨x, _, g⟩ := paired_l h4 z hz
      exact OP.obj _ g a ha
theorem paired_atL {α β : Type} {G : α → β → Prop} {xs : List α} {ys : List β} (h : Paired G xs ys) {i : Nat} {x : α} (e : xs[i]? = some x) : ∃ y, ys[i]? = some y ∧ G x y := by
  induction h generalizing i with
  | nil => simp at e
  | cons a _ ih => cases i with
    | zero => simp at e; subst e; exact ⟨_, rfl, a⟩
    | succ i => simpa using ih (by simpa using e)
theorem paired_map1 {α β γ : Type} {G : β → γ → Prop} {f : α → β} : ∀ {xs : List α} {ys : List γ}, Paired (fun x y => G (f x) y) xs ys → Paired G (xs.map f) ys
  | _, _, .nil => .nil
  | _, _, .cons h t => .cons h (paired_map1 t)
instance {p : α → OP} {m : Md} {R : Rp α} [hp : OwR p m R] : OwR (oLO m p) m (rList R) := ⟨fun _ => rfl, fun {A H V0 v x V} ⟨l, zs, h1, h2, h3, h4, h5, h6⟩ e1 e2 => by
  refine ⟨l, _, h1, e1 l (by rw [h3]; simp) _ h2, ?_⟩
  exact paired_map1 (paired_mem h4 fun z hz x h => hp.sh h (fun a ha => e1 a (by rw [h3]; exact List.mem_cons_of_mem _ (mem_fl.mpr ⟨z, hz, ha⟩))) e2)⟩
/-! ### a place of an owned thing -/
def posI (n : Nat) (i : Int) : Nat := if 0 ≤ i then i.toNat else (i + n).toNat
def setI {α : Type} (xs : List α) (i : Int) (y : α) : List α := xs.set (posI xs.length i) y
def erI {α : Type} (xs : List α) (i : Int) : List α := xs.eraseIdx (posI xs.length i)
theorem posI_at {n : Nat} {i : Int} (h : InB n i) : posI n i < n ∧ ixN n i = some (posI n i) := by
  unfold posI ixN
  by_cases h0 : 0 ≤ i
  · exact ⟨by rw [if_pos h0]; omega, by rw [if_pos h0, if_pos h.2, if_pos h0]⟩
  · exact ⟨by rw [if_neg h0]; omega, by rw [if_neg h0, if_pos h.1, if_neg h0]⟩
theorem gI_posI [Inhabited α] {xs : List α} {i : Int} (h : InB xs.length i) : xs[posI xs.length i]? = some (gI xs i) := by
  obtain ⟨j, h1, h2, h3⟩ := gI_at h
  rw [(posI_at h).2] at h2
  cases h2
  exact h3
/-- the list seen, and what it becomes; md is the mode of its items -/
structure LV (c : Ctx) (to : TE) (i : Nat) (S : Prop) (md : Md) {β : Type} (q : β → OP) (y : β) (up : β → OP) : Prop where
  hi : S → c[i]? = some (.ow (up y))
  mu : ∀ x, (up x).md = md
  mq : ∀ x, (q x).md = md
  ev : ∀ {F : Fm} T σ H, S → HD F c T σ H → ∀ Q : VK, (∀ v X H', HD F c (X ++ T) σ H' → (∀ A B T2 H2, (∀ t ∈ X, t ∈ T2) → HdA F c T2 σ H2 A B → ∃ A', (∀ a ∈ A', a ∈ A i) ∧ (q y).P A' H2 (view F A B md H2) v ∧
    ∀ (V' : Hp) H3 y', (∀ a, a ∉ A' → H3 a = H2 a) → Ext (view F A B md H2) V' → (q y').P A' H3 V' v → ∀ w, σ[i]? = some (some w) → (up y').P (A i) H3 V' w) → Q v H') → to σ H Q
theorem lv_name {i : Nat} {q : β → OP} {y : β} (hi : c[i]? = some (.ow (q y)) := by rfl) (mq : ∀ x, (q x).md = m := by intro _; rfl) : LV c (tVar i) i True m q y q := ⟨fun _ => hi, mq, mq, fun T σ H _ ⟨A, B, hd⟩ Q k => by
  have z := hd.sl i
  unfold slOk at z
  rw [hi] at z
  obtain ⟨v, hv, _⟩ := z
  refine ⟨v, hv, k v [] H ⟨A, B, hd⟩ fun A B T2 H2 _ h2 => ⟨A i, fun _ z => z, ?_, fun V' H3 y' _ _ hp w hw => ?_⟩⟩
  · have z := h2.sl i
    unfold slOk at z
    rw [hi] at z
    obtain ⟨v', hv', hp⟩ := z
    rw [hv] at hv'
    cases hv'
    rw [mq] at hp
    exact hp
  · rw [hv] at hw
    cases hw
    exact hp⟩
def pCell (L : Addr) (j : Nat) : SP := ⟨fun H v => ∃ ws, H L = some (.lst ws) ∧ ws[j]? = some v, fun e ⟨ws, h1, h2⟩ => ⟨ws, e.ap _ _ h1, h2⟩⟩
theorem paired_upd {G G' : β → γ → Prop} : ∀ {zs : List β} {xs : List γ} {j : Nat} {z : β} {x : γ}, Paired G zs xs → zs[j]? = some z → (∀ (k : Nat) w u, k ≠ j → zs[k]? = some w → G w u → G' w u) → G' z x → Paired G' zs (xs.set j x)
  | _, _, _, _, _, .nil, h, _, _ => by simp at h
  | z :: zs, x :: xs, 0, _, _, .cons h t, e, k, g => by
    simp at e
    subst e
    refine .cons g ?_
    have k' : ∀ (i : Nat) w u, zs[i]? = some w → G w u → G' w u := fun i w u e q => k (i + 1) w u (by omega) (by simpa using e) q
    clear g h k
    induction t with
    | nil => exact .nil
    | cons h t ih => exact .cons (k' 0 _ _ rfl h) (ih fun i w u e q => k' (i + 1) w u (by simpa using e) q)
  | z :: zs, x :: xs, j + 1, _, _, .cons h t, e, k, g => .cons (k 0 _ _ (by omega) rfl h) (paired_upd t (by simpa using e) (fun i w u ne e q => k (i + 1) w u (by omega) (by simpa using e) q) g)
theorem lv_sub [Inhabited β] {i : Nat} {S Sk : Prop} {q : β → OP} {ys : List β} {up : List β → OP} {k : Int} (h : LV c to i S m (oLO m q) ys up) (hk : EP c te m1 rInt Sk k) (mq : ∀ x, (q x).md = m := by intro _; rfl) :
    LV c (tOp (rIxL K) to te) i (S ∧ Sk ∧ InB ys.length k) m q (gI ys k) (fun y' => up (setI ys k y')) := ⟨fun s => by
  rw [h.hi s.1]
  have e : setI ys k (gI ys k) = ys := by
    unfold setI
    have := gI_posI s.2.2
    obtain ⟨h1, h2⟩ := List.getElem?_eq_some_iff.mp this
    rw [← h2]
    exact List.set_getElem_self h1
  rw [e], fun x => h.mu _, mq, fun {F} T σ H s hd Q kk => by
  refine h.ev T σ H s.1 hd _ fun v X H1 h1 inv => hk s.2.1 _ σ H1 h1 _ fun x H2 h2 => ?_
  obtain ⟨A, B, h2⟩ := h2
  obtain ⟨A', hA', hp, _⟩ := inv A B _ H2 (fun t ht => by simp [ht]) h2
  obtain ⟨l, zs, e1, e2, e3, e4, e5, e6⟩ := hp
  obtain ⟨p1, p2⟩ := posI_at s.2.2
  have hl : zs.length = ys.length := e4.length
  have hz : zs[posI ys.length k]? = some zs[posI ys.length k] := List.getElem?_eq_getElem (by omega)
  generalize zs[posI ys.length k] = z at hz
  have lB : ¬ hB F B l := h2.db i l (hA' l (by rw [e3]; simp))
  have cell : ∃ ws, view F A B .b H2 l = some (.lst ws) ∧ ws[posI ys.length k]? = some z.2 := ⟨_, view_some.mpr ⟨lB, e2⟩, by rw [List.getElem?_map, hz]; rfl⟩
  have hat : atI (zs.map (·.2)) k = some z.2 := by
    unfold atI
    rw [List.length_map, hl, p2]
    show (zs.map (·.2))[posI ys.length k]? = _
    rw [List.getElem?_map, hz]; rfl
  refine ⟨l, zs.map (·.2), k, z.2, e1, h2.hd, SqL.of e2, hat, kk z.2 (⟨z.2, .b, pCell l (posI ys.length k)⟩ :: X) H2 (HD.push (h2.sub (T' := X ++ T) fun t ht => List.mem_cons_of_mem _ ht) cell) ?_⟩
  intro A B T2 H3 hT h3
  obtain ⟨A', hA', hp, upd⟩ := inv A B _ H3 (fun t ht => hT t (List.mem_cons_of_mem _ ht)) h3
  obtain ⟨l', zs', f1, f2, f3, f4, f5, f6⟩ := hp
  rw [e1] at f1
  cases f1
  obtain ⟨ws, c1, c2⟩ := h3.tm _ (hT _ List.mem_cons_self)
  have c1' := view_full _ _ c1
  rw [f2] at c1'
  cases c1'
  have hl' : zs'.length = ys.length := f4.length
  have hz' : zs'[posI ys.length k]? = some zs'[posI ys.length k] := List.getElem?_eq_getElem (by omega)
  generalize zs'[posI ys.length k] = z' at hz'
  have ez : z'.2 = z.2 := by
    have c2' : (zs'.map (·.2))[posI ys.length k]? = some z.2 := c2
    rw [List.getElem?_map, hz'] at c2'
    exact Option.some.inj c2'
  have mem : z' ∈ zs' := List.mem_of_getElem? hz'
  have sub : ∀ a ∈ z'.1, a ∈ A' := fun a ha => by
    rw [f3]
    exact List.mem_cons_of_mem _ (mem_fl.mpr ⟨z', mem, ha⟩)
  refine ⟨z'.1, fun a ha => hA' a (sub a ha), ?_, fun S' H4 y' hH hS hq w hw => ?_⟩
  · obtain ⟨x2, g1, g2⟩ := paired_atL f4 hz'
    have := gI_posI s.2.2
    rw [g1] at this
    cases this
    rw [← ez]; exact g2
  · refine upd S' H4 _ (fun a ha => hH a fun z => ha (sub a z)) hS ?_ w hw
    refine ⟨l, zs', e1, ?_, f3, ?_, f5, f6⟩
    · rw [hH l (f5 z' mem)]; exact f2
    · refine paired_upd f4 hz' (fun j w u ne e g => ?_) (by rw [ez]; exact hq)
      refine OP.frame _ (fun a ha => hH a fun z => ?_) hS g
      have pw := List.pairwise_iff_getElem.mp f6
      obtain ⟨j1, j2⟩ := List.getElem?_eq_some_iff.mp e
      obtain ⟨i1, i2⟩ := List.getElem?_eq_some_iff.mp hz'
      rcases Nat.lt_or_gt_of_ne ne with lt | gt
      · exact pw j _ j1 i1 lt a (by rw [j2]; exact ha) (by rw [i2]; exact z)
      · exact pw _ j i1 j1 gt a (by rw [i2]; exact z) (by rw [j2]; exact ha)⟩
end
end TW

set_option maxRecDepth 100000
set_option maxHeartbeats 2000000
namespace TW
open PySem PySem.Spec PyProof.Rows L2
/-- in, of a tuple of data of any depth -/
def rInTD (K : PySem.W.Frag) (neg : Bool) : R2 := fun x y H Q => ∃ d ds, Dp K H x d ∧ Dp K H y (.tuple ds) ∧ SeqAt.shaped d = true ∧ SeqAt.shaped (.tuple ds) = true ∧ Q (.bl (if neg then !ds.any fun z => PyData.eqv z d else ds.any fun z => PyData.eqv z d)) H
theorem op_inTD {X : Cx} (hu : X.A.units + 65 < cLine) : OpR X (compareOp .In) (rInTD X.K false) := by
  intro pins s σ H x y v u Q I rx ry h
  obtain ⟨d, ds, hd, he, sd, se, q⟩ := h
  obtain ⟨as, r1⟩ := Dp.reads I d x v hd rx
  obtain ⟨bs, r2⟩ := Dp.reads I (.tuple ds) y u he ry
  exact SeqAt.in_tuple_reads r2 r1 (SeqAt.canLay_of_shaped se) (SeqAt.canLay_of_shaped sd) (room_in_shaped sd hu) ⟨.bl _, H, I, rfl, q⟩
theorem op_notInTD {X : Cx} (hu : X.A.units + 65 < cLine) : OpR X (compareOp .NotIn) (rInTD X.K true) := by
  intro pins s σ H x y v u Q I rx ry h
  obtain ⟨d, ds, hd, he, sd, se, q⟩ := h
  obtain ⟨as, r1⟩ := Dp.reads I d x v hd rx
  obtain ⟨bs, r2⟩ := Dp.reads I (.tuple ds) y u he ry
  exact SeqAt.notIn_tuple_reads r2 r1 (SeqAt.canLay_of_shaped se) (SeqAt.canLay_of_shaped sd) (room_in_shaped sd hu) ⟨.bl _, H, I, rfl, q⟩
theorem pget_list {X : Cx} : PGet X (rIxL X.K) := by
  intro pins s σ H x y v u Q I rx ry h
  obtain ⟨p, xs, i, z, rfl, rfl, hq, he, q⟩ := h
  cases rx
  obtain ⟨t, rfl⟩ := ry
  obtain ⟨its, r, pl, hz⟩ := I.list hq
  obtain ⟨j, h1, h2, h3, h4, h5⟩ := atI_get he
  obtain ⟨w, ew, rw'⟩ := r.get h2
  have hl := r.length
  have hn := line63
  have fin : L2.EP X pins σ Q w s := ⟨z, H, I, rw', q⟩
  by_cases h0 : 0 ≤ i
  · have hj : i.toNat = j := by
      rw [seqIndex_of h0 h5] at h1
      exact Option.some.inj h1
    exact wpAny_getItem_list pl.isList h0 (by omega) (by rw [hj]; simpa using ew) fin
  · have hj : (i + (its.toArray.size : Int)).toNat = j := by
      rw [seqIndex_neg (by omega) h4] at h1
      rw [List.size_toArray, ← hl]
      exact Option.some.inj h1
    exact wpAny_getItem_list_neg (Q := L2.EP X pins σ Q) pl.isList (by omega) (by rw [List.size_toArray] <;> omega) (by omega) (by rw [hj]; simpa using ew) fin
theorem takesNo {X : Cx} : Takes X (fun _ _ _ _ => False) := fun u s' ⟨_, _, _, _, _, _, _, _, _, _, _, _, _, _, _, _, w⟩ => w.elim
theorem Paired.setAt {α β : Type} {G : α → β → Prop} : ∀ {xs : List α} {ys : List β} {j : Nat} {x : α} {y : β}, Paired G xs ys → G x y → Paired G (xs.set j x) (ys.set j y)
  | _, _, _, _, _, .nil, _ => .nil
  | _, _, 0, _, _, .cons h t, g => .cons g t
  | _, _, _ + 1, _, _, .cons h t, g => .cons h (Paired.setAt t g)
theorem ints_of {H : Hp} : ∀ {vs : List V} {xs : List Int}, Paired (rInt.r H) vs xs → vs = xs.map V.int
  | _, _, .nil => rfl
  | _, _, .cons h t => by rw [List.map_cons, ← ints_of t, show _ = _ from h]
theorem of_ints {H : Hp} : ∀ xs : List Int, Paired (rInt.r H) (xs.map V.int) xs
  | [] => .nil
  | x :: xs => .cons rfl (of_ints xs)
section
variable {F : Fm} {c : Ctx} {T : List Tm} {σ : Sg} {H : Hp} {A : Nat → List Addr} {B : List Addr} {D : Ends} {α β γ ι τ : Type} {R : Rp α} {Rb : Rp β} {Rc : Rp γ} {m m1 m2 m3 : Md} {te ta tb tc to ti : TE} {tt tu : TT} {tr : TS} {K : PySem.W.Frag}
/-- a list at its place -/
theorem LV.at {i : Nat} {S : Prop} {xs : List α} {up : List α → OP} (lv : LV c to i S m (oList m R) xs up) (s : S) (nT : NoB T) (nc : ctxNB c = true) (hm : m ≠ .b) {v : V} {X : List Tm} {A : Nat → List Addr} {B : List Addr} {T2 : List Tm} {H2 : Hp}
    (inv : ∀ A B T2 H2, (∀ t ∈ X, t ∈ T2) → HdA F c T2 σ H2 A B → ∃ A', (∀ a ∈ A', a ∈ A i) ∧ (oList m R xs).P A' H2 (view F A B m H2) v ∧
      ∀ (V' : Hp) H3 y', (∀ a, a ∉ A' → H3 a = H2 a) → Ext (view F A B m H2) V' → (oList m R y').P A' H3 V' v → ∀ w, σ[i]? = some (some w) → (up y').P (A i) H3 V' w)
    (hX : ∀ t ∈ X, t ∈ T2) (h : HdA F c T2 σ H2 A B) (hT : ∀ t ∈ T, t ∈ T2) : ∃ l vs, v = .ref l ∧ H2 l = some (.lst vs) ∧ Paired (R.r (view F A B m H2)) vs xs ∧
      ∀ vs' xs' (X' : List Tm), (∀ t ∈ X', t ∈ T2) → NoB X' → Paired (R.r (view F A B m H2)) vs' xs' → HdA F (c.set i (.ow (up xs'))) (X' ++ T) σ (upd H2 l (.lst vs')) A B := by
  obtain ⟨A', hA', ⟨l, vs, ea, ev, hH, hp⟩, upd'⟩ := inv A B T2 H2 hX h
  refine ⟨l, vs, ev, hH, hp, fun vs' xs' X' hX' nX hp' => ?_⟩
  refine HdA.mutate (h.sub (T' := X' ++ T) fun t ht => (List.mem_append.mp ht).elim (hX' t) (hT t)) (fun t ht => (List.mem_append.mp ht).elim (nX t) (nT t)) nc (lv.hi s) hA' (fun a ha => upd_ne fun z => ha (by rw [ea, z]; simp)) fun hv w hw => ?_
  rw [lv.mu]
  exact upd' _ _ xs' (fun a ha => upd_ne fun z => ha (by rw [ea, z]; simp)) (hv m hm) ⟨l, vs', ea, ev, upd_same, Paired.mono (fun _ _ q => R.mono (hv m hm) q) hp'⟩ w hw
/-- place.append(e) -/
theorem sw_app {i : Nat} {S : Prop} {xs : List α} {up : List α → OP} {We : (α → Prop) → Prop} {Wr : α → List α → Prop} (lv : LV c to i S m (oList m R) xs up) (he : EW c te m R We) (k : ∀ x v, SW F (c.set i (.ow (up v))) T tr D (Wr x v)) (hnb : ctxNB c = true := by rfl) (hm : m ≠ .b := by decide) :
    SW F c T (tSeq (tDrop (tBM K "list" rAppend to (tCons te tNil))) tr) D (S ∧ We fun x => xs.length < sizeLine ∧ ∀ v, v = xs ++ [x] → Wr x v) := fun nT w σ H hd => lv.ev T σ H w.1 hd _ fun v X H1 h1 inv => by
  obtain ⟨A, B, h1⟩ := h1
  obtain ⟨l, vs, ev, hH, _⟩ := lv.at w.1 nT hnb hm inv (fun t ht => List.mem_append_left _ ht) h1 (fun t ht => List.mem_append_right _ ht)
  refine ⟨by rw [ev]; exact .inl ⟨rfl, vs, SqL.of hH⟩, he _ w.2 _ σ H1 ⟨A, B, h1⟩ _ fun x y H2 px ⟨A, B, h2⟩ => ?_⟩
  obtain ⟨l', vs', ev', hH', hp', go⟩ := lv.at w.1 nT hnb hm inv (fun t ht => List.mem_cons_of_mem _ (List.mem_append_left _ ht)) h2 (fun t ht => List.mem_cons_of_mem _ (List.mem_append_right _ ht))
  refine ⟨l', vs', y, ev', rfl, hH', by rw [hp'.length]; exact px.1, ?_⟩
  exact k x _ nT (px.2 _ rfl) _ _ ⟨A, B, go (vs' ++ [y]) (xs ++ [x]) [] (by simp) (fun t ht => by simp at ht) (Paired.snoc hp' h2.hd)⟩
/-- place[k] = e -/
theorem sw_set {i : Nat} {S : Prop} {xs : List α} {up : List α → OP} {We : (α → Prop) → Prop} {Wk : (Int → Prop) → Prop} {Wr : α → Int → List α → Prop} (he : EW c te m R We) (lv : LV c to i S m (oList m R) xs up) (hk : EW c ti m2 rInt Wk) (k : ∀ x j v, SW F (c.set i (.ow (up v))) T tr D (Wr x j v)) (hnb : ctxNB c = true := by rfl) (hm : m ≠ .b := by decide) :
    SW F c T (tSeq (tAsg te (gSub to ti rSetL)) tr) D (We fun x => S ∧ Wk fun j => InB xs.length j ∧ ∀ v, v = setI xs j x → Wr x j v) := fun nT w σ H hd => he _ w T σ H hd _ fun x y H1 px h1 => lv.ev _ σ H1 px.1 h1 _ fun v X H2 h2 inv => by
  refine hk _ px.2 _ σ H2 h2 _ fun j z H3 pj ⟨A, B, h3⟩ => ?_
  obtain ⟨l, vs, ev, hH, hp, go⟩ := lv.at px.1 nT hnb hm inv (fun t ht => List.mem_cons_of_mem _ (List.mem_append_left _ ht)) h3 (fun t ht => List.mem_cons_of_mem _ (List.mem_append_right _ (List.mem_cons_of_mem _ ht)))
  obtain ⟨p1, p2⟩ := posI_at pj.1
  refine ⟨l, vs, j, posI xs.length j, ev, h3.hd, hH, by rw [hp.length]; exact p2, ?_⟩
  have hy : R.r (view F A B m H3) y x := h3.tm ⟨y, m, R.at x⟩ (by simp)
  refine k x j _ nT (pj.2 _ rfl) _ _ ⟨A, B, go (vs.set _ y) (setI xs j x) [] (by simp) (fun t ht => by simp at ht) ?_⟩
  unfold setI
  exact Paired.setAt hp hy
/-- place[k] op= e, ints -/
theorem sw_augI {f : Int → Int → Int} {i : Nat} {S : Prop} {xs : List Int} {up : List Int → OP} {We : Int → (Int → Prop) → Prop} {Wk : (Int → Prop) → Prop} {Wr : Int → List Int → Prop} (lv : LV c to i S .n (oList .n rInt) xs up) (hk : EW c ti m2 rInt Wk) (he : ∀ j, EW c te m1 rInt (We j)) (k : ∀ j v, SW F (c.set i (.ow (up v))) T tr D (Wr j v)) (hnb : ctxNB c = true := by rfl) :
    SW F c T (tSeq (tAugS to ti te (rIxL K) (ipI f) rSetL) tr) D (S ∧ Wk fun j => InB xs.length j ∧ We j fun b => ∀ v, v = setI xs j (f (gI xs j) b) → Wr j v) := fun nT w σ H hd => lv.ev _ σ H w.1 hd _ fun v X H1 h1 inv => by
  refine hk _ w.2 _ σ H1 h1 _ fun j z H2 pj ⟨A, B, h2⟩ => ?_
  obtain ⟨l, vs, ev, hH, hp, _⟩ := lv.at w.1 nT hnb (by decide) inv (fun t ht => List.mem_cons_of_mem _ (List.mem_append_left _ ht)) h2 (fun t ht => List.mem_cons_of_mem _ (List.mem_append_right _ ht))
  obtain ⟨u, e2, r⟩ := at_gI hp pj.1
  have ej : z = .int j := h2.hd
  refine ⟨l, vs, j, u, ev, ej, SqL.of hH, e2, ?_⟩
  refine he j _ pj.2 _ σ H2 ⟨A, B, h2⟩ _ fun b y H3 pb ⟨A, B, h3⟩ => ?_
  have eu : u = .int (gI xs j) := r
  refine ⟨gI xs j, b, eu, h3.hd, ?_⟩
  obtain ⟨l', vs', ev', hH', hp', go⟩ := lv.at w.1 nT hnb (by decide) inv (fun t ht => List.mem_cons_of_mem _ (List.mem_cons_of_mem _ (List.mem_append_left _ ht))) h3 (fun t ht => List.mem_cons_of_mem _ (List.mem_cons_of_mem _ (List.mem_append_right _ ht)))
  obtain ⟨p1, p2⟩ := posI_at pj.1
  refine ⟨l', vs', j, posI xs.length j, ev', ej, hH', by rw [hp'.length]; exact p2, ?_⟩
  refine k j _ nT (pb _ rfl) _ _ ⟨A, B, go (vs'.set _ (.int (f (gI xs j) b))) (setI xs j (f (gI xs j) b)) [] (by simp) (fun t ht => by simp at ht) ?_⟩
  unfold setI
  exact Paired.setAt hp' rfl
/-- x op= e, ints -/
theorem sw_aug {f : Int → Int → Int} {i : Nat} {a : Int} {We : (Int → Prop) → Prop} {Wr : Int → Prop} (hi : c[i]? = some (.sh m1 (rInt.at a))) (he : EW c te m2 rInt We) (k : ∀ v, SW F (c.set i (.sh .n (rInt.at v))) T tr D (Wr v)) (hf : isFree c i = true := by rfl) :
    SW F c T (tSeq (tAug i te (ipI f)) tr) D (We fun b => ∀ v, v = f a b → Wr v) := fun nT w σ H hd => by
  have q : ∃ v, σ[i]? = some (some v) ∧ v = .int a := by
    obtain ⟨A, B, hd⟩ := hd
    have q := hd.sl i
    unfold slOk at q
    rw [hi] at q
    obtain ⟨_, v, hv, hp⟩ := q
    exact ⟨v, hv, hp⟩
  obtain ⟨v, hv, ev⟩ := q
  refine ⟨v, hv, he _ w T σ H hd _ fun b y H1 pb ⟨A, B, h1⟩ => ⟨a, b, ev, h1.hd, ?_⟩⟩
  exact k _ nT (pb _ rfl) _ _ (HD.setTop hf (HD.push (p := rInt.at (f a b)) (m := .n) h1.tl rfl))
/-! ### expressions that change an owned thing -/
def EM (c : Ctx) (te : TE) {ρ α : Type} (c' : ρ → Ctx) (m : Md) (R : Rp α) (f : ρ → α) (W : (ρ → Prop) → Prop) : Prop :=
  ∀ {F : Fm} (Post : ρ → Prop), W Post → ∀ T, NoB T → ∀ σ H, HD F c T σ H → ∀ Q : VK, (∀ r v H', Post r → HD F (c' r) (⟨v, m, R.at (f r)⟩ :: T) σ H' → Q v H') → te σ H Q
theorem paired_drop {G : β → γ → Prop} : ∀ {xs : List β} {ys : List γ}, Paired G xs ys → Paired G xs.dropLast ys.dropLast
  | _, _, .nil => .nil
  | _, _, .cons h .nil => .nil
  | _, _, .cons h (.cons h2 t) => .cons h (paired_drop (.cons h2 t))
theorem paired_er {G : β → γ → Prop} : ∀ {xs : List β} {ys : List γ} (j : Nat), Paired G xs ys → Paired G (xs.eraseIdx j) (ys.eraseIdx j)
  | _, _, _, .nil => .nil
  | _, _, 0, .cons h t => t
  | _, _, j + 1, .cons h t => .cons h (paired_er j t)
theorem em_pop [Inhabited α] {i : Nat} {S : Prop} {xs : List α} {up : List α → OP} (lv : LV c to i S m (oList m R) xs up) (hnb : ctxNB c = true := by rfl) (hm : m ≠ .b := by decide) :
    EM c (tBM0 K "list" rPop to) (fun _ : Unit => c.set i (.ow (up xs.dropLast))) m R (fun _ => gI xs (-1)) (fun P => S ∧ 0 < xs.length ∧ P ()) := fun P w T nT σ H hd Q k => lv.ev T σ H w.1 hd _ fun v X H1 ⟨A, B, h1⟩ inv => by
  obtain ⟨l, vs, ev, hH, hp, go⟩ := lv.at w.1 nT hnb hm inv (fun t ht => List.mem_append_left _ ht) h1 (fun t ht => List.mem_append_right _ ht)
  have hb : InB xs.length (-1) := ⟨by have := w.2.1; omega, by omega⟩
  obtain ⟨j, j1, j2, j3⟩ := gI_at hb
  have ej : j = xs.length - 1 := by
    unfold ixN at j2
    rw [if_neg (by decide), if_pos hb.1] at j2
    have := Option.some.inj j2
    omega
  subst ej
  obtain ⟨y, hy, r⟩ := pget hp j3
  refine ⟨by rw [ev]; exact .inl ⟨rfl, vs, SqL.of hH⟩, l, vs, y, ev, rfl, hH, by rw [hp.length]; exact hy, ?_⟩
  have e := h1.puts [⟨y, m, R.at (gI xs (-1))⟩] (fun t ht => by simp at ht; subst ht; exact r)
  obtain ⟨A2, B2, e⟩ := e
  obtain ⟨l', vs', ev', hH', hp', go'⟩ := lv.at w.1 nT hnb hm inv (fun t ht => List.mem_cons_of_mem _ (List.mem_append_left _ ht)) e (fun t ht => List.mem_cons_of_mem _ (List.mem_append_right _ ht))
  rw [ev] at ev'
  cases ev'
  rw [hH] at hH'
  cases hH'
  refine k () y _ w.2.2 ⟨A2, B2, go' vs.dropLast xs.dropLast [⟨y, m, R.at (gI xs (-1))⟩] (fun t ht => by simp at ht; subst ht; simp) (fun t ht => by simp at ht; subst ht; exact hm) (paired_drop hp')⟩
theorem em_popAt [Inhabited α] {i : Nat} {S : Prop} {xs : List α} {up : List α → OP} {Wk : (Int → Prop) → Prop} (lv : LV c to i S m (oList m R) xs up) (hk : EW c te m2 rInt Wk) (hnb : ctxNB c = true := by rfl) (hm : m ≠ .b := by decide) :
    EM c (tBM K "list" rPopAt to (tCons te tNil)) (fun j : Int => c.set i (.ow (up (erI xs j)))) m R (fun j => gI xs j) (fun P => S ∧ Wk fun j => (InB xs.length j ∧ -(2 ^ 63) ≤ j ∧ j < 2 ^ 63) ∧ P j) := fun P w T nT σ H hd Q k => lv.ev T σ H w.1 hd _ fun v X H1 ⟨A, B, h1⟩ inv => by
  obtain ⟨l, vs, ev, hH, hp, go⟩ := lv.at w.1 nT hnb hm inv (fun t ht => List.mem_append_left _ ht) h1 (fun t ht => List.mem_append_right _ ht)
  refine ⟨by rw [ev]; exact .inl ⟨rfl, vs, SqL.of hH⟩, hk _ w.2 _ σ H1 ⟨A, B, h1⟩ _ fun j z H2 pj ⟨A, B, h2⟩ => ?_⟩
  obtain ⟨l, vs, ev, hH, hp, _⟩ := lv.at w.1 nT hnb hm inv (fun t ht => List.mem_cons_of_mem _ (List.mem_append_left _ ht)) h2 (fun t ht => List.mem_cons_of_mem _ (List.mem_append_right _ ht))
  obtain ⟨y, hy, r⟩ := pget hp (gI_posI pj.1.1)
  have ez : z = .int j := h2.hd
  refine ⟨l, vs, j, posI xs.length j, y, ev, by rw [ez], hH, pj.1.2.1, pj.1.2.2, by rw [hp.length]; exact (ixN_seq (posI_at pj.1.1).2).1, hy, ?_⟩
  obtain ⟨A2, B2, e⟩ := h2.puts [⟨y, m, R.at (gI xs j)⟩] (fun t ht => by simp at ht; subst ht; exact r)
  obtain ⟨l', vs', ev', hH', hp', go'⟩ := lv.at w.1 nT hnb hm inv (fun t ht => List.mem_cons_of_mem _ (List.mem_cons_of_mem _ (List.mem_append_left _ ht))) e (fun t ht => List.mem_cons_of_mem _ (List.mem_cons_of_mem _ (List.mem_append_right _ ht)))
  rw [ev] at ev'
  cases ev'
  rw [hH] at hH'
  cases hH'
  refine k j y _ pj.2 ⟨A2, B2, go' (vs.eraseIdx _) (erI xs j) [⟨y, m, R.at (gI xs j)⟩] (fun t ht => by simp at ht; subst ht; simp) (fun t ht => by simp at ht; subst ht; exact hm) ?_⟩
  unfold erI
  exact paired_er _ hp'
theorem sw_asgM {ρ : Type} {j : Nat} {c' : ρ → Ctx} {f : ρ → α} {We : (ρ → Prop) → Prop} {Wr : ρ → α → Prop} (he : EM c te c' m R f We) (k : ∀ r v, SW F ((c' r).set j (.sh m (R.at v))) T tr D (Wr r v)) (hj : ∀ r, isFree (c' r) j = true := by intro _; rfl) :
    SW F c T (tSeq (tAsg te (gName j)) tr) D (We fun r => ∀ v, v = f r → Wr r v) := fun nT w σ H hd => he _ w T nT σ H hd _ fun r v H' pr h => k r _ nT (pr _ rfl) _ _ (h.setTop (hj r))
theorem sw_exprM {ρ : Type} {c' : ρ → Ctx} {f : ρ → α} {We : (ρ → Prop) → Prop} {Wr : ρ → Prop} (he : EM c te c' m R f We) (k : ∀ r, SW F (c' r) T tr D (Wr r)) :
    SW F c T (tSeq (tDrop te) tr) D (We Wr) := fun nT w σ H hd => he _ w T nT σ H hd _ fun r v H' pr h => k r nT pr _ _ h.pop
theorem sw_appM {ρ : Type} {j : Nat} {xs : List α} {c' : ρ → Ctx} {f : ρ → α} {We : (ρ → Prop) → Prop} {Wr : ρ → α → Prop} (hj : c[j]? = some (.ow (oList m R xs))) (he : EM c te c' m R f We) (k : ∀ r v, SW F ((c' r).set j (.ow (oList m R (xs ++ [v])))) T tr D (Wr r v)) (hj' : ∀ r, (c' r)[j]? = some (.ow (oList m R xs)) := by intro _; rfl) (hnb : ∀ r, ctxNB (c' r) = true := by intro _; rfl) (hm : m ≠ .b := by decide) :
    SW F c T (tSeq (tDrop (tBM K "list" rAppend (tVar j) (tCons te tNil))) tr) D (We fun r => xs.length < sizeLine ∧ ∀ v, v = f r → Wr r v) := fun nT w σ H ⟨A, B, hd⟩ => by
  have z := hd.sl j
  unfold slOk at z
  rw [hj] at z
  obtain ⟨v, hv, l, vs, ea, ev, hH, hp⟩ := z
  refine ⟨v, hv, by rw [ev]; exact .inl ⟨rfl, vs, SqL.of hH⟩, he _ w T nT σ H ⟨A, B, hd⟩ _ fun r y H2 pr ⟨A, B, h2⟩ => ?_⟩
  have z := h2.sl j
  unfold slOk at z
  rw [hj'] at z
  obtain ⟨v', hv', l', vs', ea', ev', hH', hp'⟩ := z
  rw [hv] at hv'
  cases hv'
  refine ⟨l', vs', y, ev', rfl, hH', by rw [hp'.length]; exact pr.1, ?_⟩
  refine k r _ nT (pr.2 _ rfl) _ _ ⟨A, B, ?_⟩
  refine HdA.mutate h2.tl nT (hnb r) (hj' r) (A' := A j) (fun _ z => z) (fun a ha => upd_ne fun z => ha (by rw [ea', z]; simp)) fun hx w hw => ?_
  rw [hv] at hw
  cases hw
  exact ⟨l', _, ea', ev', upd_same, Paired.mono (fun _ _ q => R.mono (hx m hm) q) (Paired.snoc hp' h2.hd)⟩
/-- place.remove(k), ints -/
theorem sw_rem {W : WX} {i : Nat} {S : Prop} {xs : List Int} {up : List Int → OP} {We : (Int → Prop) → Prop} {Wr : Int → List Int → Prop} (lv : LV c to i S .n (oList .n rInt) xs up) (he : EW c te m2 rInt We) (k : ∀ x v, SW F (c.set i (.ow (up v))) T tr D (Wr x v)) (hnb : ctxNB c = true := by rfl) :
    SW F c T (tSeq (tDrop (tRemX K W to te)) tr) D (S ∧ We fun x => x ∈ xs ∧ ∀ v, v = xs.erase x → Wr x v) := fun nT w σ H hd => lv.ev T σ H w.1 hd _ fun v X H1 ⟨A, B, h1⟩ inv => by
  obtain ⟨l, vs, ev, hH, hp, go⟩ := lv.at w.1 nT hnb (by decide) inv (fun t ht => List.mem_append_left _ ht) h1 (fun t ht => List.mem_append_right _ ht)
  refine ⟨by rw [ev]; exact .inl ⟨rfl, vs, SqL.of hH⟩, he _ w.2 _ σ H1 ⟨A, B, h1⟩ _ fun x y H2 px ⟨A, B, h2⟩ => ?_⟩
  obtain ⟨l', vs', ev', hH', hp', go⟩ := lv.at w.1 nT hnb (by decide) inv (fun t ht => List.mem_cons_of_mem _ (List.mem_append_left _ ht)) h2 (fun t ht => List.mem_cons_of_mem _ (List.mem_append_right _ ht))
  have e : vs' = xs.map V.int := ints_of hp'
  refine ⟨l', xs, x, ev', h2.hd, by rw [← e]; exact hH', fun _ => ?_, fun n => absurd px.1 n⟩
  exact k x _ nT (px.2 _ rfl) _ _ ⟨A, B, go _ (xs.erase x) [] (by simp) (fun t ht => by simp at ht) (of_ints _)⟩
/-- place.insert(k, e), k not below 0 -/
abbrev rIns : V → List V → Hp → VK → Prop := fun x vs H Q => ∃ (l : Addr) (xs : List V) (i : Int) (y : V), x = .ref l ∧ vs = [.int i, y] ∧ H l = some (.lst xs) ∧ xs.length < sizeLine ∧ 0 ≤ i ∧ i < 2 ^ 63 ∧
    Q .non (upd H l (.lst (xs.take i.toNat ++ [y] ++ xs.drop i.toNat)))
theorem paired_app {G : β → γ → Prop} : ∀ {xs xs' : List β} {ys ys' : List γ}, Paired G xs ys → Paired G xs' ys' → Paired G (xs ++ xs') (ys ++ ys')
  | _, _, _, _, .nil, h => h
  | _, _, _, _, .cons a t, h => .cons a (paired_app t h)
theorem paired_take {G : β → γ → Prop} : ∀ {xs : List β} {ys : List γ} (j : Nat), Paired G xs ys → Paired G (xs.take j) (ys.take j)
  | _, _, 0, h => by rw [List.take_zero, List.take_zero]; exact .nil
  | _, _, _ + 1, .nil => .nil
  | _, _, j + 1, .cons h t => .cons h (paired_take j t)
theorem paired_dropN {G : β → γ → Prop} : ∀ {xs : List β} {ys : List γ} (j : Nat), Paired G xs ys → Paired G (xs.drop j) (ys.drop j)
  | _, _, 0, h => h
  | _, _, _ + 1, .nil => .nil
  | _, _, j + 1, .cons h t => paired_dropN j t
def insI {α : Type} (xs : List α) (k : Int) (x : α) : List α := xs.take k.toNat ++ [x] ++ xs.drop k.toNat
theorem sw_ins {i : Nat} {S : Prop} {xs : List α} {up : List α → OP} {Wk : (Int → Prop) → Prop} {We : Int → (α → Prop) → Prop} {Wr : Int → α → List α → Prop} (lv : LV c to i S m (oList m R) xs up) (hk : EW c ti m2 rInt Wk) (he : ∀ j, EW c te m R (We j)) (k : ∀ j x v, SW F (c.set i (.ow (up v))) T tr D (Wr j x v)) (hnb : ctxNB c = true := by rfl) (hm : m ≠ .b := by decide) :
    SW F c T (tSeq (tDrop (tBM K "list" rIns to (tCons ti (tCons te tNil)))) tr) D (S ∧ Wk fun j => We j fun x => (xs.length < sizeLine ∧ 0 ≤ j ∧ j < 2 ^ 63) ∧ ∀ v, v = insI xs j x → Wr j x v) := fun nT w σ H hd => lv.ev T σ H w.1 hd _ fun v X H1 ⟨A, B, h1⟩ inv => by
  obtain ⟨l, vs, ev, hH, _⟩ := lv.at w.1 nT hnb hm inv (fun t ht => List.mem_append_left _ ht) h1 (fun t ht => List.mem_append_right _ ht)
  refine ⟨by rw [ev]; exact .inl ⟨rfl, vs, SqL.of hH⟩, hk _ w.2 _ σ H1 ⟨A, B, h1⟩ _ fun j z H2 pj h2 => he j _ pj _ σ H2 h2 _ fun x y H3 px ⟨A, B, h3⟩ => ?_⟩
  obtain ⟨l', vs', ev', hH', hp', go⟩ := lv.at w.1 nT hnb hm inv (fun t ht => List.mem_cons_of_mem _ (List.mem_cons_of_mem _ (List.mem_append_left _ ht))) h3 (fun t ht => List.mem_cons_of_mem _ (List.mem_cons_of_mem _ (List.mem_append_right _ ht)))
  refine ⟨l', vs', j, y, ev', by rw [show z = _ from h3.hd2], hH', by rw [hp'.length]; exact px.1.1, px.1.2.1, px.1.2.2, ?_⟩
  exact k j x _ nT (px.2 _ rfl) _ _ ⟨A, B, go _ (insI xs j x) [] (by simp) (fun t ht => by simp at ht) (paired_app (paired_app (paired_take _ hp') (.cons h3.hd .nil)) (paired_dropN _ hp'))⟩
end
end TW

set_option maxRecDepth 100000
set_option maxHeartbeats 2000000
namespace TW
open PySem PySem.Spec PyProof.Rows L2
/-! ## 17. comprehensions of new lists -/
section
variable {F : Fm} {c : Ctx} {T : List Tm} {σ : Sg} {H : Hp} {A : Nat → List Addr} {B : List Addr} {D : Ends} {α β γ ι τ : Type} {R : Rp α} {Rb : Rp β} {Rc : Rp γ} {m m1 m2 m3 : Md} {te ta tb tc to ti : TE} {tt tu : TT} {tr : TS} {K : PySem.W.Frag}
/-- only the hidden objects are told otherwise -/
theorem HdA.regho {F' : Fm} (h : HdA F c T σ H A B) (e0 : F'.H0 = F.H0) (eI : F'.I = F.I) (eG : ∀ p, p ∈ F'.G ↔ p ∈ F.G) : HdA F' c T σ H A B ∧ ∀ m, view F' A B m H = view F A B m H := by
  obtain ⟨H0, I, G⟩ := F
  obtain ⟨H0', I', G'⟩ := F'
  simp only at e0 eI eG
  subst e0 eI
  have g : ∀ a, ghst ⟨H0', I', G'⟩ a ↔ ghst ⟨H0', I', G⟩ a := fun a => ⟨fun ⟨o, z⟩ => ⟨o, (eG _).mp z⟩, fun ⟨o, z⟩ => ⟨o, (eG _).mpr z⟩⟩
  have hb : ∀ a, hB ⟨H0', I', G'⟩ B a ↔ hB ⟨H0', I', G⟩ B a := fun a => ⟨fun z => z.imp id (g a).mp, fun z => z.imp id (g a).mpr⟩
  have vp : ∀ m a, vP ⟨H0', I', G'⟩ A B m a ↔ vP ⟨H0', I', G⟩ A B m a := fun m a => by
    cases m
    · exact ⟨fun z => z.imp (fun z => z.imp (hb a).mp id) id, fun z => z.imp (fun z => z.imp (hb a).mpr id) id⟩
    · exact ⟨fun z => z.imp (hb a).mp id, fun z => z.imp (hb a).mpr id⟩
    · exact hb a
  have ev : ∀ m, view ⟨H0', I', G'⟩ A B m H = view ⟨H0', I', G⟩ A B m H := fun m => by
    unfold view hid
    funext a
    by_cases z : vP ⟨H0', I', G⟩ A B m a
    · rw [if_pos z, if_pos ((vp m a).mpr z)]
    · rw [if_neg z, if_neg (fun y => z ((vp m a).mp y))]
  refine ⟨⟨h.len, fun i => ?_, fun t ht => by rw [ev]; exact h.tm t ht, h.dj, fun i a ha z => h.db i a ha ((hb a).mp z), h.iq, h.fr, fun a q r => h.ni a (q.imp (hb a).mp id) r, h.st, fun a q => h.gb a ((g a).mp q), fun p hp => h.gh p ((eG p).mp hp)⟩, ev⟩
  have q := h.sl i
  unfold slOk at q ⊢
  cases e : c[i]? with
  | none => rw [e] at q; exact q
  | some s =>
    rw [e] at q
    cases s with
    | un => exact q
    | sh m p => obtain ⟨a, v, hv1, hp1⟩ := q; exact ⟨a, v, hv1, by rw [ev]; exact hp1⟩
    | ow p => obtain ⟨v, hv1, hp1⟩ := q; exact ⟨v, hv1, by rw [ev]; exact hp1⟩
    | io => exact q
abbrev Fm.ghs (F : Fm) (Gs : List (Addr × HO)) : Fm := { F with G := Gs ++ F.G }
theorem vis_sub {F F' : Fm} {A A' : Nat → List Addr} (k : ∀ a, (hB F' B a ∨ ∃ i, a ∈ A' i) → hB F B a ∨ ∃ i, a ∈ A i) (e0 : F'.H0 = F.H0) (hm : m ≠ .b) : Ext (view F A B m H) (view F' A' B m H) := by
  refine hid_ext (fun a _ _ z => ?_) fun _ _ _ q => q
  cases m
  · exact z.imp (k a) (fun z => by rw [← e0]; exact z)
  · exact k a z
  · exact absurd rfl hm
/-- a new thing goes under -/
theorem HD.ghostify {p : OP} {v : V} (hp : p.md ≠ .b) (nT : NoB T) (nc : ctxNB c = true) (h : HD F (c ++ [.ow p]) T (σ ++ [some v]) H) : ∃ A0 Gs A B, HdA (F.ghs Gs) c T σ H A B ∧ (∀ a ∈ A0, ∃ o, (a, o) ∈ Gs ∧ H a = some o) ∧ (∀ g ∈ Gs, g.1 ∈ A0) ∧
    (∀ a ∈ A0, ¬ ghst F a) ∧ p.P A0 H (view (F.ghs Gs) A B p.md H) v := by
  obtain ⟨A, B, h⟩ := h
  have hl : c.length = σ.length := by have := h.len; simp at this; exact this
  have q := h.sl c.length
  unfold slOk at q
  have e1 : (c ++ [Sl.ow p])[c.length]? = some (.ow p) := by simp
  rw [e1] at q
  obtain ⟨w, hw, hpr⟩ := q
  rw [hl] at hw; simp at hw; subst hw
  let A' : Nat → List Addr := fun j => if j < c.length then A j else []
  have hA : ∀ j a, a ∈ A' j → j < c.length ∧ a ∈ A j := fun j a q => by
    by_cases e2 : j < c.length
    · have : A' j = A j := if_pos e2
      rw [this] at q; exact ⟨e2, q⟩
    · have : A' j = [] := if_neg e2
      rw [this] at q; simp at q
  let Gs : List (Addr × HO) := (A c.length).filterMap fun a => (H a).map fun o => (a, o)
  have g1 : ∀ g, g ∈ Gs → g.1 ∈ A c.length ∧ H g.1 = some g.2 := fun g hg => by
    obtain ⟨a, ha, e⟩ := List.mem_filterMap.mp hg
    obtain ⟨o, ho, e⟩ := Option.map_eq_some_iff.mp e
    subst e
    exact ⟨ha, ho⟩
  have g2 : ∀ a ∈ A c.length, ∃ o, (a, o) ∈ Gs ∧ H a = some o := fun a ha => by
    obtain ⟨o, ho, _⟩ := OP.obj _ hpr a ha
    exact ⟨o, List.mem_filterMap.mpr ⟨a, ha, by rw [ho]; rfl⟩, ho⟩
  have gh : ∀ a, ghst (F.ghs Gs) a → a ∈ A c.length ∨ ghst F a := fun a ⟨o, z⟩ => (List.mem_append.mp z).elim (fun z => .inl (g1 _ z).1) fun z => .inr ⟨o, z⟩
  have key : ∀ a, (hB (F.ghs Gs) B a ∨ ∃ i, a ∈ A' i) → hB F B a ∨ ∃ i, a ∈ A i := fun a z => by
    rcases z with (z | z) | ⟨i, z⟩
    · exact .inl (.inl z)
    · rcases gh a z with z | z
      · exact .inr ⟨_, z⟩
      · exact .inl (.inr z)
    · exact .inr ⟨i, (hA i a z).2⟩
  have hv : ∀ m, m ≠ .b → Ext (view F A B m H) (view (F.ghs Gs) A' B m H) := fun m hm => vis_sub key rfl hm
  refine ⟨A c.length, Gs, A', B, ⟨hl, fun j => ?_, fun t ht => SP.mono _ (hv _ (nT t ht)) (h.tm t ht), fun i j a p q => h.dj i j a (hA _ _ p).2 (hA _ _ q).2, fun i a q z => ?_, h.iq, h.fr, fun a q => h.ni a (key a q), h.st, fun a z => ?_, fun g hg => ?_⟩, g2, fun g hg => (g1 g hg).1, fun a ha z => h.db _ a ha (.inr z), OP.frame _ (fun _ _ => rfl) (hv _ hp) hpr⟩
  · unfold slOk
    by_cases hj : j < c.length
    · have ea : A' j = A j := if_pos hj
      have q := h.sl j
      unfold slOk at q
      rw [List.getElem?_append_left hj] at q
      rw [ea]
      cases e2 : c[j]? with
      | none => rw [e2] at q; exact q
      | some s =>
        rw [e2] at q
        have es : ∀ w, (σ ++ [some v])[j]? = some w → σ[j]? = some w := fun w z => by rw [List.getElem?_append_left (by omega)] at z; exact z
        cases s with
        | un => exact q
        | sh m p => obtain ⟨a, v, hv1, hp1⟩ := q; exact ⟨a, v, es _ hv1, SP.mono _ (hv _ (ctxNB_sh nc e2)) hp1⟩
        | ow p => obtain ⟨v, hv1, hp1⟩ := q; exact ⟨v, es _ hv1, OP.frame p (fun _ _ => rfl) (hv _ (ctxNB_ow nc e2)) hp1⟩
        | io => obtain ⟨a, b, r, z, y⟩ := q; exact ⟨a, b, r, es _ z, y⟩
    · rw [List.getElem?_eq_none (by omega)]
      exact if_neg hj
  · obtain ⟨q1, q2⟩ := hA i a q
    rcases z with z | z
    · exact h.db i a q2 (.inl z)
    · rcases gh a z with z | z
      · have := h.dj _ _ a q2 z
        omega
      · exact h.db i a q2 (.inr z)
  · rcases gh a z with z | z
    · exact fun y => h.db _ a z (.inl y)
    · exact h.gb a z
  · rcases List.mem_append.mp hg with z | z
    · obtain ⟨z1, z2⟩ := g1 g z
      obtain ⟨o, ho, n⟩ := OP.obj _ hpr _ z1
      rw [z2] at ho
      cases ho
      exact ⟨z2, n⟩
    · exact h.gh g z
/-- it comes back -/
theorem HdA.unghost {p : OP} {v : V} {A0 : List Addr} {Gs : List (Addr × HO)} (h : HdA (F.ghs Gs) c T σ H A B) (h1 : ∀ a ∈ A0, ∃ o, (a, o) ∈ Gs) (h2 : ∀ g ∈ Gs, g.1 ∈ A0) (hn : ∀ a ∈ A0, ¬ ghst F a) (hp : p.P A0 H (view (F.ghs Gs) A B p.md H) v) :
    HD F (c ++ [.ow p]) T (σ ++ [some v]) H := by
  let A' : Nat → List Addr := fun i => if i = c.length then A0 else A i
  have hA0 : A c.length = [] := by
    have q := h.sl c.length
    unfold slOk at q
    rw [List.getElem?_eq_none (Nat.le_refl _)] at q
    exact q
  have g1 : ∀ a ∈ A0, ghst (F.ghs Gs) a := fun a ha => by
    obtain ⟨o, z⟩ := h1 a ha
    exact ⟨o, List.mem_append_left _ z⟩
  have gF : ∀ a, ghst F a → ghst (F.ghs Gs) a := fun a ⟨o, z⟩ => ⟨o, List.mem_append_right _ z⟩
  have hA : ∀ i a, a ∈ A' i → a ∈ A0 ∧ i = c.length ∨ a ∈ A i := fun i a q => by
    by_cases e : i = c.length
    · have : A' i = A0 := if_pos e
      rw [this] at q; exact .inl ⟨q, e⟩
    · have : A' i = A i := if_neg e
      rw [this] at q; exact .inr q
  have hbF : ∀ a, hB F B a → hB (F.ghs Gs) B a := fun a z => z.imp id (gF a)
  have key : ∀ a, (hB F B a ∨ ∃ i, a ∈ A' i) → hB (F.ghs Gs) B a ∨ ∃ i, a ∈ A i := fun a z => by
    rcases z with z | ⟨i, z⟩
    · exact .inl (hbF a z)
    · rcases hA i a z with ⟨z, _⟩ | z
      · exact .inl (.inr (g1 a z))
      · exact .inr ⟨i, z⟩
  have hv : ∀ m, Ext (view (F.ghs Gs) A B m H) (view F A' B m H) := fun m => by
    refine hid_ext (fun a _ _ z => ?_) fun _ _ _ q => q
    cases m
    · exact z.imp (key a) id
    · exact key a z
    · exact hbF a z
  refine ⟨A', B, by simp [h.len], fun i => ?_, fun t ht => SP.mono _ (hv _) (h.tm t ht), fun i j a p q => ?_, fun i a q z => ?_, h.iq, h.fr, fun a q => h.ni a (key a q), h.st, fun a z => h.gb a (gF a z), fun g hg => h.gh g (List.mem_append_right _ hg)⟩
  · by_cases e : i = c.length
    · subst e
      unfold slOk
      have e1 : (c ++ [Sl.ow p])[c.length]? = some (.ow p) := by simp
      rw [e1]
      have ea : A' c.length = A0 := if_pos rfl
      exact ⟨v, by rw [h.len]; simp, by rw [ea]; exact OP.frame _ (fun _ _ => rfl) (hv _) hp⟩
    · have e1 : (c ++ [Sl.ow p])[i]? = c[i]? := by
        by_cases hlt : i < c.length
        · rw [List.getElem?_append_left hlt]
        · rw [List.getElem?_eq_none (l := c) (by omega), List.getElem?_eq_none (by simp; omega)]
      have ea : A' i = A i := if_neg e
      have q := h.sl i
      unfold slOk at q ⊢
      rw [e1, ea]
      have es : ∀ w, σ[i]? = some w → (σ ++ [some v])[i]? = some w := fun w z => by rw [List.getElem?_append_left (List.getElem?_eq_some_iff.mp z).1]; exact z
      cases e2 : c[i]? with
      | none => rw [e2] at q; exact q
      | some s =>
        rw [e2] at q
        cases s with
        | un => exact q
        | sh m p => obtain ⟨a, v, hv1, hp1⟩ := q; exact ⟨a, v, es _ hv1, SP.mono _ (hv _) hp1⟩
        | ow p => obtain ⟨v, hv1, hp1⟩ := q; exact ⟨v, es _ hv1, OP.frame p (fun _ _ => rfl) (hv _) hp1⟩
        | io => obtain ⟨a, b, r, z, y⟩ := q; exact ⟨a, b, r, es _ z, y⟩
  · rcases hA i a p with ⟨z1, e1⟩ | p1
    · rcases hA j a q with ⟨_, e2⟩ | q1
      · rw [e1, e2]
      · exact absurd (.inr (g1 a z1)) (h.db j a q1)
    · rcases hA j a q with ⟨z2, e2⟩ | q1
      · exact absurd (.inr (g1 a z2)) (h.db i a p1)
      · exact h.dj i j a p1 q1
  · rcases hA i a q with ⟨q, _⟩ | q
    · rcases z with z | z
      · exact h.gb a (g1 a q) z
      · exact hn a q z
    · exact h.db i a q (hbF a z)
/-- new things kept under the list under way -/
def heldP (p : OP) (Gs : List (Addr × HO)) (z : List Addr × V) (V0 : Hp) : Prop := ∃ Hg : Hp, (∀ a ∈ z.1, ∃ o, (a, o) ∈ Gs ∧ Hg a = some o) ∧ p.P z.1 Hg V0 z.2
theorem heldP.monoT {p : OP} {Gs Gs' : List (Addr × HO)} {z : List Addr × V} {V0 V' : Hp} (h : heldP p Gs z V0) (e : ∀ g ∈ Gs, g ∈ Gs') (e2 : ExtT V0 V') : heldP p Gs' z V' := by
  obtain ⟨Hg, h1, h2⟩ := h
  exact ⟨Hg, fun a ha => by
    obtain ⟨o, z1, z2⟩ := h1 a ha
    exact ⟨o, e _ z1, z2⟩, OP.frameT p (fun _ _ => rfl) e2 h2⟩
theorem heldP.mono {p : OP} {Gs Gs' : List (Addr × HO)} {z : List Addr × V} {V0 V' : Hp} (h : heldP p Gs z V0) (e : ∀ g ∈ Gs, g ∈ Gs') (e2 : Ext V0 V') : heldP p Gs' z V' := heldP.monoT h e e2.t
theorem heldP.now {p : OP} {Gs : List (Addr × HO)} {z : List Addr × V} {V0 : Hp} (h : heldP p Gs z V0) (e : ∀ g ∈ Gs, H g.1 = some g.2) : p.P z.1 H V0 z.2 := by
  obtain ⟨Hg, h1, h2⟩ := h
  refine OP.frame p (fun a ha => ?_) (Ext.refl _) h2
  obtain ⟨o, z1, z2⟩ := h1 a ha
  rw [z2]; exact e _ z1
def accO (p : α → OP) (Gs : List (Addr × HO)) (zs : List (List Addr × V)) (ys : List α) : SP := ⟨fun V0 _ => Paired (fun z y => heldP (p y) Gs z V0) zs ys, fun e h => Paired.mono (fun _ _ q => q.monoT (fun _ z => z) e) h⟩
structure GsOk (F : Fm) (Gs : List (Addr × HO)) (zs : List (List Addr × V)) : Prop where
  b1 : ∀ g ∈ Gs, ∃ z ∈ zs, g.1 ∈ z.1
  b2 : ∀ z ∈ zs, ∀ a ∈ z.1, ∃ o, (a, o) ∈ Gs
  b3 : ∀ z ∈ zs, ∀ a ∈ z.1, ¬ ghst F a
  b4 : zs.Pairwise (fun (y z : List Addr × V) => ∀ a : Addr, a ∈ y.1 → a ∉ z.1)
def EON (c : Ctx) (te : TE) {ι : Type} (p : ι → OP) (W : (ι → Prop) → Prop) : Prop :=
  ∀ {F : Fm} (Post : ι → Prop), W Post → ∀ T, NoB T → ∀ σ H, HD F c T σ H → ∀ Q : VK, (∀ i v H', Post i → HD F (c ++ [.ow (p i)]) T (σ ++ [some v]) H' → Q v H') → te σ H Q
theorem EO.n {p : α → OP} {W : (α → Prop) → Prop} (h : EO c te p W) : EON c te p W := fun P w T _ => h P w T
/-- the list and what is kept under it: one owned thing -/
theorem HdA.gather {p : α → OP} {Gs : List (Addr × HO)} {zs : List (List Addr × V)} {ys : List α} {Dl : Addr} (h : HdA ((F.ghs Gs).gho Dl (.lst (zs.map (·.2)))) c (⟨.non, m, accO p Gs zs ys⟩ :: T) σ H A B) (hg : GsOk F Gs zs) (hD : ¬ ghst F Dl) (hD2 : ∀ z ∈ zs, Dl ∉ z.1) :
    HD F (c ++ [.ow (oLO m p ys)]) T (σ ++ [some (.ref Dl)]) H := by
  have hh := (h.regho (F' := F.ghs ((Dl, .lst (zs.map (·.2))) :: Gs)) rfl rfl (fun p => by simp))
  obtain ⟨h2, ev⟩ := hh
  have h3 := h2.tl
  have acc := h2.hd
  refine HdA.unghost (p := oLO m p ys) (A0 := Dl :: (zs.map (·.1)).flatten) h3 (fun a ha => ?_) (fun g hg' => ?_) (fun a ha => ?_) ?_
  · rcases List.mem_cons.mp ha with rfl | ha
    · exact ⟨_, List.mem_cons_self⟩
    · obtain ⟨z, hz, ha⟩ := mem_fl.mp ha
      obtain ⟨o, ho⟩ := hg.b2 z hz a ha
      exact ⟨o, List.mem_cons_of_mem _ ho⟩
  · rcases List.mem_cons.mp hg' with rfl | hg'
    · exact List.mem_cons_self
    · obtain ⟨z, hz, ha⟩ := hg.b1 g hg'
      exact List.mem_cons_of_mem _ (mem_fl.mpr ⟨z, hz, ha⟩)
  · rcases List.mem_cons.mp ha with rfl | ha
    · exact hD
    · obtain ⟨z, hz, ha⟩ := mem_fl.mp ha
      exact hg.b3 z hz a ha
  · refine ⟨Dl, zs, rfl, (h2.gh _ List.mem_cons_self).1, rfl, ?_, hD2, hg.b4⟩
    have acc' : Paired (fun z y => heldP (p y) Gs z (view (F.ghs ((Dl, .lst (zs.map (·.2))) :: Gs)) A B m H)) zs ys := acc
    exact Paired.mono (fun z y q => q.now fun g hg' => (h2.gh g (List.mem_cons_of_mem _ (List.mem_append_left _ hg'))).1) acc'
theorem eo_lcO0 {p : α → OP} {wi : TI} {g : TG} {cg : β → Ctx} {js vs : List Nat} {Wi : (List β → Prop) → Prop} {Wt : β → (Bool → Prop) → Prop} {We : β → (α → Prop) → Prop} (hi : IW c wi m Rb Wi) (hg : GP (wipeC c vs) g m Rb cg js)
    (ht : ∀ x, TW' (cg x) tt (Wt x)) (he : ∀ x, EON (cg x) te p (We x)) (hus : ∀ i ∈ vs, isUS c i = true) (hj : ∀ j ∈ js, j ∈ vs) (hcg : ∀ x, wipeC (cg x) vs = wipeC c vs) (hcu : ∀ x, ∀ i ∈ vs, isUS (cg x) i = true)
    (hmd : ∀ y, (p y).md = m1) (hnb : ctxNB c = true) (hnb2 : ∀ x, ctxNB (cg x) = true) (hm : m ≠ .b) (hm1 : m1 ≠ .b) :
    EON c (tLc wi g tt te vs) (oLO m1 p) (fun P => ∃ Ws, Wi Ws ∧ ∀ xs, Ws xs → xs.length ≤ sizeLine ∧ mapW (fun x (Q : Option α → Prop) => Wt x fun b => (b = true → We x fun y => Q (some y)) ∧ (b = false → Q none)) xs P) := fun {F} P w T nT σ H hd Q k => by
  obtain ⟨Ws, w, wk⟩ := w
  exact hi _ w T σ H hd _ fun xs J T' H1 px io h1 => fun Dl hD => by
    obtain ⟨hsz, px⟩ := wk xs px
    have nT' := io.nb hm nT
    obtain ⟨S, ⟨A, B, hS⟩, back, nS⟩ := h1.saveAll hus
    have nS' : NoB S := fun t ht => by
      obtain ⟨j, p, e⟩ := nS t ht
      exact ctxNB_sh hnb e
    have nG : ¬ ghst F Dl := fun ⟨o, z⟩ => by
      have := (hS.gh _ z).1
      rw [show H1 Dl = none from hD] at this; cases this
    generalize hfd : (fun x (Q : Option α → Prop) => Wt x fun b => (b = true → We x fun y => Q (some y)) ∧ (b = false → Q none)) = f at px
    have hu := hS.under hD (o := .lst []) trivial
    refine ⟨fun i k H => k = xs.length - i ∧ i ≤ xs.length ∧ ∃ acc zs Gs, acc.length ≤ i ∧ mapW f (xs.drop i) (fun ys => P (acc ++ ys)) ∧ GsOk F Gs zs ∧ (∀ z ∈ zs, Dl ∉ z.1) ∧
      HD ((F.ghs Gs).gho Dl (.lst (zs.map (·.2)))) (wipeC c vs) (⟨.non, m1, accO p Gs zs acc⟩ :: (S ++ T')) (L2.wipe σ vs) H, ⟨xs.length, by simp, Nat.zero_le _, [], [], [], Nat.le_refl _, px, ⟨by simp, by simp, by simp, .nil⟩, by simp, HD.push (p := accO p [] [] []) hu .nil⟩, ?_⟩
    rintro i k2 H2 ⟨rfl, hile, acc, zs, Gs, hacc, hm2, hgs, hDz, h2⟩
    have sT : ∀ t ∈ T', t ∈ (⟨.non, m1, accO p Gs zs acc⟩ :: (S ++ T') : List Tm) := fun t z => List.mem_cons_of_mem _ (List.mem_append_right _ z)
    by_cases hlt : i < xs.length
    · refine .inr ⟨io.go _ _ _ _ _ sT h2 i hlt, fun H' => ∃ acc zs Gs, acc.length ≤ i + 1 ∧ mapW f (xs.drop (i + 1)) (fun ys => P (acc ++ ys)) ∧ GsOk F Gs zs ∧ (∀ z ∈ zs, Dl ∉ z.1) ∧
        HD ((F.ghs Gs).gho Dl (.lst (zs.map (·.2)))) (wipeC c vs) (⟨.non, m1, accO p Gs zs acc⟩ :: (S ++ T')) (L2.wipe σ vs) H', fun H' z => ⟨xs.length - (i + 1), by omega, rfl, hlt, z⟩, fun x H3 y => ?_⟩
      have h3 := io.yld _ _ _ _ _ sT h2 i hlt x H3 y
      rw [← List.getElem_cons_drop hlt] at hm2
      have hm3 := mapW_snoc hm2
      refine hg _ _ _ _ _ h3 _ fun σ4 H4 h4 off => ⟨wipe_off off hj, ?_⟩
      have hw4 := wipe_off off hj
      have again : ∀ {F2 : Fm} {T2 : List Tm} {H5 : Hp}, HD F2 (cg xs[i]) T2 σ4 H5 → HD F2 (wipeC c vs) T2 (L2.wipe σ vs) H5 := fun h5 => by
        have := h5.wipe (vs := vs) fun j hj => isUS_free (hcu _ j hj)
        rw [hcg, hw4] at this
        exact this
      subst hfd
      refine ht xs[i] _ hm3 _ σ4 H4 h4 _ fun b H5 pb h5 => ?_
      cases b with
      | false => exact ⟨acc, zs, Gs, Nat.le_succ_of_le hacc, pb.2 rfl, hgs, hDz, again h5⟩
      | true =>
        have nT2 : NoB (⟨.non, m1, accO p Gs zs acc⟩ :: (S ++ T')) := fun t ht => by
          rcases List.mem_cons.mp ht with rfl | ht
          · exact hm1
          · exact (List.mem_append.mp ht).elim (nS' t) (nT' t)
        refine he xs[i] _ (pb.1 rfl) _ nT2 σ4 H5 h5 _ fun y v H6 py h6 => ?_
        obtain ⟨A0, Gs', A6, B6, h6, g1, g2, g3, hp⟩ := h6.ghostify (by rw [hmd]; exact hm1) nT2 (hnb2 _)
        have gD : Dl ∉ A0 := fun z => g3 _ z ⟨_, List.mem_cons_self⟩
        obtain ⟨h7, ev⟩ := h6.regho (F' := (F.ghs (Gs' ++ Gs)).gho Dl (.lst (zs.map (·.2)))) rfl rfl (fun g => by
          simp only [List.mem_append, List.mem_cons]
          constructor
          · rintro (z | (z | z) | z)
            · exact .inr (.inl z)
            · exact .inl z
            · exact .inr (.inr (.inl z))
            · exact .inr (.inr (.inr z))
          · rintro (z | z | z | z)
            · exact .inr (.inl (.inl z))
            · exact .inl z
            · exact .inr (.inl (.inr z))
            · exact .inr (.inr z))
        rw [← ev] at hp
        have acc0 := h7.hd
        have e1 : H6 Dl = some (.lst (zs.map (·.2))) := (h7.gh (Dl, .lst (zs.map (·.2))) List.mem_cons_self).1
        have hl : zs.length = acc.length := Paired.length (show Paired _ zs acc from acc0)
        have nG2 : ¬ ghst (F.ghs (Gs' ++ Gs)) Dl := fun ⟨o, z⟩ => by
          rcases List.mem_append.mp z with z | z
          · rcases List.mem_append.mp z with z | z
            · exact gD (g2 _ z)
            · obtain ⟨w, hw, z⟩ := hgs.b1 _ z
              exact hDz w hw z
          · exact nG ⟨o, z⟩
        have h8 : HD ((F.ghs (Gs' ++ Gs)).gho Dl (.lst (zs.map (·.2)))) (cg xs[i]) (⟨.non, m1, accO p (Gs' ++ Gs) (zs ++ [(A0, v)]) (acc ++ [y])⟩ :: (S ++ T')) σ4 H6 := by
          refine HD.push (p := accO p (Gs' ++ Gs) (zs ++ [(A0, v)]) (acc ++ [y])) h7.tl ?_
          refine Paired.snoc (Paired.mono (fun _ _ q => q.mono (fun g z => List.mem_append_right _ z) (Ext.refl _)) acc0) ⟨H6, fun a ha => ?_, ?_⟩
          · obtain ⟨o, z1, z2⟩ := g1 a ha
            exact ⟨o, List.mem_append_left _ z1, z2⟩
          · rw [hmd] at hp
            exact hp
        obtain ⟨A8, B8, h8⟩ := again h8
        obtain ⟨h9, _⟩ := h8.more (ws' := (zs ++ [(A0, v)]).map (·.2)) nG2
        refine ⟨zs.map (·.2), e1, by rw [List.length_map]; omega, acc ++ [y], zs ++ [(A0, v)], Gs' ++ Gs, by simp; omega, py, ⟨?_, ?_, ?_, ?_⟩, ?_, ?_⟩
        · intro g z
          rcases List.mem_append.mp z with z | z
          · exact ⟨(A0, v), by simp, g2 _ z⟩
          · obtain ⟨w, hw, z⟩ := hgs.b1 _ z
            exact ⟨w, List.mem_append_left _ hw, z⟩
        · intro z hz a ha
          rcases List.mem_append.mp hz with hz | hz
          · obtain ⟨o, ho⟩ := hgs.b2 z hz a ha
            exact ⟨o, List.mem_append_right _ ho⟩
          · simp at hz
            subst hz
            obtain ⟨o, z1, _⟩ := g1 a ha
            exact ⟨o, List.mem_append_left _ z1⟩
        · intro z hz a ha
          rcases List.mem_append.mp hz with hz | hz
          · exact hgs.b3 z hz a ha
          · simp at hz
            subst hz
            exact fun ⟨o, q⟩ => g3 a ha ⟨o, List.mem_cons_of_mem _ (List.mem_append_right _ q)⟩
        · refine List.pairwise_append.mpr ⟨hgs.b4, List.pairwise_singleton _ _, fun w hw z hz a ha => ?_⟩
          simp at hz
          subst hz
          intro q
          obtain ⟨o, ho⟩ := hgs.b2 w hw a ha
          exact g3 a q ⟨o, List.mem_cons_of_mem _ (List.mem_append_left _ ho)⟩
        · intro z hz
          rcases List.mem_append.mp hz with hz | hz
          · exact hDz z hz
          · simp at hz
            subst hz
            exact gD
        · have e3 : (zs ++ [(A0, v)]).map (·.2) = zs.map (·.2) ++ [v] := by simp
          rw [e3] at h9 ⊢
          exact ⟨A8, B8, h9⟩
    · have e : i = xs.length := by omega
      subst e
      refine .inl ⟨io.stop _ _ _ _ _ sT h2, ?_⟩
      rw [List.drop_length] at hm2
      have hP : P acc := by
        have : P (acc ++ []) := hm2
        rwa [List.append_nil] at this
      refine k acc _ _ hP ?_
      have h5 : HD ((F.ghs Gs).gho Dl (.lst (zs.map (·.2)))) c (⟨.non, m1, accO p Gs zs acc⟩ :: T') σ H2 := back _ _ _ (h2.sub fun t z => by
        simp only [List.mem_append, List.mem_cons] at z ⊢
        rcases z with z | z | z
        · exact .inr (.inl z)
        · exact .inl z
        · exact .inr (.inr z))
      obtain ⟨A5, B5, h5⟩ := h5
      exact (h5.gather hgs nG hDz).sub io.sub
end
end TW

set_option maxRecDepth 100000
set_option maxHeartbeats 2000000
namespace TW
open PySem PySem.Spec PyProof.Rows L2
section
variable {F : Fm} {c : Ctx} {T : List Tm} {σ : Sg} {H : Hp} {A : Nat → List Addr} {B : List Addr} {D : Ends} {α β γ ι τ : Type} {R : Rp α} {Rb : Rp β} {Rc : Rp γ} {m m1 m2 m3 : Md} {te ta tb tc to ti : TE} {tt tu : TT} {tr : TS} {K : PySem.W.Frag}
def EONP (c : Ctx) (te : TE) {α : Type} (p : α → OP) (S : Prop) (x : α) : Prop := EON c te p (fun P => S ∧ P x)
theorem EOP.n {p : α → OP} {S : Prop} {x : α} (h : EOP c te p S x) : EONP c te p S x := EO.n h
/-- [e for x in xs], e a new list -/
theorem eo_lcO1P {p : α → OP} {wi : TI} {g : TG} {cg : β → Ctx} {js vs : List Nat} {Si : Prop} {xs : List β} {Se : β → Prop} {fe : β → α} (hi : IWP c wi m Rb Si xs) (hg : GP (wipeC c vs) g m Rb cg js)
    (he : ∀ x, EONP (cg x) te p (Se x) (fe x)) (hus : ∀ i ∈ vs, isUS c i = true) (hj : ∀ j ∈ js, j ∈ vs) (hcg : ∀ x, wipeC (cg x) vs = wipeC c vs) (hcu : ∀ x, ∀ i ∈ vs, isUS (cg x) i = true)
    (hmd : ∀ y, (p y).md = m1 := by intro _; rfl) (hnb : ctxNB c = true := by rfl) (hnb2 : ∀ x, ctxNB (cg x) = true := by intro _; rfl) (hm : m ≠ .b := by decide) (hm1 : m1 ≠ .b := by decide) :
    EONP c (tLc wi g tYes te vs) (oLO m1 p) (Si ∧ xs.length ≤ sizeLine ∧ ∀ x ∈ xs, Se x) (xs.map fe) := fun P w T nT σ H hd Q k =>
  eo_lcO0 hi hg (fun _ => TP'.w tp_yes) he hus hj hcg hcu hmd hnb hnb2 hm hm1 P ⟨fun ys => ys = xs, ⟨w.1.1, rfl⟩, fun ys e => by
    subst e
    refine ⟨w.1.2.1, ?_⟩
    have := mapW_pure (St := fun _ => True) (pt := fun _ => true) (fe := fe) (Se := Se) (P := P) (xs := ys) (fun x hx => ⟨trivial, fun _ => w.1.2.2 x hx⟩) (by rw [List.filter_eq_self.mpr (by simp)]; exact w.2)
    exact this⟩ T nT σ H hd Q k
theorem eo_lcO1 {p : α → OP} {wi : TI} {g : TG} {cg : β → Ctx} {js vs : List Nat} {Wi : (List β → Prop) → Prop} {Se : β → Prop} {fe : β → α} (hi : IW c wi m Rb Wi) (hg : GP (wipeC c vs) g m Rb cg js)
    (he : ∀ x, EONP (cg x) te p (Se x) (fe x)) (hus : ∀ i ∈ vs, isUS c i = true) (hj : ∀ j ∈ js, j ∈ vs) (hcg : ∀ x, wipeC (cg x) vs = wipeC c vs) (hcu : ∀ x, ∀ i ∈ vs, isUS (cg x) i = true)
    (hmd : ∀ y, (p y).md = m1 := by intro _; rfl) (hnb : ctxNB c = true := by rfl) (hnb2 : ∀ x, ctxNB (cg x) = true := by intro _; rfl) (hm : m ≠ .b := by decide) (hm1 : m1 ≠ .b := by decide) :
    EON c (tLc wi g tYes te vs) (oLO m1 p) (fun P => Wi fun xs => xs.length ≤ sizeLine ∧ (∀ x ∈ xs, Se x) ∧ P (xs.map fe)) := fun P w T nT σ H hd Q k =>
  eo_lcO0 hi hg (fun _ => TP'.w tp_yes) he hus hj hcg hcu hmd hnb hnb2 hm hm1 P ⟨_, w, fun xs ⟨h1, h2, h3⟩ => ⟨h1, by
    have := mapW_pure (St := fun _ => True) (pt := fun _ => true) (fe := fe) (Se := Se) (P := P) (xs := xs) (fun x hx => ⟨trivial, fun _ => h2 x hx⟩) (by rw [List.filter_eq_self.mpr (by simp)]; exact h3)
    exact this⟩⟩ T nT σ H hd Q k
theorem eo_lcOW1 {p : α → OP} {wi : TI} {g : TG} {cg : β → Ctx} {js vs : List Nat} {Wi : (List β → Prop) → Prop} {We : β → (α → Prop) → Prop} (hi : IW c wi m Rb Wi) (hg : GP (wipeC c vs) g m Rb cg js)
    (he : ∀ x, EON (cg x) te p (We x)) (hus : ∀ i ∈ vs, isUS c i = true) (hj : ∀ j ∈ js, j ∈ vs) (hcg : ∀ x, wipeC (cg x) vs = wipeC c vs) (hcu : ∀ x, ∀ i ∈ vs, isUS (cg x) i = true)
    (hmd : ∀ y, (p y).md = m1 := by intro _; rfl) (hnb : ctxNB c = true := by rfl) (hnb2 : ∀ x, ctxNB (cg x) = true := by intro _; rfl) (hm : m ≠ .b := by decide) (hm1 : m1 ≠ .b := by decide) :
    EON c (tLc wi g tYes te vs) (oLO m1 p) (fun P => Wi fun xs => xs.length ≤ sizeLine ∧ mapW1 We xs P) := fun P w T nT σ H hd Q k =>
  eo_lcO0 hi hg (fun _ => TP'.w tp_yes) he hus hj hcg hcu hmd hnb hnb2 hm hm1 P ⟨_, w, fun xs ⟨h1, h2⟩ => ⟨h1, by rw [← mapW_1] at h2; exact h2⟩⟩ T nT σ H hd Q k
/-- statements with such a value -/
theorem sw_asgON {p : α → OP} {i : Nat} {We : (α → Prop) → Prop} {Wr : α → Prop} (he : EON c te p We) (k : ∀ a, SW F (c.set i (.ow (p a))) T tr D (Wr a)) (hi : i < c.length := by exact Nat.le_of_ble_eq_true rfl) : SW F c T (tSeq (tAsg te (gName i)) tr) D (We Wr) :=
  fun nb w σ H hd => he _ w T nb σ H hd _ fun a v H' pa h' => k a nb pa _ H' (h'.bring hi)
theorem sw_asgONP {p : α → OP} {i : Nat} {S : Prop} {a : α} {Wr : α → Prop} (he : EONP c te p S a) (k : ∀ v, SW F (c.set i (.ow (p v))) T tr D (Wr v)) (hi : i < c.length := by exact Nat.le_of_ble_eq_true rfl) : SW F c T (tSeq (tAsg te (gName i)) tr) D (S ∧ ∀ v, v = a → Wr v) :=
  sw_imp (sw_asgON he k hi) fun h => ⟨h.1, h.2 a rfl⟩
/-! ### written lists of new lists -/
def LsO (c : Ctx) (t : TA) (m : Md) {α : Type} (p : α → OP) (n : Nat) (W : (List α → Prop) → Prop) : Prop :=
  ∀ {F : Fm} (Post : List α → Prop), W Post → ∀ T, NoB T → ∀ σ H, HD F c T σ H → ∀ Q : List V → Hp → Prop, (∀ ys zs Gs H', Post ys → ys.length = n → GsOk F Gs zs → HD (F.ghs Gs) c (⟨.non, m, accO p Gs zs ys⟩ :: T) σ H' → Q (zs.map (·.2)) H') → t σ H Q
theorem lo_nil {p : α → OP} : LsO c tNil m p 0 (fun P => P []) := fun P w T nT σ H hd Q k => k [] [] [] H w rfl ⟨by simp, by simp, by simp, .nil⟩ (by
  obtain ⟨A, B, hd⟩ := hd
  exact HD.push (p := accO p [] [] []) (F := _) hd .nil)
theorem lo_cons {p : α → OP} {n : Nat} {t : TA} {Wa : (α → Prop) → Prop} {Wr : α → (List α → Prop) → Prop} (ha : EON c ta p Wa) (hr : ∀ a, LsO c t m p n (Wr a)) (hmd : ∀ y, (p y).md = m := by intro _; rfl) (hnb : ctxNB c = true := by rfl) (hm : m ≠ .b := by decide) :
    LsO c (tCons ta t) m p (n + 1) (fun P => Wa fun a => Wr a fun xs => P (a :: xs)) := fun {F} P w T nT σ H hd Q k =>
  ha _ w T nT σ H hd _ fun a v H1 pa h1 => by
    obtain ⟨A0, Gs, A, B, h1, g1, g2, g3, hp⟩ := h1.ghostify (by rw [hmd]; exact hm) nT hnb
    rw [hmd] at hp
    have h2 := HD.push (m := m) (p := accO p Gs [(A0, v)] [a]) (v := .non) h1 (Paired.cons ⟨H1, g1, hp⟩ .nil)
    refine hr a _ pa _ (fun t ht => (List.mem_cons.mp ht).elim (fun e => by subst e; exact hm) (nT t)) σ H1 h2 _ fun ys zs Gs' H2 py ey gs h3 => ?_
    have e := k (a :: ys) ((A0, v) :: zs) (Gs' ++ Gs) H2 py (by simp [ey]) ⟨?_, ?_, ?_, ?_⟩ ?_
    · exact e
    · intro g hg
      rcases List.mem_append.mp hg with z | z
      · obtain ⟨w, hw, z⟩ := gs.b1 g z
        exact ⟨w, List.mem_cons_of_mem _ hw, z⟩
      · exact ⟨_, List.mem_cons_self, g2 g z⟩
    · intro z hz b hb
      rcases List.mem_cons.mp hz with rfl | hz
      · obtain ⟨o, h, _⟩ := g1 b hb
        exact ⟨o, List.mem_append_right _ h⟩
      · obtain ⟨o, h⟩ := gs.b2 z hz b hb
        exact ⟨o, List.mem_append_left _ h⟩
    · intro z hz b hb
      rcases List.mem_cons.mp hz with rfl | hz
      · exact g3 b hb
      · exact fun ⟨o, q⟩ => gs.b3 z hz b hb ⟨o, List.mem_append_right _ q⟩
    · refine List.pairwise_cons.mpr ⟨fun z hz b hb q => ?_, gs.b4⟩
      obtain ⟨o, h, _⟩ := g1 b hb
      exact gs.b3 z hz b q ⟨o, List.mem_append_left _ h⟩
    · obtain ⟨A, B, h3⟩ := h3
      obtain ⟨h4, ev⟩ := h3.regho (F' := F.ghs (Gs' ++ Gs)) rfl rfl (fun g => by simp [or_assoc])
      have q1 := h4.hd
      have q2 := h4.hd2
      have h5 := HD.push (m := m) (p := accO p (Gs' ++ Gs) ((A0, v) :: zs) (a :: ys)) (v := .non) h4.tl.tl ?_
      · exact h5
      · have q1' : Paired (fun z y => heldP (p y) Gs' z (view (F.ghs (Gs' ++ Gs)) A B m H2)) zs ys := q1
        have q2' : Paired (fun z y => heldP (p y) Gs z (view (F.ghs (Gs' ++ Gs)) A B m H2)) [(A0, v)] [a] := q2
        cases q2' with
        | cons q2' _ => exact .cons (q2'.mono (fun g z => List.mem_append_right _ z) (Ext.refl _)) (Paired.mono (fun _ _ q => q.mono (fun g z => List.mem_append_left _ z) (Ext.refl _)) q1')
theorem eo_lstO {p : α → OP} {t : TA} {n : Nat} {W : (List α → Prop) → Prop} (h : LsO c t m p n W) (hn : n ≤ 1000 := by decide) : EON c (tLst t) (oLO m p) W := fun {F} P w T nT σ H hd Q k =>
  h P w T nT σ H hd _ fun ys zs Gs H1 py e gs ⟨A, B, h1⟩ => by
    have acc : Paired (fun z y => heldP (p y) Gs z (view (F.ghs Gs) A B m H1)) zs ys := h1.hd
    refine ⟨sz1000 (by rw [List.length_map]; exact acc.length.trans e) hn, fun l hl => k ys _ _ py ?_⟩
    have nl : ∀ a o, H1 a = some o → a ≠ l := fun a o e => ne_of_none e hl
    have h2 := h1.under hl (o := .lst (zs.map (·.2))) trivial
    refine HdA.gather h2 gs (fun ⟨o, z⟩ => ?_) (fun z hz q => ?_)
    · have := (h1.gh _ (List.mem_append_right _ z)).1
      exact nl _ _ this rfl
    · obtain ⟨o, ho⟩ := gs.b2 z hz l q
      have := (h1.gh _ (List.mem_append_left _ ho)).1
      exact nl _ _ this rfl
def LoP (c : Ctx) (t : TA) (m : Md) {α : Type} (p : α → OP) (n : Nat) (S : Prop) (xs : List α) : Prop := LsO c t m p n (fun P => S ∧ P xs)
theorem lop_nil {p : α → OP} : LoP c tNil m p 0 True [] := fun P w => lo_nil P w.2
theorem lop_cons {p : α → OP} {n : Nat} {t : TA} {S1 S2 : Prop} {x : α} {xs : List α} (ha : EONP c ta p S1 x) (hr : LoP c t m p n S2 xs) (hmd : ∀ y, (p y).md = m := by intro _; rfl) (hnb : ctxNB c = true := by rfl) (hm : m ≠ .b := by decide) : LoP c (tCons ta t) m p (n + 1) (S1 ∧ S2) (x :: xs) := fun P w T nT σ H hd Q k =>
  lo_cons ha (fun _ => hr) hmd hnb hm P ⟨w.1.1, w.1.2, w.2⟩ T nT σ H hd Q k
theorem eo_lstOP {p : α → OP} {n : Nat} {t : TA} {S : Prop} {xs : List α} (h : LoP c t m p n S xs) (hn : n ≤ 1000 := by decide) : EONP c (tLst t) (oLO m p) S xs := eo_lstO h hn
/-! ### a, b = e1, e2 with new lists -/
theorem tPar_at {i j : Nat} {t1 t2 : TE} {x y : V} {H2 : Hp} (k : D.nx ((σ.set i (some x)).set j (some y)) H2) : ∃ v w, [x, y] = [v, w] ∧ D.nx ((σ.set i (some v)).set j (some w)) H2 := ⟨x, y, rfl, k⟩
theorem set_app {c : Ctx} {i : Nat} {s p : Sl} (h : i < c.length) : (c ++ [p]).set i s = c.set i s ++ [p] := List.set_append_left _ _ h
theorem setS_app {σ : Sg} {i : Nat} {s p : Option V} (h : i < σ.length) : (σ ++ [p]).set i s = σ.set i s ++ [p] := List.set_append_left _ _ h
theorem isFree_app {c : Ctx} {i : Nat} {p : Sl} (h : isFree c i = true) : i < c.length ∧ isFree (c ++ [p]) i = true := by
  unfold isFree at h ⊢
  cases e : c[i]? with
  | none => rw [e] at h; cases h
  | some s =>
    have hl := (List.getElem?_eq_some_iff.mp e).1
    rw [e] at h
    refine ⟨hl, ?_⟩
    rw [List.getElem?_append_left hl, e]; exact h
def PA2 (c : Ctx) (i j : Nat) (t1 t2 : TE) (c' : α → β → Ctx) (W : (α → β → Prop) → Prop) : Prop :=
  ∀ {F : Fm} (Post : α → β → Prop), W Post → ∀ T, NoB T → ∀ σ H, HD F c T σ H → ∀ Q : List V → Hp → Prop, (∀ a b x y H2, Post a b → HD F (c' a b) T ((σ.set i (some x)).set j (some y)) H2 → Q [x, y] H2) → tCons t1 (tCons t2 tNil) σ H Q
/-- first a value that is shared, then a new one -/
theorem pa2_WO {p : β → OP} {i j : Nat} {t1 t2 : TE} {W1 : (α → Prop) → Prop} {W2 : α → (β → Prop) → Prop} (h1 : EW c t1 m1 R W1) (h2 : ∀ a, EON c t2 p (W2 a))
    (hi : isFree c i = true := by rfl) (hj : j < c.length := by exact Nat.le_of_ble_eq_true rfl) (hm1 : m1 ≠ .b := by decide) : PA2 c i j t1 t2 (fun a b => (c.set i (.sh m1 (R.at a))).set j (.ow (p b))) (fun P => W1 fun a => W2 a fun b => P a b) :=
  fun P w T nb σ H hd Q k => h1 _ w T σ H hd _ fun a x H1 pa q1 => h2 a _ pa _ (fun t ht => (List.mem_cons.mp ht).elim (fun e => by subst e; exact hm1) (nb t)) σ H1 q1 _ fun b y H2 pb q2 => k a b x y H2 pb (by
    obtain ⟨hil, hi'⟩ := isFree_app (p := .ow (p b)) hi
    have hl : c.length = σ.length := by
      obtain ⟨A, B, q⟩ := q2
      have := q.len; simp at this; exact this
    have q3 := q2.setTop hi'
    rw [set_app hil, setS_app (by omega)] at q3
    exact q3.bring (by simpa using hj))
/-- first a new one -/
theorem pa2_OW {p : α → OP} {i j : Nat} {t1 t2 : TE} {W1 : (α → Prop) → Prop} {W2 : α → (β → Prop) → Prop} (h1 : EON c t1 p W1) (h2 : ∀ a, EW c t2 m2 Rb (W2 a))
    (hmd : ∀ y, (p y).md = m1 := by intro _; rfl) (hnb : ctxNB c = true := by rfl) (hm1 : m1 ≠ .b := by decide) (hm2 : m2 ≠ .b := by decide) (hi : i < c.length := by exact Nat.le_of_ble_eq_true rfl) (hj : isFree c j = true := by rfl) (hij : i ≠ j := by decide) : PA2 c i j t1 t2 (fun a b => (c.set i (.ow (p a))).set j (.sh m2 (Rb.at b))) (fun P => W1 fun a => W2 a fun b => P a b) :=
  fun {F} P w T nb σ H hd Q k => h1 _ w T nb σ H hd _ fun a x H1 pa q1 => by
    obtain ⟨A0, Gs, A, B, q1, g1, g2, g3, hp⟩ := q1.ghostify (by rw [hmd]; exact hm1) nb hnb
    rw [hmd] at hp
    have q2 := HD.push (m := m1) (p := accO p Gs [(A0, x)] [a]) (v := .non) q1 (Paired.cons ⟨H1, g1, hp⟩ .nil)
    refine h2 a _ pa _ σ H1 q2 _ fun b y H2 pb q3 => k a b x y H2 pb ?_
    obtain ⟨A, B, q3⟩ := q3
    have acc : Paired (fun z y => heldP (p y) Gs z (view (F.ghs Gs) A B m1 H2)) [(A0, x)] [a] := q3.hd2
    cases acc with
    | cons acc _ =>
      have hnow := acc.now fun g hg => (q3.gh g (List.mem_append_left _ hg)).1
      have q4 : HD F (c ++ [.ow (p a)]) (⟨y, m2, Rb.at b⟩ :: T) (σ ++ [some x]) H2 := by
        have q5 := HdA.unghost (p := p a) (v := x) q3 (fun a ha => by
          obtain ⟨o, z, _⟩ := g1 a ha
          exact ⟨o, z⟩) g2 g3 (by rw [hmd]; exact hnow)
        exact q5.drop2
      obtain ⟨hjl, hj'⟩ := isFree_app (p := .ow (p a)) hj
      have hl : c.length = σ.length := by have := q3.len; exact this
      have q5 := q4.setTop hj'
      rw [set_app hjl, setS_app (by omega)] at q5
      have q6 := q5.bring (i := i) (by simpa using hi)
      rw [List.set_comm _ _ hij.symm, List.set_comm _ _ hij.symm] at q6
      exact q6
theorem pa2_OO {p : α → OP} {q : β → OP} {i j : Nat} {t1 t2 : TE} {W1 : (α → Prop) → Prop} {W2 : α → (β → Prop) → Prop} (h1 : EON c t1 p W1) (h2 : ∀ a, EON c t2 q (W2 a))
    (hmd : ∀ y, (p y).md = m1 := by intro _; rfl) (hnb : ctxNB c = true := by rfl) (hm1 : m1 ≠ .b := by decide) (hmd2 : ∀ y, (q y).md = m2 := by intro _; rfl) (hm2 : m2 ≠ .b := by decide) (hi : i < c.length := by exact Nat.le_of_ble_eq_true rfl) (hj : j < c.length := by exact Nat.le_of_ble_eq_true rfl) (hij : i ≠ j := by decide) : PA2 c i j t1 t2 (fun a b => (c.set i (.ow (p a))).set j (.ow (q b))) (fun P => W1 fun a => W2 a fun b => P a b) :=
  fun {F} P w T nb σ H hd Q k => h1 _ w T nb σ H hd _ fun a x H1 pa q1 => by
    obtain ⟨A0, Gs, A, B, q1, g1, g2, g3, hp⟩ := q1.ghostify (by rw [hmd]; exact hm1) nb hnb
    rw [hmd] at hp
    have q2 := HD.push (m := m1) (p := accO p Gs [(A0, x)] [a]) (v := .non) q1 (Paired.cons ⟨H1, g1, hp⟩ .nil)
    have nb2 : NoB (⟨.non, m1, accO p Gs [(A0, x)] [a]⟩ :: T) := fun t ht => (List.mem_cons.mp ht).elim (fun e => by subst e; exact hm1) (nb t)
    refine h2 a _ pa _ nb2 σ H1 q2 _ fun b y H2 pb q3 => k a b x y H2 pb ?_
    have hl : c.length = σ.length := by
      obtain ⟨A, B, q3⟩ := q3
      have := q3.len; simp at this; exact this
    -- the second goes to its place first
    have q4 := q3.bring hj
    obtain ⟨A, B, q4⟩ := q4
    have acc : Paired (fun z y => heldP (p y) Gs z (view (F.ghs Gs) A B m1 H2)) [(A0, x)] [a] := q4.hd
    cases acc with
    | cons acc _ =>
      have hnow := acc.now fun g hg => (q4.gh g (List.mem_append_left _ hg)).1
      have q5 := HdA.unghost (p := p a) (v := x) q4.tl (fun a ha => by
        obtain ⟨o, z, _⟩ := g1 a ha
        exact ⟨o, z⟩) g2 g3 (by rw [hmd]; exact hnow)
      have q6 := q5.bring (i := i) (by simpa using hi)
      rw [List.set_comm _ _ hij.symm, List.set_comm _ _ hij.symm] at q6
      exact q6
theorem pa2_WW {i j : Nat} {t1 t2 : TE} {W1 : (α → Prop) → Prop} {W2 : α → (β → Prop) → Prop} (h1 : EW c t1 m1 R W1) (h2 : ∀ a, EW c t2 m2 Rb (W2 a))
    (hi : isFree c i = true := by rfl) (hj : ∀ a, isFree (c.set i (.sh m1 (R.at a))) j = true := by intro _; rfl) : PA2 c i j t1 t2 (fun a b => (c.set i (.sh m1 (R.at a))).set j (.sh m2 (Rb.at b))) (fun P => W1 fun a => W2 a fun b => P a b) :=
  fun {F} P w T nb σ H hd Q k => h1 _ w T σ H hd _ fun a x H1 pa q1 => h2 a _ pa _ σ H1 q1 _ fun b y H2 pb q2 => k a b x y H2 pb (by
    have q3 : HD F c (⟨x, m1, R.at a⟩ :: ⟨y, m2, Rb.at b⟩ :: T) σ H2 := q2.sub fun t ht => by
      simp only [List.mem_cons] at ht ⊢
      rcases ht with z | z | z
      · exact .inr (.inl z)
      · exact .inl z
      · exact .inr (.inr z)
    exact (q3.setTop hi).setTop (hj a))
theorem sw_par2 {i j : Nat} {t1 t2 : TE} {c' : α → β → Ctx} {W : (α → β → Prop) → Prop} {Wr : α → β → Prop} (h : PA2 c i j t1 t2 c' W) (k : ∀ a b, SW F (c' a b) T tr D (Wr a b)) : SW F c T (tSeq (tPar i j (tCons t1 (tCons t2 tNil))) tr) D (W Wr) :=
  fun nb w σ H hd => h Wr w T nb σ H hd (fun vs H1 => ∃ v w, vs = [v, w] ∧ tr D ((σ.set i (some v)).set j (some w)) H1) fun a b x y H2 pb q => ⟨x, y, rfl, k a b nb pb _ H2 q⟩
/-- .. where a name is a cell: by a pair -/
theorem sw_tup2 {i j : Nat} {t1 t2 : TE} {c' : α → β → Ctx} {W : (α → β → Prop) → Prop} {Wr : α → β → Prop} (h : PA2 c i j t1 t2 c' W) (k : ∀ a b, SW F (c' a b) T tr D (Wr a b)) : SW F c T (tSeq (tAsg (tTup (tCons t1 (tCons t2 tNil))) (gTup K 2 (gCons (gName i) (gCons (gName j) gNil)))) tr) D (W Wr) :=
  fun nb w σ H hd => h Wr w T nb σ H hd (fun vs H1 => vs.length ≤ sizeLine ∧ ∀ p, H1 p = none → gTup K 2 (gCons (gName i) (gCons (gName j) gNil)) (.ref p) σ (upd H1 p (.tup vs)) (tr D)) fun a b x y H2 pb ⟨A, B, q⟩ => ⟨(by show 2 ≤ sizeLine; decide), fun l hl => ⟨l, [x, y], rfl, SqT.of upd_same, rfl, x, [y], rfl, y, [], rfl, rfl, k a b nb pb _ _ ⟨A, B, q.alloc hl⟩⟩⟩
end
end TW

set_option maxRecDepth 100000
set_option maxHeartbeats 2000000
namespace TW
open PySem PySem.Spec PyProof.Rows L2
/-! ## 18. sequences -/
@[irreducible] def cutL {α : Type} (xs : List α) (lo hi : Option Int) : List α := (xs.drop (HT.sIx xs.length 0 lo)).take (HT.sIx xs.length xs.length hi - HT.sIx xs.length 0 lo)
def PO' (c : Ctx) (tl : TO) (S : Prop) (o : Option Int) : Prop := ∀ {F : Fm}, S → ∀ T σ H, HD F c T σ H → ∀ Q : Option Int → Hp → Prop, (∀ H', HD F c T σ H' → Q o H') → tl σ H Q
section
variable {F : Fm} {c : Ctx} {T : List Tm} {σ : Sg} {H : Hp} {A : Nat → List Addr} {B : List Addr} {D : Ends} {α β γ ι τ : Type} {R : Rp α} {Rb : Rp β} {Rc : Rp γ} {m m1 m2 m3 : Md} {te ta tb tc to ti td : TE} {tt tu : TT} {tr : TS} {K : PySem.W.Frag}
theorem po_no : PO' c tNoPart True none := fun _ T σ H hd Q k => k H hd
theorem po_at {S : Prop} {i : Int} (h : EP c te m rInt S i) : PO' c (tPart te) S (some i) := fun s T σ H hd Q k => h s T σ H hd _ fun v H' ⟨A, B, q⟩ => ⟨i, q.hd, k H' ⟨A, B, q.tl⟩⟩
theorem cutV_len {vs : List V} {xs : List α} {G : V → α → Prop} (h : Paired G vs xs) (lo hi : Option Int) : Paired G (cutV vs lo hi) (cutL xs lo hi) := by
  unfold cutV cutL
  rw [h.length]
  exact paired_take _ (paired_dropN _ h)
theorem cutL_all (xs : List α) {lo hi : Option Int} (h : HT.sIx xs.length 0 lo = 0 ∧ HT.sIx xs.length xs.length hi = xs.length) : cutL xs lo hi = xs := by
  unfold cutL
  rw [h.1, h.2]
  simp
theorem ep_slT {tl th : TO} {S Sl Sh : Prop} {xs : List α} {lo hi : Option Int} (h : EP c te m (rTup K R) S xs) (hl : PO' c tl Sl lo) (hh : PO' c th Sh hi) : EP c (tSl (rSlA K) te tl th) m (rTup K R) (S ∧ Sl ∧ Sh) (cutL xs lo hi) := fun s T σ H hd Q k =>
  h s.1 T σ H hd _ fun v H1 h1 => hl s.2.1 _ σ H1 h1 _ fun H2 h2 => hh s.2.2 _ σ H2 h2 _ fun H3 ⟨A, B, h3⟩ => by
    obtain ⟨l, vs, e, q1, q2⟩ := (show (rTup K R).r (view _ A B m H3) v xs from h3.hd)
    refine ⟨l, vs, e, SqT.ext view_full q1, fun w => k _ _ (HD.push h3.tl (p := (rTup K R).at _) ⟨l, vs, rfl, q1, ?_⟩), fun _ p hp => k _ _ (h3.tl.newTup (p := (rTup K R).at (cutL xs lo hi)) hp fun H4 e hs => ⟨p, _, rfl, hs, Paired.mono (fun _ _ z => R.mono e z) (cutV_len q2 lo hi)⟩)⟩
    rw [q2.length] at w
    rw [cutL_all xs w]
    exact q2
theorem eo_slL {tl th : TO} {S Sl Sh : Prop} {xs : List α} {lo hi : Option Int} (h : EP c te m (rList R) S xs) (hl : PO' c tl Sl lo) (hh : PO' c th Sh hi) : EOP c (tSl (rSlL K) te tl th) (oList m R) (S ∧ Sl ∧ Sh) (cutL xs lo hi) := fun P w T σ H hd Q k =>
  h w.1.1 T σ H hd _ fun v H1 h1 => hl w.1.2.1 _ σ H1 h1 _ fun H2 h2 => hh w.1.2.2 _ σ H2 h2 _ fun H3 ⟨A, B, h3⟩ => by
    obtain ⟨l, vs, e, q1, q2⟩ := (show (rList R).r (view _ A B m H3) v xs from h3.hd)
    exact ⟨l, vs, e, SqL.of (view_full _ _ q1), fun p hp => k _ _ _ w.2 (h3.tl.allocO hp (cutV_len q2 lo hi))⟩
theorem eo_slLi [Im R] {tl th : TO} {S Sl Sh : Prop} {xs : List α} {lo hi : Option Int} (h : EP c te m (rList R) S xs) (hl : PO' c tl Sl lo) (hh : PO' c th Sh hi) : EOP c (tSl (rSlL K) te tl th) (oList .n R) (S ∧ Sl ∧ Sh) (cutL xs lo hi) := fun P w T σ H hd Q k =>
  h w.1.1 T σ H hd _ fun v H1 h1 => hl w.1.2.1 _ σ H1 h1 _ fun H2 h2 => hh w.1.2.2 _ σ H2 h2 _ fun H3 ⟨A, B, h3⟩ => by
    obtain ⟨l, vs, e, q1, q2⟩ := (show (rList R).r (view _ A B m H3) v xs from h3.hd)
    exact ⟨l, vs, e, SqL.of (view_full _ _ q1), fun p hp => k _ _ _ w.2 (h3.tl.allocO hp (h3.imAll (cutV_len q2 lo hi)))⟩
/-- t + u -/
theorem o2_catT : O2 c (rCatA K) m (rTup K R) m (rTup K R) m (rTup K R) (fun a b => a.length + b.length ≤ sizeLine) (fun a b => a ++ b) := fun a b s T σ H x y ⟨A, B, h⟩ Q k => by
  obtain ⟨l, vs, e, q1, q2⟩ := (show (rTup K R).r (view _ A B m H) x a from h.hd2)
  obtain ⟨l', vs', e', q1', q2'⟩ := (show (rTup K R).r (view _ A B m H) y b from h.hd)
  refine ⟨l, l', vs, vs', e, e', SqT.ext view_full q1, SqT.ext view_full q1', by rw [q2.length, q2'.length]; exact s, fun z => k _ _ (HD.push h.tl.tl (p := (rTup K R).at _) ⟨l', vs', rfl, q1', ?_⟩), fun _ z => k _ _ (HD.push h.tl.tl (p := (rTup K R).at _) ⟨l, vs, rfl, q1, ?_⟩), fun _ _ p hp => k _ _ (h.tl.tl.newTup (p := (rTup K R).at (a ++ b)) hp fun H4 e hs => ⟨p, _, rfl, hs, Paired.mono (fun _ _ z => R.mono e z) (paired_app q2 q2')⟩)⟩
  · subst z
    cases q2
    exact q2'
  · subst z
    cases q2'
    show Paired _ _ (a ++ [])
    rw [List.append_nil]
    exact q2
/-- xs + ys -/
theorem eo_cat {Wa : (List α → Prop) → Prop} {Wb : List α → (List α → Prop) → Prop} (ha : EW c ta m (rList R) Wa) (hb : ∀ a, EW c tb m (rList R) (Wb a)) : EO c (tOp rCat ta tb) (oList m R) (fun P => Wa fun a => Wb a fun b => a.length + b.length ≤ sizeLine ∧ P (a ++ b)) := fun P w T σ H hd Q k =>
  ha _ w T σ H hd _ fun a x H1 pa h1 => hb a _ pa _ σ H1 h1 _ fun b y H2 pb ⟨A, B, h⟩ => by
    obtain ⟨l, vs, e, q1, q2⟩ := (show (rList R).r (view _ A B m H2) x a from h.hd2)
    obtain ⟨l', vs', e', q1', q2'⟩ := (show (rList R).r (view _ A B m H2) y b from h.hd)
    exact ⟨l, l', vs, vs', e, e', view_full _ _ q1, view_full _ _ q1', by rw [q2.length, q2'.length]; exact pb.1, fun p hp => k _ _ _ pb.2 (h.tl.tl.allocO hp (paired_app q2 q2'))⟩
theorem eo_cati [Im R] {Wa : (List α → Prop) → Prop} {Wb : List α → (List α → Prop) → Prop} (ha : EW c ta m1 (rList R) Wa) (hb : ∀ a, EW c tb m2 (rList R) (Wb a)) : EO c (tOp rCat ta tb) (oList .n R) (fun P => Wa fun a => Wb a fun b => a.length + b.length ≤ sizeLine ∧ P (a ++ b)) := fun P w T σ H hd Q k =>
  ha _ w T σ H hd _ fun a x H1 pa h1 => hb a _ pa _ σ H1 h1 _ fun b y H2 pb ⟨A, B, h⟩ => by
    obtain ⟨l, vs, e, q1, q2⟩ := (show (rList R).r (view _ A B m1 H2) x a from h.hd2)
    obtain ⟨l', vs', e', q1', q2'⟩ := (show (rList R).r (view _ A B m2 H2) y b from h.hd)
    exact ⟨l, l', vs, vs', e, e', view_full _ _ q1, view_full _ _ q1', by rw [q2.length, q2'.length]; exact pb.1, fun p hp => k _ _ _ pb.2 (h.tl.tl.allocO hp (paired_app (h.imAll q2) (h.imAll q2')))⟩
theorem eo_catP {Sa Sb : Prop} {a b : List α} (ha : EP c ta m (rList R) Sa a) (hb : EP c tb m (rList R) Sb b) : EOP c (tOp rCat ta tb) (oList m R) (Sa ∧ Sb ∧ a.length + b.length ≤ sizeLine) (a ++ b) := fun P w T σ H hd Q k =>
  eo_cat ha.w (fun _ => hb.w) P ⟨w.1.1, w.1.2.1, w.1.2.2, w.2⟩ T σ H hd Q k
theorem eo_catiP [Im R] {Sa Sb : Prop} {a b : List α} (ha : EP c ta m1 (rList R) Sa a) (hb : EP c tb m2 (rList R) Sb b) : EOP c (tOp rCat ta tb) (oList .n R) (Sa ∧ Sb ∧ a.length + b.length ≤ sizeLine) (a ++ b) := fun P w T σ H hd Q k =>
  eo_cati ha.w (fun _ => hb.w) P ⟨w.1.1, w.1.2.1, w.1.2.2, w.2⟩ T σ H hd Q k
/-- xs * k -/
theorem paired_rep {G : V → α → Prop} {vs : List V} {xs : List α} (h : Paired G vs xs) : ∀ n : Nat, Paired G (List.replicate n vs).flatten (List.replicate n xs).flatten
  | 0 => .nil
  | n + 1 => by
    rw [List.replicate_succ, List.replicate_succ, List.flatten_cons, List.flatten_cons]
    exact paired_app h (paired_rep h n)
@[irreducible] def repL {α : Type} (xs : List α) (k : Int) : List α := (List.replicate k.toNat xs).flatten
theorem eo_rep {Wa : (List α → Prop) → Prop} {Wb : List α → (Int → Prop) → Prop} (ha : EW c ta m (rList R) Wa) (hb : ∀ a, EW c tb m2 rInt (Wb a)) : EO c (tOp rRep ta tb) (oList m R) (fun P => Wa fun a => Wb a fun k => (-(2 ^ 63) ≤ k ∧ k < 2 ^ 63 ∧ a.length * k.toNat ≤ sizeLine) ∧ P (repL a k)) := fun P w T σ H hd Q k =>
  ha _ w T σ H hd _ fun a x H1 pa h1 => hb a _ pa _ σ H1 h1 _ fun b y H2 pb ⟨A, B, h⟩ => by
    obtain ⟨l, vs, e, q1, q2⟩ := (show (rList R).r (view _ A B m H2) x a from h.hd2)
    exact ⟨l, b, vs, e, h.hd, view_full _ _ q1, pb.1.1, pb.1.2.1, by rw [q2.length]; exact pb.1.2.2, fun p hp => k _ _ _ pb.2 (h.tl.tl.allocO hp (by unfold repL; exact paired_rep q2 _))⟩
theorem eo_repP {Sa Sb : Prop} {a : List α} {k : Int} (ha : EP c ta m (rList R) Sa a) (hb : EP c tb m2 rInt Sb k) : EOP c (tOp rRep ta tb) (oList m R) (Sa ∧ Sb ∧ -(2 ^ 63) ≤ k ∧ k < 2 ^ 63 ∧ a.length * k.toNat ≤ sizeLine) (repL a k) := fun P w T σ H hd Q kk =>
  eo_rep ha.w (fun _ => hb.w) P ⟨w.1.1, w.1.2.1, w.1.2.2, w.2⟩ T σ H hd Q kk
/-- tuple(xs) -/
theorem ew_tupleL {W : (List α → Prop) → Prop} (h : EW c te m (rList R) W) : EW c (tThen te (kTup K)) m (rTup K R) W := fun P w T σ H hd Q k => h P w T σ H hd _ fun xs v H' px ⟨A, B, q⟩ => by
  obtain ⟨l, vs, e, h1, h2⟩ := (show (rList R).r (view _ A B m H') v xs from q.hd)
  exact .inl ⟨l, vs, e, SqL.of (view_full _ _ h1), fun p hp => k _ _ _ px (q.tl.newTup (p := (rTup K R).at xs) hp fun H4 e hs => ⟨p, _, rfl, hs, Paired.mono (fun _ _ z => R.mono e z) h2⟩)⟩
theorem ep_tupleL {S : Prop} {xs : List α} (h : EP c te m (rList R) S xs) : EP c (tThen te (kTup K)) m (rTup K R) S xs := ew_pure (ew_tupleL h.w)
theorem ew_tupleT {W : (List α → Prop) → Prop} (h : EW c te m (rTup K R) W) : EW c (tThen te (kTup K)) m (rTup K R) W := fun P w T σ H hd Q k => h P w T σ H hd _ fun xs v H' px ⟨A, B, q⟩ => by
  obtain ⟨l, vs, e, h1, h2⟩ := (show (rTup K R).r (view _ A B m H') v xs from q.hd)
  exact .inr ⟨l, vs, e, SqT.ext view_full h1, k _ _ _ px ⟨A, B, by rw [← e]; exact q⟩⟩
theorem ep_tupleT {S : Prop} {xs : List α} (h : EP c te m (rTup K R) S xs) : EP c (tThen te (kTup K)) m (rTup K R) S xs := ew_pure (ew_tupleT h.w)
/-- list(range(..)), tuple(range(..)) -/
def PRg' (c : Ctx) (tg : Sg → Hp → (Int → Int → Hp → Prop) → Prop) (S : Prop) (a b : Int) : Prop := ∀ {F : Fm}, S → ∀ T σ H, HD F c T σ H → ∀ Q : Int → Int → Hp → Prop, (∀ H', HD F c T σ H' → Q a b H') → tg σ H Q
theorem prg1 {S : Prop} {n : Int} (h : EP c te m rInt S n) : PRg' c (tRg1 te) S 0 n := fun s T σ H hd Q k => h s T σ H hd _ fun v H' ⟨A, B, q⟩ => ⟨n, q.hd, k H' ⟨A, B, q.tl⟩⟩
theorem prg2 {S1 S2 : Prop} {a b : Int} (h1 : EP c ta m1 rInt S1 a) (h2 : EP c tb m2 rInt S2 b) : PRg' c (tRg2 ta tb) (S1 ∧ S2) a b := fun s T σ H hd Q k => h1 s.1 T σ H hd _ fun v H1 q1 => h2 s.2 _ σ H1 q1 _ fun w H2 ⟨A, B, q⟩ => ⟨a, b, q.hd2, q.hd, k H2 ⟨A, B, q.tl.tl⟩⟩
theorem rgV_eq (a b : Int) : rgV a b = (rng a b).map V.int := by unfold rgV rng; simp
theorem eo_listRg {tg : Sg → Hp → (Int → Int → Hp → Prop) → Prop} {S : Prop} {a b : Int} (h : PRg' c tg S a b) : EOP c (tLstRg tg) (oList .n rInt) (S ∧ RgOk a b) (rng a b) := fun P w T σ H hd Q k => h w.1.1 T σ H hd _ fun H1 ⟨A, B, h1⟩ => ⟨w.1.2, fun q hq => by
  rw [rgV_eq]
  exact k _ _ _ w.2 (h1.allocO hq (of_ints _))⟩
theorem ep_tupRg {tg : Sg → Hp → (Int → Int → Hp → Prop) → Prop} {S : Prop} {a b : Int} (h : PRg' c tg S a b) : EP c (tTupRg tg) .n (rTup K rInt) (S ∧ RgOk a b) (rng a b) := fun w T σ H hd Q k => h w.1 T σ H hd _ fun H1 ⟨A, B, h1⟩ => ⟨w.2, fun q hq => by
  rw [rgV_eq]
  exact k _ _ (h1.newTup (p := (rTup K rInt).at _) hq fun H4 e hs => ⟨q, _, rfl, hs, of_ints _⟩)⟩
/-- sum -/
theorem ob_sumL {xs : List Int} : OB c (rSum K) [(m, (rList rInt).at xs)] .n rInt True xs.sum := fun _ T σ H vs e hd Q k => by
  obtain ⟨v, rfl, A, B, h⟩ := zip1 e hd
  obtain ⟨l, us, e, h1, h2⟩ := (show (rList rInt).r (view _ A B m H) v xs from h.hd)
  exact ⟨l, xs, by rw [e], SqL.of (by rw [← ints_of h2]; exact view_full _ _ h1), k _ H (HD.push h.tl (p := rInt.at _) rfl)⟩
/-- any, all -/
theorem bools_of {H : Hp} : ∀ {vs : List V} {xs : List Bool}, Paired (rBool.r H) vs xs → vs = xs.map V.bl
  | _, _, .nil => rfl
  | _, _, .cons h t => by rw [List.map_cons, ← bools_of t, show _ = _ from h]
theorem ob_anyL {xs : List Bool} : OB c (rAny K) [(m, (rList rBool).at xs)] .n rBool True (xs.any id) := fun _ T σ H vs e hd Q k => by
  obtain ⟨v, rfl, A, B, h⟩ := zip1 e hd
  obtain ⟨l, us, e, h1, h2⟩ := (show (rList rBool).r (view _ A B m H) v xs from h.hd)
  exact ⟨l, xs, by rw [e], SqL.of (by rw [← bools_of h2]; exact view_full _ _ h1), k _ H (HD.push h.tl (p := rBool.at _) rfl)⟩
theorem ob_allL {xs : List Bool} : OB c (rAll K) [(m, (rList rBool).at xs)] .n rBool True (xs.all id) := fun _ T σ H vs e hd Q k => by
  obtain ⟨v, rfl, A, B, h⟩ := zip1 e hd
  obtain ⟨l, us, e, h1, h2⟩ := (show (rList rBool).r (view _ A B m H) v xs from h.hd)
  exact ⟨l, xs, by rw [e], SqL.of (by rw [← bools_of h2]; exact view_full _ _ h1), k _ H (HD.push h.tl (p := rBool.at _) rfl)⟩
/-- in, not in -/
theorem any_d [DecidableEq α] [Dt K R] (x : α) : ∀ xs : List α, ((xs.map (Dt.d K R)).any fun z => PyData.eqv z (Dt.d K R x)) = decide (x ∈ xs)
  | [] => by simp
  | y :: ys => by
    rw [List.map_cons, List.any_cons, any_d x ys]
    rw [Bool.eq_iff_iff]
    simp only [Bool.or_eq_true, Dt.inj, decide_eq_true_eq, List.mem_cons]
    constructor
    · rintro (h | h)
      · exact .inl h.symm
      · exact .inr h
    · rintro (h | h)
      · exact .inl h.symm
      · exact .inr h
theorem shaped_L [Dt K R] (hd : Dt.dep K R ≤ 60) (xs : List α) : SeqAt.shaped (.list (xs.map (Dt.d K R))) = true := shaped_d (K := K) (R := rList R) (by show Dt.dep K R + 1 ≤ 64; omega) xs
theorem shaped_T [Dt K R] (hd : Dt.dep K R ≤ 60) (xs : List α) : SeqAt.shaped (.tuple (xs.map (Dt.d K R))) = true := shaped_d (K := K) (R := rTup K R) (by show Dt.dep K R + 1 ≤ 64; omega) xs
theorem o2_inL [DecidableEq α] [Dt K R] (hd : Dt.dep K R ≤ 60) : O2 c (rInD K) m1 R m2 (rList R) .n rBool (fun _ _ => True) (fun a b => decide (a ∈ b)) := fun a b _ T σ H x y ⟨A, B, h⟩ Q k =>
  ⟨Dt.d K R a, b.map (Dt.d K R), view_sq view_full (Dt.ok h.hd2), view_sq view_full (Dt.ok (K := K) (R := rList R) h.hd), shaped_d (by omega) a, shaped_L hd b, k _ H (HD.push h.tl.tl (p := rBool.at (decide (a ∈ b))) (by
    show V.bl _ = V.bl _
    rw [any_d]))⟩
theorem o2_notInL [DecidableEq α] [Dt K R] (hd : Dt.dep K R ≤ 60) : O2 c (rNotInD K) m1 R m2 (rList R) .n rBool (fun _ _ => True) (fun a b => !decide (a ∈ b)) := fun a b _ T σ H x y ⟨A, B, h⟩ Q k =>
  ⟨Dt.d K R a, b.map (Dt.d K R), view_sq view_full (Dt.ok h.hd2), view_sq view_full (Dt.ok (K := K) (R := rList R) h.hd), shaped_d (by omega) a, shaped_L hd b, k _ H (HD.push h.tl.tl (p := rBool.at (!decide (a ∈ b))) (by
    show V.bl _ = V.bl _
    rw [any_d]))⟩
theorem o2_inT [DecidableEq α] [Dt K R] (hd : Dt.dep K R ≤ 60) : O2 c (rInTD K false) m1 R m2 (rTup K R) .n rBool (fun _ _ => True) (fun a b => decide (a ∈ b)) := fun a b _ T σ H x y ⟨A, B, h⟩ Q k =>
  ⟨Dt.d K R a, b.map (Dt.d K R), view_sq view_full (Dt.ok h.hd2), view_sq view_full (Dt.ok (K := K) (R := rTup K R) h.hd), shaped_d (by omega) a, shaped_T hd b, k _ H (HD.push h.tl.tl (p := rBool.at (decide (a ∈ b))) (by
    show V.bl _ = V.bl _
    rw [any_d] <;> rfl))⟩
theorem o2_notInT [DecidableEq α] [Dt K R] (hd : Dt.dep K R ≤ 60) : O2 c (rInTD K true) m1 R m2 (rTup K R) .n rBool (fun _ _ => True) (fun a b => !decide (a ∈ b)) := fun a b _ T σ H x y ⟨A, B, h⟩ Q k =>
  ⟨Dt.d K R a, b.map (Dt.d K R), view_sq view_full (Dt.ok h.hd2), view_sq view_full (Dt.ok (K := K) (R := rTup K R) h.hd), shaped_d (by omega) a, shaped_T hd b, k _ H (HD.push h.tl.tl (p := rBool.at (!decide (a ∈ b))) (by
    show V.bl _ = V.bl _
    rw [any_d] <;> rfl))⟩
/-! ### dicts with ints as keys -/
abbrev DK (α : Type) := List (Int × α)
def dV {α : Type} (kvs : DK α) (k : Int) : Option α := (kvs.find? fun p => decide (p.1 = k)).map (·.2)
def dPut {α : Type} (kvs : DK α) (k : Int) (v : α) : DK α := if (kvs.any fun p => decide (p.1 = k)) = true then kvs.map (fun p => if p.1 = k then (p.1, v) else p) else kvs ++ [(k, v)]
def pKV (R : Rp α) (V0 : Hp) (p : Key × V) (q : Int × α) : Prop := p.1 = .inl q.1 ∧ R.r V0 p.2 q.2
theorem pKV.find {V0 : Hp} {k : Int} : ∀ {ks : List (Key × V)} {kvs : DK α}, Paired (pKV R V0) ks kvs → (dV kvs k = none ∧ valV ks (.inl k) = none) ∨ ∃ v x, dV kvs k = some x ∧ valV ks (.inl k) = some v ∧ R.r V0 v x
  | _, _, .nil => .inl ⟨rfl, rfl⟩
  | p :: ks, q :: kvs, .cons h t => by
    by_cases e : q.1 = k
    · refine .inr ⟨p.2, q.2, ?_, ?_, h.2⟩
      · simp [dV, e]
      · exact valV_pos (by rw [h.1, e])
    · rcases pKV.find (k := k) t with ⟨h1, h2⟩ | ⟨v, x, h1, h2, h3⟩
      · refine .inl ⟨?_, ?_⟩
        · unfold dV at h1 ⊢; rw [List.find?_cons_of_neg (by simpa using e)]; exact h1
        · rw [valV_neg (by rw [h.1]; intro z; cases z; exact e rfl)]; exact h2
      · refine .inr ⟨v, x, ?_, ?_, h3⟩
        · unfold dV at h1 ⊢; rw [List.find?_cons_of_neg (by simpa using e)]; exact h1
        · rw [valV_neg (by rw [h.1]; intro z; cases z; exact e rfl)]; exact h2
theorem pKV.any {V0 : Hp} {k : Int} : ∀ {ks : List (Key × V)} {kvs : DK α}, Paired (pKV R V0) ks kvs → (ks.any fun p => decide (p.1 = .inl k)) = kvs.any fun p => decide (p.1 = k)
  | _, _, .nil => rfl
  | p :: ks, q :: kvs, .cons h t => by
    rw [List.any_cons, List.any_cons, pKV.any t, h.1]
    congr 1
    rw [Bool.eq_iff_iff]; simp
theorem pKV.mp {V0 : Hp} {k : Int} {v : V} {x : α} (hv : R.r V0 v x) : ∀ {ks : List (Key × V)} {kvs : DK α}, Paired (pKV R V0) ks kvs → Paired (pKV R V0) (ks.map fun p => if p.1 = .inl k then (p.1, v) else p) (kvs.map fun p => if p.1 = k then (p.1, x) else p)
  | _, _, .nil => .nil
  | p :: ks, q :: kvs, .cons h t => by
    refine .cons ?_ (pKV.mp hv t)
    dsimp only
    by_cases e : q.1 = k
    · rw [if_pos e, if_pos (by rw [h.1, e])]; exact ⟨h.1, hv⟩
    · rw [if_neg e, if_neg (by rw [h.1]; intro z; cases z; exact e rfl)]; exact h
theorem pKV.put {V0 : Hp} {k : Int} {v : V} {x : α} {ks : List (Key × V)} {kvs : DK α} (h : Paired (pKV R V0) ks kvs) (hv : R.r V0 v x) : Paired (pKV R V0) (putK ks (.inl k) v) (dPut kvs k x) := by
  unfold putK dPut
  rw [pKV.any h]
  split
  · exact pKV.mp hv h
  · exact Paired.snoc h ⟨rfl, hv⟩
def rDI (R : Rp α) : Rp (DK α) := ⟨fun H v kvs => ∃ l ks, v = .ref l ∧ H l = some (.dK ks) ∧ Paired (pKV R H) ks kvs, fun e ⟨l, ks, h1, h2, h3⟩ => ⟨l, ks, h1, e.ap _ _ h2, Paired.mono (fun _ _ q => ⟨q.1, R.monoT e q.2⟩) h3⟩⟩
def oDI (m : Md) (R : Rp α) (kvs : DK α) : OP where
  md := m
  P := fun A H V0 v => ∃ l ks, A = [l] ∧ v = .ref l ∧ H l = some (.dK ks) ∧ Paired (pKV R V0) ks kvs
  frameT := fun e1 e2 ⟨l, ks, h1, h2, h3, h4⟩ => ⟨l, ks, h1, h2, by rw [e1 l (by rw [h1]; simp)]; exact h3, Paired.mono (fun _ _ q => ⟨q.1, R.monoT e2 q.2⟩) h4⟩
  obj := fun ⟨l, ks, h1, h2, h3, h4⟩ a ha => by
    rw [h1] at ha; simp at ha; subst ha
    exact ⟨_, h3, trivial⟩
instance : OwR (oDI m R) m (rDI R) := ⟨fun _ => rfl, fun {A H V0 v x V} ⟨l, ks, h1, h2, h3, h4⟩ e1 e2 => ⟨l, ks, h2, e1 l (by rw [h1]; simp) _ h3, Paired.mono (fun _ _ q => ⟨q.1, R.mono e2 q.2⟩) h4⟩⟩
/-- any new owned object -/
theorem HdA.allocG {p : OP} {l : Addr} {o : HO} (h : HdA F c T σ H A B) (hl : H l = none) (ho : notTup o) (hp : ∀ H1 : Hp, H1 l = some o → p.P [l] H1 (view F A B p.md H) (.ref l)) : HD F (c ++ [.ow p]) T (σ ++ [some (.ref l)]) (upd H l o) := by
  have h2 := h.under hl ho
  obtain ⟨h3, ev⟩ := h2.regho (F' := F.ghs [(l, o)]) rfl rfl (fun p => by simp)
  refine HdA.unghost (A0 := [l]) h3 (fun a ha => by simp at ha; subst ha; exact ⟨o, by simp⟩) (fun g hg => by simp at hg; subst hg; simp) (fun a ha => ?_) ?_
  · simp at ha
    subst ha
    exact fun ⟨w, z⟩ => by
      have := (h.gh _ z).1
      rw [show H a = none from hl] at this; cases this
  · refine OP.frame p (fun _ _ => rfl) ?_ (hp (upd H l o) upd_same)
    rw [ev]
    exact HdA.view_gho hl (Ext.new hl)
theorem eo_dnewI : EOP c tDNewK (oDI m R) True [] := fun P w T σ H ⟨A, B, hd⟩ Q k => fun p hp => k _ _ _ w.2 (hd.allocG hp trivial fun H1 e => ⟨p, [], rfl, rfl, e, .nil⟩)
theorem ep_din {Sk Sd : Prop} {kvs : DK α} {k : Int} (hk : EP c te m1 rInt Sk k) (hd : EP c td m (rDI R) Sd kvs) : EP c (tDIn te td) .n rBool (Sk ∧ Sd) (dV kvs k).isSome := fun s T σ H h Q kk => hk s.1 T σ H h _ fun y H1 h1 => hd s.2 _ σ H1 h1 _ fun x H2 ⟨A, B, h2⟩ => by
  obtain ⟨l, ks, e, q1, q2⟩ := (show (rDI R).r (view _ A B m H2) x kvs from h2.hd)
  have ek : y = kV (.inl k) := h2.hd2
  refine ⟨l, valV ks (.inl k), e, by rw [ek]; exact DGet.k (view_full _ _ q1), kk _ _ (HD.push h2.tl.tl (p := rBool.at _) ?_)⟩
  show V.bl _ = V.bl _
  rcases pKV.find (k := k) q2 with ⟨a, b⟩ | ⟨v, x, a, b, _⟩
  · rw [a, b]; rfl
  · rw [a, b]; rfl
theorem ep_dnotin {Sk Sd : Prop} {kvs : DK α} {k : Int} (hk : EP c te m1 rInt Sk k) (hd : EP c td m (rDI R) Sd kvs) : EP c (tDNotIn te td) .n rBool (Sk ∧ Sd) (!(dV kvs k).isSome) := fun s T σ H h Q kk => hk s.1 T σ H h _ fun y H1 h1 => hd s.2 _ σ H1 h1 _ fun x H2 ⟨A, B, h2⟩ => by
  obtain ⟨l, ks, e, q1, q2⟩ := (show (rDI R).r (view _ A B m H2) x kvs from h2.hd)
  have ek : y = kV (.inl k) := h2.hd2
  refine ⟨l, valV ks (.inl k), e, by rw [ek]; exact DGet.k (view_full _ _ q1), kk _ _ (HD.push h2.tl.tl (p := rBool.at _) ?_)⟩
  show V.bl _ = V.bl _
  rcases pKV.find (k := k) q2 with ⟨a, b⟩ | ⟨v, x, a, b, _⟩
  · rw [a, b]; rfl
  · rw [a, b]; rfl
def dG {α : Type} [Inhabited α] (kvs : DK α) (k : Int) : α := (dV kvs k).getD default
theorem ep_dget [Inhabited α] {Sk Sd : Prop} {kvs : DK α} {k : Int} (hd : EP c td m (rDI R) Sd kvs) (hk : EP c te m1 rInt Sk k) : EP c (tDGet td te) m R (Sd ∧ Sk ∧ (dV kvs k).isSome = true) (dG kvs k) := fun s T σ H h Q kk => hd s.1 T σ H h _ fun x H1 h1 => hk s.2.1 _ σ H1 h1 _ fun y H2 ⟨A, B, h2⟩ => by
  obtain ⟨l, ks, e, q1, q2⟩ := (show (rDI R).r (view _ A B m H2) x kvs from h2.hd2)
  have ek : y = kV (.inl k) := h2.hd
  rcases pKV.find (k := k) q2 with ⟨a, b⟩ | ⟨v, z, a, b, r⟩
  · rw [a] at s; exact absurd s.2.2 (by simp)
  · refine ⟨l, v, e, by rw [ek, ← b]; exact DGet.k (view_full _ _ q1), kk _ _ (HD.push h2.tl.tl (p := R.at _) ?_)⟩
    unfold dG
    rw [a]
    exact r
theorem sw_dput {i : Nat} {S : Prop} {kvs : DK α} {up : DK α → OP} {We : (α → Prop) → Prop} {Wk : (Int → Prop) → Prop} {Wr : α → Int → DK α → Prop} (he : EW c te m R We) (lv : LV c to i S m (oDI m R) kvs up) (hk : EW c ti m2 rInt Wk) (k : ∀ x j v, SW F (c.set i (.ow (up v))) T tr D (Wr x j v)) (hnb : ctxNB c = true := by rfl) (hm : m ≠ .b := by decide) :
    SW F c T (tSeq (sDPut to ti te) tr) D (We fun x => S ∧ Wk fun j => kvs.length < sizeLine ∧ ∀ v, v = dPut kvs j x → Wr x j v) := fun nT w σ H hd => he _ w T σ H hd _ fun x y H1 px h1 => lv.ev _ σ H1 px.1 h1 _ fun v X H2 h2 inv => by
  refine hk _ px.2 _ σ H2 h2 _ fun j z H3 pj ⟨A, B, h3⟩ => ?_
  obtain ⟨A', hA', ⟨l, ks, ea, ev, hH, hp⟩, upd'⟩ := inv A B _ H3 (fun t ht => List.mem_cons_of_mem _ (List.mem_append_left _ ht)) h3
  have hy : R.r (view F A B m H3) y x := h3.tm ⟨y, m, R.at x⟩ (by simp)
  have ez : z = kV (.inl j) := h3.hd
  refine ⟨l, _, ev, by rw [ez]; exact DPut.k hH (by rw [hp.length]; exact pj.1), ?_⟩
  refine k x j _ nT (pj.2 _ rfl) _ _ ⟨A, B, HdA.mutate (h3.sub fun t ht => by simp [ht]) nT hnb (lv.hi px.1) hA' (fun a ha => upd_ne fun z => ha (by rw [ea, z]; simp)) fun hv w hw => ?_⟩
  rw [lv.mu]
  exact upd' _ _ _ (fun a ha => upd_ne fun z => ha (by rw [ea, z]; simp)) (hv m hm) ⟨l, _, ea, ev, upd_same, Paired.mono (fun _ _ q => ⟨q.1, R.mono (hv m hm) q.2⟩) (pKV.put hp hy)⟩ w hw
end
end TW

set_option maxRecDepth 100000
set_option maxHeartbeats 2000000
namespace TW
open PySem PySem.Spec PyProof.Rows L2
/-! ## 19. rules that name K -/
section
variable {X : Cx} {K : PySem.W.Frag}
theorem op_inDK (h : X.K = K) (hu : X.A.units + 65 < cLine) : OpR X (compareOp .In) (rInD K) := by subst h; exact op_inD hu
theorem op_notInDK (h : X.K = K) (hu : X.A.units + 65 < cLine) : OpR X (compareOp .NotIn) (rNotInD K) := by subst h; exact op_notInD hu
theorem op_inTDK (h : X.K = K) (hu : X.A.units + 65 < cLine) : OpR X (compareOp .In) (rInTD K false) := by subst h; exact op_inTD hu
theorem op_notInTDK (h : X.K = K) (hu : X.A.units + 65 < cLine) : OpR X (compareOp .NotIn) (rInTD K true) := by subst h; exact op_notInTD hu
theorem op_eqDK (h : X.K = K) (hu : X.A.units + 64 < cLine) : OpR X (compareOp .Eq) (rEqD K) := by subst h; exact op_eqD hu
theorem op_neDK (h : X.K = K) (hu : X.A.units + 64 < cLine) : OpR X (compareOp .NotEq) (rNeD K) := by subst h; exact op_neD hu
theorem op_catAK (h : X.K = K) : OpR X (binaryOp .Add) (rCatA K) := by subst h; exact op_catA
theorem sl_tupAK (h : X.K = K) : SlR X (rSlA K) := by subst h; exact sl_tupA
theorem sl_listK (h : X.K = K) : SlR X (rSlL K) := by subst h; exact sl_list
theorem ix_listK (h : X.K = K) : IxR X (rIxL K) := by subst h; exact ix_list
theorem ix_tupK (h : X.K = K) : IxR X (rIxT K) := by subst h; exact ix_tup
theorem ix_seqK (h : X.K = K) : IxR X (rIx K) := by subst h; exact ix_seq
theorem call_len_seqK (h : X.K = K) : CallR X (.builtin "len") (fun xs H Q => ∃ p ys, xs = [.ref p] ∧ (SqL K H p ys ∨ SqT K H p ys) ∧ Q (.int ys.length) H) := by subst h; exact call_len_seq
theorem call_list_ofK (h : X.K = K) : CallR X (.type "list") (rListOf K) := by subst h; exact call_list_of
theorem call_isiK (h : X.K = K) : CallR X (.builtin "isinstance") (rIsi K) := by subst h; exact call_isi
theorem cr_sumK (h : X.K = K) (hc : X.calm = true) : CallR X (.builtin "sum") (rSum K) := by subst h; exact cr_sum hc
theorem cr_anyK (h : X.K = K) (hc : X.calm = true) : CallR X (.builtin "any") (rAny K) := by subst h; exact cr_any hc
theorem cr_allK (h : X.K = K) (hc : X.calm = true) : CallR X (.builtin "all") (rAll K) := by subst h; exact cr_all hc
theorem pe_tupleOfK {a : Expr} {ta : TE} {p pos : Pos} (h : X.K = K) (hg : Gl X "tuple") (hm : X.mg "tuple" = none) (ha : PE X a ta) (na : starEach [a] X.env = (false, eval a X.env) :: starEach [] X.env := by rfl) : PE X (.Call (.Name "tuple" p) [a] [] pos) (tThen ta (kTup K)) := by subst h; exact pe_tupleOf hg hm ha na
variable {tg l : Expr} {tl : TE}
theorem pi_listK (h : X.K = K) (hl : PE X l tl) : PI X tg l (iList K tl) := by subst h; exact pi_list hl
theorem pi_tupK (h : X.K = K) (hl : PE X l tl) : PI X tg l (iTup K tl) := by subst h; exact pi_tup hl
theorem pi_enumK {e : Expr} {ta : TA} {p pos tpos : Pos} {elts : List Expr} {kk : Nat} (h : X.K = K) (hg : Gl X "enumerate") (hm : X.mg "enumerate" = none) (ha : PA X [e] ta) (hs : starEach [e] X.env = [(false, eval e X.env)] := by rfl) :
    PI X (.Tuple elts kk tpos) (.Call (.Name "enumerate" p) [e] [] pos) (iEnum K ta) := by subst h; exact pi_enum hg hm ha hs
theorem pi_zipAK {e e2 : Expr} {ta : TA} {p pos tpos : Pos} {elts : List Expr} {kk : Nat} (h : X.K = K) (hg : Gl X "zip") (hm : X.mg "zip" = none) (ha : PA X [e, e2] ta)
    (hs : starEach [e, e2] X.env = (false, eval e X.env) :: starEach [e2] X.env := by rfl) (hpl : (backTo pos (starEach [e2] X.env)).any (·.1) = false := by rfl) :
    PI X (.Tuple elts kk tpos) (.Call (.Name "zip" p) [e, e2] [] pos) (RZ.iZipA K ta) := by subst h; exact RZ.pi_zipA hg hm ha hs hpl
theorem pi_zipK {e e2 : Expr} {ta : TA} {p pos tpos : Pos} {elts : List Expr} {kk : Nat} (h : X.K = K) (hg : Gl X "zip") (hm : X.mg "zip" = none) (ha : PA X [e, e2] ta)
    (hs : starEach [e, e2] X.env = (false, eval e X.env) :: starEach [e2] X.env := by rfl) (hpl : (backTo pos (starEach [e2] X.env)).any (·.1) = false := by rfl) :
    PI X (.Tuple elts kk tpos) (.Call (.Name "zip" p) [e, e2] [] pos) (iZip K ta) := by subst h; exact pi_zip hg hm ha hs hpl
theorem pi_revAK {e : Expr} {te : TE} {p pos : Pos} (h : X.K = K) (hg : Gl X "reversed") (hm : X.mg "reversed" = none) (he : PE X e te) (hs : starEach [e] X.env = (false, eval e X.env) :: starEach [] X.env := by rfl) : PI X tg (.Call (.Name "reversed" p) [e] [] pos) (RT.iRevA K te) := by subst h; exact RT.pi_revA hg hm he hs
theorem pg_tupK {es : List Expr} {k : Nat} {t : TGs} {n : Nat} {pos : Pos} (h : X.K = K) (hc : X.calm = true) (hh : PGs X es t)
    (hn : (assignEach es X.env).length = n := by rfl) (hst : (assignEach es X.env).findIdx? (·.1) = none := by rfl) : PG X (.Tuple es k pos) (gTup K n t) := by subst h; exact pg_tup hc hh hn hst
end
end TW

set_option maxRecDepth 100000
namespace Lh
open PySem PySem.Spec PyProof.Rows L2 TW
theorem sz {n : Nat} (h : n ≤ 10000000) : n ≤ sizeLine := Nat.le_trans h (by decide)
theorem szl {n : Nat} (h : n < 10000000) : n < sizeLine := Nat.lt_of_lt_of_le h (by decide)
theorem draw_ok {n : Int} (h0 : 0 < n) (h1 : n < 1000000000) : DrawOk n := by
  refine ⟨h0, ?_⟩
  have h2 : n.natAbs < 2 ^ 60 := by omega
  have h3 : n.natAbs.log2 < 60 := by
    rw [Nat.log2_lt (by omega)]
    exact h2
  omega
theorem mem_rng {a b x : Int} : x ∈ rng a b ↔ a ≤ x ∧ x < b := by
  unfold rng
  rw [List.mem_map]
  constructor
  · rintro ⟨i, hi, rfl⟩
    rw [List.mem_range] at hi
    omega
  · rintro ⟨h1, h2⟩
    exact ⟨(x - a).toNat, List.mem_range.mpr (by omega), by omega⟩
theorem rng_nodup (a b : Int) : (rng a b).Nodup := by
  unfold rng
  rw [List.nodup_iff_pairwise_ne, List.pairwise_map]
  exact List.Pairwise.imp (fun h e => h (by omega)) (List.nodup_iff_pairwise_ne.mp List.nodup_range)
theorem rng_split {a b x : Int} {pre post : List Int} (h : rng a b = pre ++ x :: post) : x = a + pre.length ∧ pre = rng a x ∧ a ≤ x ∧ x < b := by
  have hl : pre.length < (rng a b).length := by rw [h]; simp
  have hx : (rng a b)[pre.length]? = some x := by rw [h]; simp
  have e1 : x = a + pre.length := by
    unfold rng at hx hl
    rw [List.getElem?_map, List.getElem?_range (by simpa using hl)] at hx
    simp at hx
    omega
  rw [rng_len] at hl
  refine ⟨e1, ?_, by omega, by omega⟩
  have hp : pre = (rng a b).take pre.length := by rw [h]; simp
  rw [hp]
  unfold rng
  rw [← List.map_take, List.take_range]
  congr 2
  rw [Nat.min_eq_left (by omega)]
  omega
theorem rng_succ {a b : Int} (h : a ≤ b) : rng a (b + 1) = rng a b ++ [b] := by
  unfold rng
  rw [show (b + 1 - a).toNat = (b - a).toNat + 1 by omega, List.range_succ, List.map_append]
  congr 1
  simp
  omega
theorem rng_self (a : Int) : rng a a = [] := by unfold rng; simp
theorem rng_nil {a b : Int} (h : b ≤ a) : rng a b = [] := by unfold rng; rw [show (b - a).toNat = 0 by omega]; rfl
section
variable {α : Type} [Inhabited α]
theorem gI_nat (xs : List α) (n : Nat) : gI xs (n : Int) = xs.getD n default := by unfold gI; rw [if_pos (by omega)]; rfl
theorem gI_nn (xs : List α) {i : Int} (h : 0 ≤ i) : gI xs i = xs.getD i.toNat default := by unfold gI; rw [if_pos h]
theorem gI_mem {xs : List α} {i : Int} (h : InB xs.length i) : gI xs i ∈ xs := List.mem_of_getElem? (gI_posI h)
theorem gI_cons0 (x : α) (xs : List α) : gI (x :: xs) 0 = x := by unfold gI; rfl
theorem gI_set_ne {xs : List α} {i j : Int} {y : α} (hi : 0 ≤ i) (hj : 0 ≤ j) (h : i ≠ j) : gI (setI xs i y) j = gI xs j := by
  rw [gI_nn _ hj, gI_nn _ hj]
  unfold setI posI
  rw [if_pos hi, List.getD_eq_getElem?_getD, List.getD_eq_getElem?_getD, List.getElem?_set_ne (by omega)]
theorem gI_set_eq {xs : List α} {i : Int} {y : α} (hi : 0 ≤ i) (hl : i < xs.length) : gI (setI xs i y) i = y := by
  rw [gI_nn _ hi]
  unfold setI posI
  rw [if_pos hi, List.getD_eq_getElem?_getD, List.getElem?_set_self (by omega)]
  rfl
theorem setI_len (xs : List α) (i : Int) (y : α) : (setI xs i y).length = xs.length := by unfold setI; simp
theorem erI_perm {xs : List α} {k : Int} (h : InB xs.length k) : xs.Perm (gI xs k :: erI xs k) := by
  have h1 := gI_posI h
  obtain ⟨h2, h3⟩ := List.getElem?_eq_some_iff.mp h1
  unfold erI
  rw [← h3]
  generalize posI xs.length k = j at h2
  clear h h1 h3
  induction xs generalizing j with
  | nil => simp at h2
  | cons x xs ih =>
    cases j with
    | zero => simp
    | succ j =>
      simp only [List.getElem_cons_succ, List.eraseIdx_cons_succ]
      exact (List.Perm.cons x (ih j (by simpa using h2))).trans (List.Perm.swap _ _ _)
theorem erI_len {xs : List α} {k : Int} (h : InB xs.length k) : (erI xs k).length + 1 = xs.length := by
  have := (erI_perm h).length_eq
  simp at this
  omega
end
section
variable {α : Type}
theorem dV_nil (k : Int) : dV ([] : DK α) k = none := rfl
theorem dV_cons (p : Int × α) (kvs : DK α) (k : Int) : dV (p :: kvs) k = if p.1 = k then some p.2 else dV kvs k := by
  unfold dV
  by_cases h : p.1 = k
  · rw [if_pos h, List.find?_cons_of_pos (by simpa using h)]; rfl
  · rw [if_neg h, List.find?_cons_of_neg (by simpa using h)]
theorem dV_any (k : Int) : ∀ kvs : DK α, (kvs.any fun p => decide (p.1 = k)) = (dV kvs k).isSome
  | [] => rfl
  | p :: kvs => by
    rw [List.any_cons, dV_any k kvs, dV_cons]
    by_cases h : p.1 = k
    · simp [h]
    · simp [h]
theorem dV_map (k j : Int) (v : α) : ∀ kvs : DK α, dV (kvs.map fun p => if p.1 = k then (p.1, v) else p) j = (dV kvs j).map fun x => if j = k then v else x
  | [] => rfl
  | p :: kvs => by
    rw [List.map_cons, dV_cons, dV_cons, dV_map k j v kvs]
    by_cases h : p.1 = k
    · rw [if_pos h]
      by_cases h2 : p.1 = j
      · rw [if_pos h2, if_pos h2]; simp [← h2, h]
      · rw [if_neg h2, if_neg h2]
    · rw [if_neg h]
      by_cases h2 : p.1 = j
      · rw [if_pos h2, if_pos h2]
        have : j ≠ k := fun e => h (by rw [h2, e])
        simp [this]
      · rw [if_neg h2, if_neg h2]
theorem dV_app (kvs : DK α) (p : Int × α) (j : Int) : dV (kvs ++ [p]) j = (dV kvs j).or (if p.1 = j then some p.2 else none) := by
  induction kvs with
  | nil => rw [List.nil_append, dV_cons]; rfl
  | cons q kvs ih =>
    rw [List.cons_append, dV_cons, dV_cons, ih]
    by_cases h : q.1 = j
    · rw [if_pos h, if_pos h]; rfl
    · rw [if_neg h, if_neg h]
theorem dV_put (kvs : DK α) (k j : Int) (v : α) : dV (dPut kvs k v) j = if j = k then some v else dV kvs j := by
  unfold dPut
  rw [dV_any]
  by_cases h : (dV kvs k).isSome = true
  · rw [if_pos h, dV_map]
    by_cases e : j = k
    · subst e
      rw [if_pos rfl]
      obtain ⟨x, hx⟩ := Option.isSome_iff_exists.mp h
      rw [hx]; simp
    · rw [if_neg e]; simp [e]
  · rw [if_neg h, dV_app]
    by_cases e : j = k
    · subst e
      rw [if_pos rfl]
      have : dV kvs j = none := by simpa using h
      rw [this]; simp
    · rw [if_neg e, if_neg (fun z => e z.symm)]; simp
theorem dPut_len (kvs : DK α) (k : Int) (v : α) : (dPut kvs k v).length ≤ kvs.length + 1 := by
  unfold dPut
  split
  · simp
  · simp
theorem dPut_new {kvs : DK α} {k : Int} {v : α} (h : dV kvs k = none) : dPut kvs k v = kvs ++ [(k, v)] := by
  unfold dPut
  rw [dV_any, h]
  simp
end
@[elab_as_elim] theorem snoc_ind {α : Type} {motive : List α → Prop} (nil : motive []) (snoc : ∀ xs x, motive xs → motive (xs ++ [x])) (xs : List α) : motive xs := by
  have h : ∀ ys : List α, motive ys.reverse := fun ys => by
    induction ys with
    | nil => exact nil
    | cons y ys ih => rw [List.reverse_cons]; exact snoc _ _ ih
  have := h xs.reverse
  rwa [List.reverse_reverse] at this
theorem map_id' {α : Type} (xs : List α) : xs.map (fun x => x) = xs := List.map_id' xs
end Lh

set_option maxRecDepth 100000
set_option maxHeartbeats 2000000
namespace TW
open PySem PySem.Spec PyProof.Rows L2
/-! ## 20. data of any kind -/
instance : Inhabited PyData := ⟨.none⟩
mutual
def eqs : PyData → PyData → Bool
  | .none, .none => true
  | .bool a, .bool b => a == b
  | .int a, .int b => a == b
  | .str a, .str b => a == b
  | .list xs, .list ys => eqsAll xs ys
  | .tuple xs, .tuple ys => eqsAll xs ys
  | _, _ => false
def eqsAll : List PyData → List PyData → Bool
  | [], [] => true
  | x :: xs, y :: ys => eqs x y && eqsAll xs ys
  | _, _ => false
end
mutual
/-- lists and tuples of a length that is not too great -/
def small : PyData → Bool
  | .list xs => decide (xs.length ≤ 1000000) && smallAll xs
  | .tuple xs => decide (xs.length ≤ 1000000) && smallAll xs
  | .dict _ => false
  | _ => true
def smallAll : List PyData → Bool
  | [] => true
  | x :: xs => small x && smallAll xs
end
mutual
/-- no text in it -/
def noStr : PyData → Bool
  | .str _ => false
  | .list xs => noStrAll xs
  | .tuple xs => noStrAll xs
  | .dict _ => false
  | _ => true
def noStrAll : List PyData → Bool
  | [] => true
  | x :: xs => noStr x && noStrAll xs
end
theorem noStrAll_mem : ∀ {xs : List PyData}, noStrAll xs = true ↔ ∀ x ∈ xs, noStr x = true
  | [] => by simp [noStrAll]
  | x :: xs => by simp [noStrAll, noStrAll_mem (xs := xs)]
theorem smallAll_mem : ∀ {xs : List PyData}, smallAll xs = true ↔ ∀ x ∈ xs, small x = true
  | [] => by simp [smallAll]
  | x :: xs => by simp [smallAll, smallAll_mem (xs := xs)]
theorem depthAll_mem : ∀ {xs : List PyData} {n : Nat}, PyData.depthAll xs ≤ n ↔ ∀ x ∈ xs, x.depth ≤ n
  | [], n => by simp [PyData.depthAll]
  | x :: xs, n => by simp [PyData.depthAll, Nat.max_le, depthAll_mem (xs := xs)]
def isSeq : PyData → Bool
  | .list _ => true
  | .tuple _ => true
  | _ => false
def items : PyData → List PyData
  | .list xs => xs
  | .tuple xs => xs
  | _ => []
def isK (c : String) : PyData → Bool
  | .none => false
  | .bool _ => c == "bool" || c == "int"
  | .int _ => c == "int"
  | .str _ => c == "str"
  | .list _ => c == "list"
  | .tuple _ => c == "tuple"
  | .dict _ => c == "dict"
def isN : PyData → Bool
  | .none => true
  | _ => false
def rU (K : PySem.W.Frag) : Rp PyData := ⟨fun H v d => Dp K H v d, fun e h => view_sqT e h⟩
theorem tyX_L {K : PySem.W.Frag} {H : Hp} {a : Addr} {xs : List V} (h : SqL K H a xs) : TyX K H (.ref a) (.type "list") := by
  rcases h with (h | ⟨o, h⟩) | ⟨o, _, _, h1, h2, _⟩
  · exact .base (.lst h)
  · exact .base (.frz h)
  · exact .kList h1 h2
theorem tyX_T {K : PySem.W.Frag} {H : Hp} {a : Addr} {xs : List V} (h : SqT K H a xs) : TyX K H (.ref a) (.type "tuple") := by
  rcases h with (h | ⟨o, h⟩) | ⟨o, _, _, h1, h2, _⟩
  · exact .base (.tup h)
  · exact .fTuple h
  · exact .kTuple h1 h2
theorem dpAll_at {K : PySem.W.Frag} {H : Hp} : ∀ {vs : List V} {ds : List PyData}, DpAll K H vs ds → Paired (Dp K H) vs ds
  | _, _, .nil => .nil
  | _, _, .cons h t => .cons h (dpAll_at t)
theorem sqL_ext {K : PySem.W.Frag} {H H' : Hp} {a : Addr} {xs : List V} (e : Ext H H') (h : SqL K H a xs) : SqL K H' a xs := by
  rcases h with (h | ⟨o, h⟩) | h
  · exact .inl (.inl (e _ _ h))
  · exact .inl (.inr ⟨o, e _ _ h⟩)
  · exact .inr h
/-- never None -/
class Fact' {α : Type} (K : PySem.W.Frag) (R : Rp α) [Dt K R] : Prop where
  l : ∀ a, eqs .none (Dt.d K R a) = false
  r : ∀ a, eqs (Dt.d K R a) .none = false
instance {K : PySem.W.Frag} : Fact' K rInt := ⟨fun a => by simp [Dt.d, eqs], fun a => by simp [Dt.d, eqs]⟩
instance {K : PySem.W.Frag} : Fact' K rBool := ⟨fun a => by simp [Dt.d, eqs], fun a => by simp [Dt.d, eqs]⟩
instance {K : PySem.W.Frag} {α : Type} {R : Rp α} [Dt K R] : Fact' K (rList R) := ⟨fun a => by simp [Dt.d, eqs], fun a => by simp [Dt.d, eqs]⟩
instance {K : PySem.W.Frag} {α : Type} {R : Rp α} [Dt K R] : Fact' K (rTup K R) := ⟨fun a => by simp [Dt.d, eqs], fun a => by simp [Dt.d, eqs]⟩
instance {K : PySem.W.Frag} {α β : Type} {R : Rp α} {S : Rp β} [Dt K R] [Dt K S] : Fact' K (rPair K R S) := ⟨fun a => by simp [Dt.d, eqs], fun a => by simp [Dt.d, eqs]⟩
instance {K : PySem.W.Frag} {α β γ : Type} {R : Rp α} {S : Rp β} {U : Rp γ} [Dt K R] [Dt K S] [Dt K U] : Fact' K (rTri K R S U) := ⟨fun a => by simp [Dt.d, eqs], fun a => by simp [Dt.d, eqs]⟩
/-- typed data as data -/
class Qs {α : Type} [DecidableEq α] (K : PySem.W.Frag) (R : Rp α) [Dt K R] : Prop where
  eqs : ∀ a b, eqs (Dt.d K R a) (Dt.d K R b) = decide (a = b)
  ns : ∀ a, noStr (Dt.d K R a) = true
section
variable {F : Fm} {c : Ctx} {T : List Tm} {σ : Sg} {H : Hp} {A : Nat → List Addr} {B : List Addr} {D : Ends} {α β γ ι τ : Type} {R : Rp α} {Rb : Rp β} {Rc : Rp γ} {m m1 m2 m3 : Md} {te ta tb tc to ti td : TE} {tt tu : TT} {tr : TS} {K : PySem.W.Frag}
theorem ep_U [Dt K R] {S : Prop} {a : α} (h : EP c te m R S a) : EP c te m (rU K) S (Dt.d K R a) := fun s T σ H hd Q k => h s T σ H hd _ fun v H' ⟨A, B, q⟩ => k v H' ⟨A, B, q.re (p' := (rU K).at (Dt.d K R a)) (Dt.ok q.hd)⟩
theorem ew_U [Dt K R] {W : (α → Prop) → Prop} (h : EW c te m R W) : EW c te m (rU K) (fun P => W fun a => P (Dt.d K R a)) := fun P w T σ H hd Q k => h _ w T σ H hd _ fun a v H' pa ⟨A, B, q⟩ => k _ v H' pa ⟨A, B, q.re (p' := (rU K).at (Dt.d K R a)) (Dt.ok q.hd)⟩
/-- isinstance -/
theorem isi_at {H : Hp} {v : V} {d : PyData} (h : Dp K H v d) (n : String) (hn : n = "list" ∨ n = "tuple" ∨ n = "str" ∨ n = "bool" ∨ n = "int") : ∃ t, TyX K H v t ∧ PySem.W.kitOne K t (.type n) = some (isK n d) := by
  cases h with
  | non => exact ⟨_, .base .non, by rcases hn with rfl | rfl | rfl | rfl | rfl <;> exact kit_ty (by decide +kernel)⟩
  | bl b => exact ⟨_, .base (.bl _), by rcases hn with rfl | rfl | rfl | rfl | rfl <;> exact kit_ty (by simp only [isK]; decide +kernel)⟩
  | int i => exact ⟨_, .base (.int _), by rcases hn with rfl | rfl | rfl | rfl | rfl <;> exact kit_ty (by simp only [isK]; decide +kernel)⟩
  | str x => exact ⟨_, .base (.str _), by rcases hn with rfl | rfl | rfl | rfl | rfl <;> exact kit_ty (by simp only [isK]; decide +kernel)⟩
  | lst h1 h2 => exact ⟨_, tyX_L h1, by rcases hn with rfl | rfl | rfl | rfl | rfl <;> exact kit_ty (by simp only [isK]; decide +kernel)⟩
  | tup h1 h2 => exact ⟨_, tyX_T h1, by rcases hn with rfl | rfl | rfl | rfl | rfl <;> exact kit_ty (by simp only [isK]; decide +kernel)⟩
theorem ob_isiU {d : PyData} {n : String} (hn : n = "list" ∨ n = "tuple" ∨ n = "str" ∨ n = "bool" ∨ n = "int") : OB c (rIsi K) [(m1, (rU K).at d), (m2, rTy.at n)] .n rBool True (isK n d) := fun _ T σ H vs e hd Q k => by
  obtain ⟨v, w, rfl, A, B, h⟩ := zip2 e hd
  obtain ⟨t, h1, h2⟩ := isi_at (show Dp K H v d from view_sq view_full h.hd) n hn
  exact ⟨v, w, t, .type n, isK n d, rfl, by rw [show w = _ from h.hd2]; exact .ty _, h1, h2, k _ H (HD.push h.tl.tl (p := rBool.at _) rfl)⟩
theorem ob_lenU {d : PyData} : OB c (fun vs H Q => ∃ p ys, vs = [.ref p] ∧ (SqL K H p ys ∨ SqT K H p ys) ∧ Q (.int ys.length) H) [(m, (rU K).at d)] .n rInt (isSeq d = true) ((items d).length : Int) := fun s T σ H vs e hd Q k => by
  obtain ⟨v, rfl, A, B, h⟩ := zip1 e hd
  have q : Dp K (view _ A B m H) v d := h.hd
  cases q with
  | lst h1 h2 => exact ⟨_, _, rfl, .inl ((sqL_ext view_full h1)), k _ H (HD.push h.tl (p := rInt.at _) (by show V.int _ = V.int _; rw [(dpAll_at h2).length]; rfl))⟩
  | tup h1 h2 => exact ⟨_, _, rfl, .inr (SqT.ext view_full h1), k _ H (HD.push h.tl (p := rInt.at _) (by show V.int _ = V.int _; rw [(dpAll_at h2).length]; rfl))⟩
  | _ => cases s
theorem o2_ixU : O2 c (rIx K) m1 (rU K) m2 rInt m1 (rU K) (fun d i => isSeq d = true ∧ InB (items d).length i) (fun d i => gI (items d) i) := fun a b s T σ H x y ⟨A, B, h⟩ Q k => by
  have q : Dp K (view _ A B m1 H) x a := h.hd2
  cases q with
  | lst h1 h2 =>
    obtain ⟨v, e2, r⟩ := at_gI (dpAll_at h2) s.2
    exact .inl ⟨_, _, b, v, rfl, h.hd, (sqL_ext view_full h1), e2, k _ H (HD.push h.tl.tl (p := (rU K).at _) r)⟩
  | tup h1 h2 =>
    obtain ⟨v, e2, r⟩ := at_gI (dpAll_at h2) s.2
    exact .inr (.inl ⟨_, _, b, v, rfl, h.hd, SqT.ext view_full h1, e2, k _ H (HD.push h.tl.tl (p := (rU K).at _) r)⟩)
  | _ => cases s.1
theorem o2_isNU {β : Type} {Rn : Rp β} (hn : ∀ {H v b}, Rn.r H v b → v = .non) : O2 c (fun x y H Q => y = .non ∧ Q (.bl (decide (x = .non))) H) m1 (rU K) m2 Rn .n rBool (fun _ _ => True) (fun a _ => isN a) := fun a b _ T σ H x y ⟨A, B, h⟩ Q k =>
  ⟨hn h.hd, k _ H (HD.push h.tl.tl (p := rBool.at (isN a)) (by
    have q : Dp K (view _ A B m1 H) x a := h.hd2
    show V.bl _ = V.bl _
    cases q <;> simp [isN]))⟩
theorem o2_eqU : O2 c (rEqD K) m1 (rU K) m2 (rU K) .n rBool (fun a b => SeqAt.shaped a = true ∧ SeqAt.shaped b = true) (fun a b => PyData.eqv a b) := fun a b s T σ H x y ⟨A, B, h⟩ Q k =>
  ⟨a, b, view_sq view_full h.hd2, view_sq view_full h.hd, s.1, s.2, k _ H (HD.push h.tl.tl (p := rBool.at _) rfl)⟩
end
section
variable {K : PySem.W.Frag} {α β γ : Type} {R : Rp α} {S : Rp β} {U : Rp γ} [DecidableEq α] [DecidableEq β] [DecidableEq γ]
instance : Qs K rInt := ⟨fun a b => by simp only [Dt.d, eqs]; rw [Bool.eq_iff_iff]; simp, fun a => by simp [Dt.d, noStr]⟩
instance : Qs K rBool := ⟨fun a b => by simp only [Dt.d, eqs]; rw [Bool.eq_iff_iff]; simp, fun a => by simp [Dt.d, noStr]⟩
instance : Qs K rNon := ⟨fun a b => by simp only [Dt.d, eqs]; simp, fun a => by simp [Dt.d, noStr]⟩
theorem eqsAll_d [Dt K R] [Qs K R] : ∀ xs ys : List α, eqsAll (xs.map (Dt.d K R)) (ys.map (Dt.d K R)) = decide (xs = ys)
  | [], [] => by simp [eqsAll]
  | [], y :: ys => by simp [eqsAll]
  | x :: xs, [] => by simp [eqsAll]
  | x :: xs, y :: ys => by
    rw [List.map_cons, List.map_cons, eqsAll, eqsAll_d xs ys, Qs.eqs (K := K) (R := R), Bool.eq_iff_iff]
    simp
instance [Dt K R] [Qs K R] : Qs K (rList R) := ⟨fun a b => by simp only [Dt.d, eqs]; exact eqsAll_d a b, fun xs => by simp only [Dt.d, noStr, noStrAll_mem, List.mem_map]; rintro _ ⟨x, _, rfl⟩; exact Qs.ns x⟩
instance [Dt K R] [Qs K R] : Qs K (rTup K R) := ⟨fun a b => by simp only [Dt.d, eqs]; exact eqsAll_d a b, fun xs => by simp only [Dt.d, noStr, noStrAll_mem, List.mem_map]; rintro _ ⟨x, _, rfl⟩; exact Qs.ns x⟩
instance [Dt K R] [Qs K R] [Dt K S] [Qs K S] : Qs K (rPair K R S) := ⟨fun a b => by
  obtain ⟨a1, a2⟩ := a
  obtain ⟨b1, b2⟩ := b
  simp only [Dt.d, eqs, eqsAll, Qs.eqs (K := K) (R := R), Qs.eqs (K := K) (R := S)]
  rw [Bool.eq_iff_iff]; simp, fun p => by simp [Dt.d, noStr, noStrAll, Qs.ns (K := K) (R := R), Qs.ns (K := K) (R := S)]⟩
instance [Dt K R] [Qs K R] [Dt K S] [Qs K S] [Dt K U] [Qs K U] : Qs K (rTri K R S U) := ⟨fun a b => by
  obtain ⟨a1, a2, a3⟩ := a
  obtain ⟨b1, b2, b3⟩ := b
  simp only [Dt.d, eqs, eqsAll, Qs.eqs (K := K) (R := R), Qs.eqs (K := K) (R := S), Qs.eqs (K := K) (R := U)]
  rw [Bool.eq_iff_iff]; simp, fun p => by simp [Dt.d, noStr, noStrAll, Qs.ns (K := K) (R := R), Qs.ns (K := K) (R := S), Qs.ns (K := K) (R := U)]⟩
end
def Sml {α : Type} (K : PySem.W.Frag) (R : Rp α) [Dt K R] (a : α) : Prop := small (Dt.d K R a) = true
section
variable {K : PySem.W.Frag} {α β γ : Type} {R : Rp α} {S : Rp β} {U : Rp γ}
@[simp] theorem sml_int (a : Int) : Sml K rInt a := by show small (.int a) = true; simp [small]
@[simp] theorem sml_bool (a : Bool) : Sml K rBool a := by show small (.bool a) = true; simp [small]
@[simp] theorem sml_non (a : Unit) : Sml K rNon a := by show small .none = true; simp [small]
theorem sml_list [Dt K R] (xs : List α) : Sml K (rList R) xs ↔ xs.length ≤ 1000000 ∧ ∀ x ∈ xs, Sml K R x := by
  show small (.list (xs.map (Dt.d K R))) = true ↔ _
  simp only [small, Bool.and_eq_true, decide_eq_true_eq, List.length_map, smallAll_mem]
  exact and_congr_right fun _ => ⟨fun h x hx => h _ (List.mem_map_of_mem hx), fun h y hy => by
    obtain ⟨x, hx, rfl⟩ := List.mem_map.mp hy
    exact h x hx⟩
theorem sml_tup [Dt K R] (xs : List α) : Sml K (rTup K R) xs ↔ xs.length ≤ 1000000 ∧ ∀ x ∈ xs, Sml K R x := by
  show small (.tuple (xs.map (Dt.d K R))) = true ↔ _
  simp only [small, Bool.and_eq_true, decide_eq_true_eq, List.length_map, smallAll_mem]
  exact and_congr_right fun _ => ⟨fun h x hx => h _ (List.mem_map_of_mem hx), fun h y hy => by
    obtain ⟨x, hx, rfl⟩ := List.mem_map.mp hy
    exact h x hx⟩
theorem sml_pair [Dt K R] [Dt K S] (p : α × β) : Sml K (rPair K R S) p ↔ Sml K R p.1 ∧ Sml K S p.2 := by
  show small (.tuple [Dt.d K R p.1, Dt.d K S p.2]) = true ↔ _
  simp [small, smallAll, Sml]
theorem sml_tri [Dt K R] [Dt K S] [Dt K U] (p : α × β × γ) : Sml K (rTri K R S U) p ↔ Sml K R p.1 ∧ Sml K S p.2.1 ∧ Sml K U p.2.2 := by
  show small (.tuple [Dt.d K R p.1, Dt.d K S p.2.1, Dt.d K U p.2.2]) = true ↔ _
  simp [small, smallAll, Sml]
theorem sml_opt [Dt K R] [Dn K R] (o : Option α) : Sml K (rOpt R) o ↔ ∀ x, o = some x → Sml K R x := by
  cases o with
  | none => simp [Sml, Dt.d, small]
  | some x => simp [Sml, Dt.d]
instance [DecidableEq α] [Dt K R] [Dn K R] [Qs K R] [Qn : Fact' K R] : Qs K (rOpt R) := ⟨fun a b => by
  cases a with
  | none =>
    cases b with
    | none => simp [Dt.d, eqs]
    | some y => simp [Dt.d, Qn.l]
  | some x =>
    cases b with
    | none => simp [Dt.d, Qn.r]
    | some y =>
      have := Qs.eqs (K := K) (R := R) x y
      show eqs (Dt.d K R x) (Dt.d K R y) = _
      rw [this, Bool.eq_iff_iff]; simp, fun o => by
  cases o with
  | none => simp [Dt.d, noStr]
  | some x => exact Qs.ns (K := K) (R := R) x⟩
end
section
variable {c : Ctx} {α : Type} {R : Rp α} {m : Md} {te : TE} {K : PySem.W.Frag}
/-- _law_eq of typed data -/
theorem ep_eqU [DecidableEq α] [Dt K R] [Qs K R] {S : Prop} {x y : α} (h : EP c te m rBool (S ∧ (small (Dt.d K R y) = true ∧ noStr (Dt.d K R x) = true ∧ noStr (Dt.d K R y) = true) ∧ (Dt.d K R y).depth < 8) (eqs (Dt.d K R x) (Dt.d K R y))) (hd : Dt.dep K R ≤ 7 := by exact Nat.le_of_ble_eq_true rfl) : EP c te m rBool (S ∧ Sml K R y) (decide (x = y)) := by
  rw [← Qs.eqs (K := K) (R := R)]
  exact h.imp fun s => ⟨s.1, ⟨s.2, Qs.ns x, Qs.ns y⟩, Nat.lt_of_le_of_lt (Nat.le_trans (Dt.deep y) hd) (by decide)⟩
end
section
variable {c : Ctx} {α : Type} {R : Rp α} {m m1 m2 : Md} {te ta tb : TE} {K : PySem.W.Frag}
theorem ep_leq [DecidableEq α] [Dt K R] [Qs K R] {S1 S2 : Prop} {x y : α} {E : XK} (ha : EP c ta m1 R S1 x) (hb : EP c tb m2 R S2 y) (hd : Dt.dep K R ≤ 7 := by exact Nat.le_of_ble_eq_true rfl) :
    EP c (tCall (spF (fun i : PyData × PyData × Unit => [Rp.ps (rU K) i.1, Rp.ps (rU K) i.2.1]) rBool (fun i => (small i.2.1 = true ∧ noStr i.1 = true ∧ noStr i.2.1 = true) ∧ i.2.1.depth < 8) (fun i => eqs i.1 i.2.1)) [] E (tCons ta (tCons tb tNil))) .n rBool (S1 ∧ S2 ∧ Sml K R y) (decide (x = y)) := by
  refine EP.imp (S := (S1 ∧ S2 ∧ True) ∧ Sml K R y) ?_ fun s => ⟨⟨s.1, s.2.1, trivial⟩, s.2.2⟩
  exact ep_eqU (K := K) (R := R) (x := x) (y := y) (ep_call (L := fun i : PyData × PyData × Unit => [Rp.ps (rU K) i.1, Rp.ps (rU K) i.2.1]) (Rr := rBool) (pre := fun i => (small i.2.1 = true ∧ noStr i.1 = true ∧ noStr i.2.1 = true) ∧ i.2.1.depth < 8) (f := fun i => eqs i.1 i.2.1) (E := E) (Dt.d K R x, Dt.d K R y, ()) (ap_cons (ep_U (K := K) ha) (ap_cons (ep_U (K := K) hb) ap_nil))) hd
end
/-! ### what _law_eq asks, in plain words -/
theorem eqsAll_len : ∀ {xs ys : List PyData}, eqsAll xs ys = true → xs.length = ys.length
  | [], [], _ => rfl
  | [], _ :: _, h => by simp [eqsAll] at h
  | _ :: _, [], h => by simp [eqsAll] at h
  | x :: xs, y :: ys, h => by
    rw [eqsAll, Bool.and_eq_true] at h
    simp [eqsAll_len h.2]
theorem eqsAll_rng : ∀ xs ys : List PyData, xs.length = ys.length → (decide (((rng 0 ys.length).filter fun k => !eqs (gI xs k) (gI ys k)) = []) = eqsAll xs ys) := by
  intro xs ys hl
  rw [Bool.eq_iff_iff, decide_eq_true_eq, List.filter_eq_nil_iff]
  have h1 : (∀ a ∈ rng 0 (ys.length : Int), ¬ (!eqs (gI xs a) (gI ys a)) = true) ↔ ∀ i : Nat, i < ys.length → eqs (xs.getD i default) (ys.getD i default) = true := by
    constructor
    · intro h i hi
      have := h (i : Int) (Lh.mem_rng.mpr ⟨by omega, by omega⟩)
      rw [Lh.gI_nat, Lh.gI_nat] at this
      simpa using this
    · intro h a ha
      obtain ⟨h0, h1⟩ := Lh.mem_rng.mp ha
      have := h a.toNat (by omega)
      rw [Lh.gI_nn _ h0, Lh.gI_nn _ h0]
      simp only [this]
      decide
  rw [h1]
  clear h1
  induction xs generalizing ys with
  | nil =>
    cases ys with
    | nil => simp [eqsAll]
    | cons y ys => simp at hl
  | cons x xs ih =>
    cases ys with
    | nil => simp at hl
    | cons y ys =>
      have ih' := ih ys (by simpa using hl)
      rw [eqsAll, Bool.and_eq_true]
      refine ⟨fun h => ⟨h 0 (by simp), ih'.mp fun i hi => by simpa using h (i + 1) (by simpa using hi)⟩, ?_⟩
      rintro ⟨h0, h⟩ i hi
      have h' := ih'.mpr h
      cases i with
      | zero => exact h0
      | succ i => simpa using h' i (by simpa using hi)
end TW

set_option maxRecDepth 100000
set_option maxHeartbeats 2000000
/-! ## 21. enumerate, zip over tuples -/
namespace PySem
open Sem (wp)
set_option maxHeartbeats 1000000 in
theorem meets_enumerate_new1B {v : Value} {o : Obj} {H : Heap → Prop} (B : Begins v o H) :
    Meets (Builtin.«enumerate.__new__» ⟨[.type "enumerate", v], []⟩) (fun _ R s => H s.heap ∧
      R (.ok (.ret (.ref (s.heap.push o).objs.size))) { s with heap := (s.heap.push o).push { cls := .type "enumerate", data := .fields #[.none, .bool false, .ref s.heap.objs.size, rawInt 0, .none, .none] } }) :=
  .of_wp fun prog w A R s h => by
    obtain ⟨hp, g, d, tk, os⟩ := s; obtain ⟨h1, h⟩ := h
    have hsub := sub_enumerate
    have q1 : ∀ {A' : Around} {E : Value → Shared → Prop} {Q : Value → Shared → Prop}, Q (.ref hp.objs.size) ⟨hp.push o, g, d, tk, os⟩ → wpAny (model prog w) A' (pyIter v) Q E ⟨hp, g, d, tk, os⟩ :=
      fun q => B.iter prog w _ _ ⟨hp, g, d, tk, os⟩ _ h1 q
    wp_walk using q1
    refine wpAny_stack_any fun st => wpAny_pure ?_
    split
    · rename_i c _ _ _ _ _
      cases (c == Value.type "enumerate")
      · wp_walk using q1
        exact ⟨_, rfl, h⟩
      · wp_walk using q1
        exact ⟨_, rfl, h⟩
    · wp_walk using q1
      exact ⟨_, rfl, h⟩
theorem enum_begins1 {prog : Program} {w : World} {A : Around} {E : Value → Shared → Prop} {s : Shared} {v : Value} {o : Obj} {H : Heap → Prop} {Q : Value → Shared → Prop} (B : Begins v o H) (h1 : H s.heap)
    (h : ∀ h', IsEnum h' (s.heap.objs.size + 1) s.heap.objs.size 0 .none → h'.get? s.heap.objs.size = some o → h'.objs.size = s.heap.objs.size + 2 →
      (∀ b o, s.heap.get? b = some o → h'.get? b = some o) → Q (.ref (s.heap.objs.size + 1)) { s with heap := h' }) :
    wpAny (model prog w) A (call (.type "enumerate") [v]) Q E s := by
  refine callType_new F.called_enumerate (by decide) (F.typeCall_enumerate_1 _) (F.newCall_enumerate_1 _) (fun obj => F.args_object_init_2 obj _) F.entry_enumerate_new
    (meets_enumerate_new1B B) ⟨h1, ?_⟩
  have hz : (s.heap.push o).objs.size = s.heap.objs.size + 1 := Heap.size_push ..
  show _ ∧ _
  rw [hz]
  have he : IsEnum ((s.heap.push o).push { cls := .type "enumerate", data := .fields #[.none, .bool false, .ref s.heap.objs.size, rawInt 0, .none, .none] }) (s.heap.objs.size + 1) s.heap.objs.size 0 .none := by
    have := Heap.get?_push_size (s.heap.push o) (o := { cls := .type "enumerate", data := .fields #[.none, .bool false, .ref s.heap.objs.size, rawInt 0, .none, .none] }) rfl
    rw [hz] at this; exact this
  exact ⟨⟨_, he, rfl⟩, h _ he (Heap.get?_push_of_some _ (Heap.get?_push_size _ B.free)) (by rw [Heap.size_push, hz]) fun b o x => Heap.get?_push_of_some _ (Heap.get?_push_of_some _ x)⟩
end PySem
namespace TW
open PySem PySem.Spec PyProof.Rows L2
def IteT (K : PySem.W.Frag) (a : Addr) : It :=
  ⟨fun i H => ∃ (xs : List V) (x : V), SqT K H a xs ∧ xs[i]? = some x, fun i H v H' => ∃ T x, v = .ref T ∧ H T = none ∧ H' = upd H T (.tup [.int (i : Nat), x]) ∧ ∀ xs, SqT K H a xs → xs[i]? = some x, fun i H => ∃ xs : List V, SqT K H a xs ∧ xs.length = i⟩
theorem turn_enumT {P : Program} {w : World} {K : PySem.W.Frag} {elts : List Expr} {kk : Nat} {tpos : Pos} (a e it : Addr) :
    Turn P w K (.Tuple elts kk tpos) (IteT K a) [e, it] e (fun i h => (∃ old, IsEnum h e it ((i : Nat) : Int) old) ∧ h.IsTupleIter it a i ∧ e ≠ it ∧ e ≠ a ∧ a ≠ it) where
  mem := by simp
  obj := fun i h st b hb => by
    obtain ⟨⟨old, he⟩, ⟨o, ho, hc, hd⟩, _⟩ := st
    have e' : b = e ∨ b = it := by simpa using hb
    rcases e' with z | z
    · rw [z]; exact ⟨_, he, fun v q => nomatch q⟩
    · rw [z]; exact ⟨o, ho, fun v q => by rw [hd] at q; cases q⟩
  keep := fun i h h' st k => let ⟨⟨old, he⟩, hi, hne⟩ := st; ⟨⟨old, k e (by simp) _ he⟩, hi.at fun o q => k it (by simp) o q, hne⟩
  item := by
    intro X hP hw hK hc i pins s σ H E I hf st hg
    subst hP hw hK
    obtain ⟨⟨old, he⟩, hit, hne, hea, hai⟩ := st
    obtain ⟨xs, x, hq, hx⟩ := hg
    obtain ⟨its, rv, p, hz⟩ := I.tuple hq
    obtain ⟨u, hu, ru⟩ := rv.get hx
    have hel : e < s.heap.objs.size := Heap.lt_size he
    have hil : it < s.heap.objs.size := by obtain ⟨_, q, _⟩ := hit; exact Heap.lt_size q
    have hT0 : s.heap.IsTuple a its.toArray := p
    have hlt : i < its.toArray.size := by
      have := (List.getElem?_eq_some_iff.mp hu).1
      simpa using this
    have Dr := Draws.tuple (prog := X.prog) (w := X.w) (A := X.A.in1) (I.ok.hd hc) it a hai its.toArray
    refine wpAny_pyNext_enum_itemC Dr he ⟨hit, hT0⟩ hlt hne (by simp [hne, hea]) fun y h' tk hy ho hit' hT hsz hk => ?_
    have ey : y = u := by
      have h1 : its[i]? = some y := by simpa using hy
      rw [hu] at h1
      exact (Option.some.inj h1).symm
    subst ey
    refine ⟨_, rfl, wpAny_letOwnedTupleGo_enum (s := { s with heap := h', toks := tk + 1 }) ho fun h'' he' sb => ?_⟩
    have hT2 : h''.get? s.heap.objs.size = some { cls := .type "tuple", data := .seq #[.int i tk, y] } := (sb.2 _ (Nat.ne_of_gt hel)).trans hT
    have new : ObjOk X.prog X.w (upd H s.heap.objs.size (.tup [.int (i : Nat), x])) h'' s.heap.objs.size (.tup [.int (i : Nat), x]) :=
      ⟨by show 2 ≤ sizeLine; decide, [.int i tk, y], .cons ⟨_, rfl⟩ (.cons ru .nil), ⟨_, hT2, rfl, _, rfl⟩⟩
    have I1 : Inv X pins σ (upd H s.heap.objs.size (.tup [.int (i : Nat), x])) { s with heap := h'', toks := tk + 1 } :=
      I.turnedNew (ch := [e, it]) (fun b ob hb q => (sb.2 b (fun z => hb (by simp [z]))).trans (hk b ob (fun z => hb (by simp [z])) (fun z => hb (by simp [z])) q)) hf (Nat.le_refl _) new
    refine ⟨.ref s.heap.objs.size, _, I1, rfl, ⟨_, x, rfl, I.hok.fresh (Nat.le_refl _), rfl, fun ys hy => by rw [I.tuple_inj hy hq]; exact hx⟩, ⟨⟨y, ?_⟩, hit'.1.at fun o q => (sb.2 it (Ne.symm hne)).trans q, hne, hea, hai⟩, fun b hb => ?_⟩
    · have e1 : ((i + 1 : Nat) : Int) = (i : Int) + 1 := by omega
      rw [e1]; exact he'
    · have hb' : b < s.heap.objs.size := by
        have e' : b = e ∨ b = it := by simpa using hb
        rcases e' with z | z
        · rw [z]; exact hel
        · rw [z]; exact hil
      rw [upd_ne (Nat.ne_of_lt hb')]
      exact (hf b hb).1
  done := by
    intro X hP hw hK hc i pins s σ H E I hf st hg
    subst hP hw hK
    obtain ⟨⟨old, he⟩, hit, hne, hea, hai⟩ := st
    obtain ⟨xs, hq, hx⟩ := hg
    obtain ⟨its, rv, p, hz⟩ := I.tuple hq
    obtain ⟨f0, f1, f2, f3, f4, f5⟩ := hf it (by simp)
    have hl := rv.length
    have hT0 : s.heap.IsTuple a its.toArray := p
    have Dr := Draws.tuple (prog := X.prog) (w := X.w) (A := X.A.in1) (I.ok.hd hc) it a hai its.toArray
    have ei : i = its.toArray.size := by rw [List.size_toArray]; omega
    subst ei
    exact wpAny_pyNext_enum_endD Dr he ⟨hit, hT0⟩ fun h' eb => ⟨rfl, I.turned (t' := s.toks) (fun b o hb q => eb b o hb q) f0 f1 f3 f4 f5⟩
  self := fun A i s Q E st h => let ⟨⟨_, he⟩, _⟩ := st; wpAny_pyIter_enum he h
def iEnumT (K : PySem.W.Frag) (ta : TA) : TI := fun σ H R => ta σ H fun vs H1 => ∃ a xs, vs = [.ref a] ∧ SqT K H1 a xs ∧ R (IteT K a) H1
theorem pi_enumT {X : Cx} {e : Expr} {ta : TA} {p pos tpos : Pos} {elts : List Expr} {kk : Nat} {K : PySem.W.Frag} (hK : X.K = K) (hg : Gl X "enumerate") (hm : X.mg "enumerate" = none) (ha : PA X [e] ta) (hs : starEach [e] X.env = [(false, eval e X.env)] := by rfl) :
    PI X (.Tuple elts kk tpos) (.Call (.Name "enumerate" p) [e] [] pos) (iEnumT K ta) := by
  subst hK
  refine ⟨fun pins s σ H R I h => ?_⟩
  refine Call_ (ld_blt I hg hm boot_enumerate (PyProof.Rows.callWith_type1 (thn (ha.run pos pins s σ H _ I h) fun us s1 ⟨vs, H1, I1, r1, q1⟩ => ?_) hs rfl))
  obtain ⟨a, xs, ex, hq, q⟩ := q1
  subst ex
  cases r1 with
  | cons r rr =>
    cases rr
    cases r
    obtain ⟨its, rv, p', hz⟩ := I1.tuple hq
    have hal : a < s1.heap.objs.size := p'.lt
    refine enum_begins1 (begins_tuple a its.toArray) (show s1.heap.IsTuple a its.toArray from p') fun h' he hit hsz hk => wpAny_pyIter_enum he ?_
    have I2 : Inv X pins σ H1 { s1 with heap := h' } := I1.kept (t' := s1.toks) hk
    refine ⟨s1.heap.objs.size + 1, [s1.heap.objs.size + 1, s1.heap.objs.size], _, _, H1, rfl, I2, turn_enumT a (s1.heap.objs.size + 1) s1.heap.objs.size, ⟨⟨.none, he⟩, ⟨_, hit, rfl, rfl⟩, Nat.succ_ne_self _, Nat.ne_of_gt (Nat.lt_succ_of_lt hal), Nat.ne_of_lt hal⟩, fun b hb => ?_, q⟩
    have e' : b = s1.heap.objs.size + 1 ∨ b = s1.heap.objs.size := by simpa using hb
    have hle : s1.heap.objs.size ≤ b := by
      rcases e' with z | z
      · rw [z]; exact Nat.le_add_right _ _
      · rw [z]; exact Nat.le_refl _
    exact I1.fpOk hle (I1.hok.fresh hle)
theorem walk_enumT {K : PySem.W.Frag} {a : Addr} {xs : List V} : L2.Walk (IteT K a) xs.length (fun H => SqT K H a xs) (YPair (fun i => some (.int (i : Nat))) fun i => xs[i]?) :=
  ⟨fun i H hi h => ⟨xs, xs[i], h, List.getElem?_eq_getElem hi⟩, fun H h => ⟨xs, h, rfl⟩, fun i H x H' hi h ⟨T, y, e1, e2, e3, e4⟩ => ⟨T, _, y, e1, e2, e3, rfl, e4 xs h⟩⟩
section
variable {F : Fm} {c : Ctx} {T : List Tm} {σ : Sg} {H : Hp} {A : Nat → List Addr} {B : List Addr} {D : Ends} {α β γ ι τ : Type} {R : Rp α} {Rb : Rp β} {Rc : Rp γ} {m m1 m2 m3 : Md} {te ta tb tc to ti td : TE} {tt tu : TT} {tr : TS} {K : PySem.W.Frag}
theorem iw_enumT {W : (List β → Prop) → Prop} (h : EW c te m (rTup K Rb) W) : IW c (iEnumT K (tCons te tNil)) m (rPair K rInt Rb) (fun P => W fun xs => P (enum xs)) := fun P w T σ H hd Kk k =>
  h _ w T σ H hd _ fun xs v H' pn ⟨A, B, q⟩ => by
    obtain ⟨l, vs, e, hl, hs, q2⟩ := q.asTup (K := K)
    refine ⟨l, vs, by rw [e], hs, k (enum xs) _ _ H' pn ?_ ⟨A, B, q2⟩⟩
    refine itO_of (walk_enumT (xs := vs)) (by rw [enum_len, hl]) (fun t h => List.mem_cons_of_mem _ h) (fun hm n => nob_cons hm n) (fun F c T2 σ H s ⟨A, B, hd⟩ => (hd.pt (s _ (List.mem_cons_self))).1) fun F c T2 σ H s ⟨A, B, hd⟩ i hi x H' ⟨t, y, z, e0, hn, e1, e2, e3⟩ => ?_
    subst e0 e1
    refine hd.newTup (p := (rPair K rInt Rb).at _) hn fun H1 ex hs => ⟨t, y, z, rfl, hs, ?_, ?_⟩
    · cases e2; simp [enum]; rfl
    · have h0 : i < xs.length := by rw [enum_len] at hi; exact hi
      have := Rb.mono ex (pget' (hd.pt (K := K) (s _ List.mem_cons_self)).2 h0 e3)
      simpa [enum] using this
theorem iw_enumTP {S : Prop} {xs : List β} (h : EP c te m (rTup K Rb) S xs) : IWP c (iEnumT K (tCons te tNil)) m (rPair K rInt Rb) S (enum xs) := iw_enumT h.w
end
end TW

set_option maxRecDepth 100000
set_option maxHeartbeats 2000000
namespace TW
open PySem PySem.Spec PyProof.Rows L2
/-! ## 22. comprehensions with two fors -/
theorem wipe_get (vs : List Nat) (σ : Sg) (k : Nat) (hk : k < σ.length) : (L2.wipe σ vs)[k]? = if k ∈ vs then some none else σ[k]? := by
  induction vs with
  | nil => simp [L2.wipe]
  | cons v vs ih =>
    unfold L2.wipe
    by_cases e : k = v
    · subst e
      rw [List.getElem?_set_self (by rw [wipe_length]; exact hk)]; simp
    · rw [List.getElem?_set_ne (fun z => e z.symm), ih]
      simp [e]
theorem wipe_wipe {vs vs1 : List Nat} (h : ∀ i ∈ vs1, i ∈ vs) (σ : Sg) : L2.wipe (L2.wipe σ vs1) vs = L2.wipe σ vs := by
  apply List.ext_getElem?
  intro k
  by_cases hk : k < σ.length
  · rw [wipe_get _ _ _ (by rw [wipe_length]; exact hk), wipe_get _ _ _ hk, wipe_get _ _ _ hk]
    by_cases hm : k ∈ vs
    · simp [hm]
    · have : k ∉ vs1 := fun z => hm (h k z)
      simp [hm, this]
  · rw [List.getElem?_eq_none (by rw [wipe_length, wipe_length]; omega), List.getElem?_eq_none (by rw [wipe_length]; omega)]
section
variable {F : Fm} {c : Ctx} {T : List Tm} {σ : Sg} {H : Hp} {A : Nat → List Addr} {B : List Addr} {D : Ends} {α β γ ι τ : Type} {R : Rp α} {Rb : Rp β} {Rc : Rp γ} {m m1 m2 m3 : Md} {te ta tb tc to ti td : TE} {tt tu : TT} {tr : TS} {K : PySem.W.Frag}
def res2 (pt : β → Bool) (ys : β → List γ) (pt1 : β → γ → Bool) (fe : β → γ → α) (xs : List β) : List α := (xs.filter pt).flatMap fun x => ((ys x).filter (pt1 x)).map (fe x)
theorem res2_snoc {pt : β → Bool} {ys : β → List γ} {pt1 : β → γ → Bool} {fe : β → γ → α} (xs : List β) (x : β) : res2 pt ys pt1 fe (xs ++ [x]) = res2 pt ys pt1 fe xs ++ (if pt x = true then ((ys x).filter (pt1 x)).map (fe x) else []) := by
  unfold res2
  rw [List.filter_append, List.flatMap_append]
  congr 1
  by_cases h : pt x = true
  · rw [List.filter_cons_of_pos h, if_pos h]; simp
  · rw [List.filter_cons_of_neg h, if_neg h]; simp
theorem res2_len {pt : β → Bool} {ys : β → List γ} {pt1 : β → γ → Bool} {fe : β → γ → α} (xs : List β) : (res2 pt ys pt1 fe xs).length ≤ ((xs.filter pt).flatMap ys).length := by
  unfold res2
  generalize xs.filter pt = zs
  induction zs with
  | nil => simp
  | cons z zs ih =>
    simp only [List.flatMap_cons, List.length_append, List.length_map]
    have := List.length_filter_le (pt1 z) (ys z)
    omega
theorem eo_lc2 {wi wi1 : TI} {g g1 : TG} {tt1 : TT} {cg : β → Ctx} {cg1 : β → γ → Ctx} {js js1 vs vs1 : List Nat} {Wi : (List β → Prop) → Prop} {St : β → Prop} {pt : β → Bool} {Si1 : β → Prop} {ys : β → List γ} {St1 Se : β → γ → Prop} {pt1 : β → γ → Bool} {fe : β → γ → α}
    (hi : IW c wi m Rb Wi) (hg : GP (wipeC c vs) g m Rb cg js) (ht : ∀ x, TP' (cg x) tt (St x) (pt x))
    (hi1 : ∀ x, IWP (cg x) wi1 m2 Rc (Si1 x) (ys x)) (hg1 : ∀ x, GP (wipeC (cg x) vs1) g1 m2 Rc (cg1 x) js1) (ht1 : ∀ x y, TP' (cg1 x y) tt1 (St1 x y) (pt1 x y)) (he : ∀ x y, EP (cg1 x y) te m1 R (Se x y) (fe x y))
    (hus : ∀ i ∈ vs, isUS c i = true) (hj : ∀ j ∈ js, j ∈ vs) (hcg : ∀ x, wipeC (cg x) vs = wipeC c vs) (hcu : ∀ x, ∀ i ∈ vs, isUS (cg x) i = true)
    (hv1 : ∀ i ∈ vs1, i ∈ vs) (hj1 : ∀ j ∈ js1, j ∈ vs1) (hcg1 : ∀ x y, wipeC (cg1 x y) vs1 = wipeC (cg x) vs1) (hcu1 : ∀ x y, ∀ i ∈ vs1, isUS (cg1 x y) i = true) (hcgw : ∀ x, wipeC (wipeC (cg x) vs1) vs = wipeC c vs) (hcuw : ∀ x, ∀ i ∈ vs, isUS (wipeC (cg x) vs1) i = true) :
    EO c (tLc2 wi g tt wi1 g1 tt1 te vs vs1) (oList m1 R) (fun P => Wi fun xs => ((xs.filter pt).flatMap ys).length ≤ sizeLine ∧ (∀ x ∈ xs, St x ∧ (pt x = true → Si1 x ∧ ∀ y ∈ ys x, St1 x y ∧ (pt1 x y = true → Se x y))) ∧ P (res2 pt ys pt1 fe xs)) := fun {F} P w T σ H hd Q k => by
  exact hi _ w T σ H hd _ fun xs J T' H1 px io h1 => fun Dl hD => by
    obtain ⟨hsz, hall, hP⟩ := px
    obtain ⟨S, ⟨A, B, hS⟩, back, _⟩ := h1.saveAll hus
    have nG : ¬ ghst F Dl := fun ⟨o, z⟩ => by
      have := (hS.gh _ z).1
      rw [show H1 Dl = none from hD] at this; cases this
    have hu := hS.under hD (o := .lst []) trivial
    -- the length of what is made so far
    have hlen : ∀ (i : Nat) (hlt : i < xs.length), pt xs[i] = true → ((res2 pt ys pt1 fe (xs.take i)).length + (ys xs[i]).length ≤ sizeLine) := fun i hlt hp => by
      have e1 : xs = xs.take i ++ xs[i] :: xs.drop (i + 1) := by rw [List.getElem_cons_drop, List.take_append_drop]
      have e2 : ((xs.filter pt).flatMap ys).length = (((xs.take i).filter pt).flatMap ys).length + ((ys xs[i]).length + (((xs.drop (i + 1)).filter pt).flatMap ys).length) := by
        conv => lhs; rw [e1]
        rw [List.filter_append, List.filter_cons_of_pos hp, List.flatMap_append, List.length_append, List.flatMap_cons, List.length_append]
      have := res2_len (pt := pt) (ys := ys) (pt1 := pt1) (fe := fe) (xs.take i)
      omega
    refine ⟨fun i k H => k = xs.length - i ∧ i ≤ xs.length ∧ ∃ ws, HD (F.gho Dl (.lst ws)) (wipeC c vs) (⟨.non, m1, accSP R ws (res2 pt ys pt1 fe (xs.take i))⟩ :: (S ++ T')) (L2.wipe σ vs) H, ⟨xs.length, by simp, Nat.zero_le _, [], HD.push (p := accSP R [] _) hu (by show Paired _ _ _; simp [res2]; exact .nil)⟩, ?_⟩
    rintro i k2 H2 ⟨rfl, hile, ws, h2⟩
    have sT : ∀ t ∈ T', t ∈ (⟨.non, m1, accSP R ws (res2 pt ys pt1 fe (xs.take i))⟩ :: (S ++ T') : List Tm) := fun t z => List.mem_cons_of_mem _ (List.mem_append_right _ z)
    by_cases hlt : i < xs.length
    · refine .inr ⟨io.go _ _ _ _ _ sT h2 i hlt, fun H' => ∃ ws, HD (F.gho Dl (.lst ws)) (wipeC c vs) (⟨.non, m1, accSP R ws (res2 pt ys pt1 fe (xs.take (i + 1)))⟩ :: (S ++ T')) (L2.wipe σ vs) H', fun H' z => ⟨xs.length - (i + 1), by omega, rfl, hlt, z⟩, fun x H3 y => ?_⟩
      have h3 := io.yld _ _ _ _ _ sT h2 i hlt x H3 y
      have etake : xs.take (i + 1) = xs.take i ++ [xs[i]] := by rw [List.take_succ, List.getElem?_eq_getElem hlt]; rfl
      have hx := hall xs[i] (List.getElem_mem hlt)
      refine hg _ _ _ _ _ h3 _ fun σ4 H4 h4 off => ⟨wipe_off off hj, ?_⟩
      have hw4 := wipe_off off hj
      refine ht xs[i] hx.1 _ σ4 H4 h4 _ fun H5 h5 => ?_
      by_cases hp : pt xs[i] = true
      · rw [if_pos hp]
        have hx2 := hx.2 hp
        have hl0 := hlen i hlt hp
        generalize hxe : xs[i] = x0 at *
        refine hi1 x0 (fun zs => zs = ys x0) ⟨hx2.1, rfl⟩ _ σ4 H5 h5 _ fun zs J1 T1 H6 ez io1 h6 => ?_
        subst ez
        have h7 := h6.wipe (vs := vs1) fun j hj => isUS_free (hcu _ j (hv1 j hj))
        let part : Nat → List α := fun j => (((ys x0).take j).filter (pt1 x0)).map (fe x0)
        have pl : ∀ j, (part j).length ≤ j := fun j => by
          show ((((ys x0).take j).filter (pt1 x0)).map (fe x0)).length ≤ j
          rw [List.length_map]
          exact Nat.le_trans (List.length_filter_le _ _) (by rw [List.length_take]; omega)
        refine ⟨fun j k H => k = (ys x0).length - j ∧ j ≤ (ys x0).length ∧ ∃ ws, HD (F.gho Dl (.lst ws)) (wipeC (cg x0) vs1) (⟨.non, m1, accSP R ws (res2 pt ys pt1 fe (xs.take i) ++ part j)⟩ :: T1) (L2.wipe σ4 vs1) H, ⟨(ys x0).length, by simp, Nat.zero_le _, ws, ?_⟩, ?_⟩
        · obtain ⟨A7, B7, h7⟩ := h7
          have q := h7.tm _ (io1.sub _ List.mem_cons_self)
          refine HD.push (p := accSP R ws _) h7 ?_
          have e0 : part 0 = [] := by show ((((ys x0).take 0).filter (pt1 x0)).map (fe x0)) = []; simp
          rw [e0, List.append_nil]
          exact q
        · rintro j k3 H7 ⟨rfl, hjle, ws', h8⟩
          have sT1 : ∀ t ∈ T1, t ∈ (⟨.non, m1, accSP R ws' (res2 pt ys pt1 fe (xs.take i) ++ part j)⟩ :: T1 : List Tm) := fun t z => List.mem_cons_of_mem _ z
          by_cases hjlt : j < (ys x0).length
          · refine .inr ⟨io1.go _ _ _ _ _ sT1 h8 j hjlt, fun H' => ∃ ws, HD (F.gho Dl (.lst ws)) (wipeC (cg x0) vs1) (⟨.non, m1, accSP R ws (res2 pt ys pt1 fe (xs.take i) ++ part (j + 1))⟩ :: T1) (L2.wipe σ4 vs1) H', fun H' z => ⟨(ys x0).length - (j + 1), by omega, rfl, hjlt, z⟩, fun y H9 yy => ?_⟩
            have h9 := io1.yld _ _ _ _ _ sT1 h8 j hjlt y H9 yy
            have ep : part (j + 1) = part j ++ (if pt1 x0 (ys x0)[j] = true then [fe x0 (ys x0)[j]] else []) := by
              show ((((ys x0).take (j + 1)).filter (pt1 x0)).map (fe x0)) = _
              rw [List.take_succ, List.getElem?_eq_getElem hjlt, List.filter_append, List.map_append]
              show part j ++ _ = _
              congr 1
              by_cases hq : pt1 x0 (ys x0)[j] = true
              · rw [if_pos hq]; simp [hq]
              · rw [if_neg hq]; simp [hq]
            have hy := hx2.2 (ys x0)[j] (List.getElem_mem hjlt)
            refine hg1 x0 _ _ _ _ _ h9 _ fun σ5 H10 h10 off1 => ⟨wipe_off off1 hj1, ?_⟩
            have hw5 := wipe_off off1 hj1
            have again : ∀ {F2 : Fm} {T2 : List Tm} {H5 : Hp}, HD F2 (cg1 x0 (ys x0)[j]) T2 σ5 H5 → HD F2 (wipeC (cg x0) vs1) T2 (L2.wipe σ4 vs1) H5 := fun h5 => by
              have := h5.wipe (vs := vs1) fun j hj => isUS_free (hcu1 _ _ j hj)
              rw [hcg1, hw5] at this
              exact this
            refine ht1 x0 _ hy.1 _ σ5 H10 h10 _ fun H11 h11 => ?_
            by_cases hq : pt1 x0 (ys x0)[j] = true
            · rw [if_pos hq]
              refine he x0 _ (hy.2 hq) _ σ5 H11 h11 _ fun v H12 h12 => ?_
              obtain ⟨A6, B6, h6⟩ := again h12
              have p1 := h6.hd
              have p2 := h6.hd2
              have e1 : H12 Dl = some (.lst ws') := (h6.gh (Dl, .lst ws') List.mem_cons_self).1
              have hl : ws'.length = (res2 pt ys pt1 fe (xs.take i) ++ part j).length := Paired.length (show Paired (R.r _) ws' _ from p2)
              obtain ⟨h7, hv⟩ := h6.more (ws' := ws' ++ [v]) nG
              refine ⟨ws', e1, ?_, ws' ++ [v], ?_⟩
              · rw [hl, List.length_append]
                have := pl j
                omega
              · refine HD.push (p := accSP R (ws' ++ [v]) _) h7.tl.tl ?_
                rw [ep, if_pos hq, ← List.append_assoc]
                exact Paired.snoc (Paired.mono (fun _ _ q => R.mono (hv m1) q) p2) (R.mono (hv m1) p1)
            · rw [if_neg hq]
              refine ⟨ws', ?_⟩
              rw [ep, if_neg hq, List.append_nil]
              exact again h11
          · have e : j = (ys x0).length := by omega
            subst e
            refine .inl ⟨io1.stop _ _ _ _ _ sT1 h8, ws', ?_⟩
            have h9 := h8.wipe (vs := vs) fun j hj => isUS_free (hcuw _ j hj)
            rw [hcgw, wipe_wipe hv1, hw4] at h9
            have epl : part (ys x0).length = ((ys x0).filter (pt1 x0)).map (fe x0) := by
              show ((((ys x0).take (ys x0).length).filter (pt1 x0)).map (fe x0)) = _
              rw [List.take_length]
            rw [etake, res2_snoc, if_pos hp, ← epl]
            exact h9.sub fun t z => by
              rcases List.mem_cons.mp z with z | z
              · exact List.mem_cons.mpr (.inl z)
              · exact List.mem_cons_of_mem _ (io1.sub t (List.mem_cons_of_mem _ z))
      · rw [if_neg hp]
        refine ⟨ws, ?_⟩
        rw [etake, res2_snoc, if_neg hp, List.append_nil]
        have := h5.wipe (vs := vs) fun j hj => isUS_free (hcu _ j hj)
        rw [hcg, hw4] at this
        exact this
    · have e : i = xs.length := by omega
      subst e
      refine .inl ⟨io.stop _ _ _ _ _ sT h2, ?_⟩
      rw [List.take_length] at h2
      refine k _ _ _ hP ?_
      obtain ⟨A2, B2, h2⟩ := h2
      have e1 : H2 Dl = some (.lst ws) := (h2.gh (Dl, .lst ws) List.mem_cons_self).1
      obtain ⟨h3, hv⟩ := h2.away nG
      have h4 : HD F (wipeC c vs) (⟨.non, m1, accSP R ws (res2 pt ys pt1 fe xs)⟩ :: (S ++ T')) (L2.wipe σ vs) (fun a => if a = Dl then none else H2 a) := ⟨A2, B2, h3⟩
      have h5 : HD F c (⟨.non, m1, accSP R ws (res2 pt ys pt1 fe xs)⟩ :: T') σ (fun a => if a = Dl then none else H2 a) := back _ _ _ (h4.sub fun t z => by
        simp only [List.mem_append, List.mem_cons] at z ⊢
        rcases z with z | z | z
        · exact .inr (.inl z)
        · exact .inl z
        · exact .inr (.inr z))
      obtain ⟨A5, B5, h5⟩ := h5
      have h6 := (h5.sub (T' := T) fun t z => List.mem_cons_of_mem _ (io.sub t z)).allocO (m := m1) (R := R) (xs := res2 pt ys pt1 fe xs) (vs := ws) (l := Dl) (if_pos rfl) h5.hd
      have e2 : upd (fun a => if a = Dl then none else H2 a) Dl (.lst ws) = H2 := by
        funext a
        by_cases ea : a = Dl
        · subst ea; rw [upd_same, e1]
        · rw [upd_ne ea]; exact if_neg ea
      rw [e2] at h6
      exact h6
theorem eo_lc2P {wi wi1 : TI} {g g1 : TG} {tt1 : TT} {cg : β → Ctx} {cg1 : β → γ → Ctx} {js js1 vs vs1 : List Nat} {Si : Prop} {xs : List β} {St : β → Prop} {pt : β → Bool} {Si1 : β → Prop} {ys : β → List γ} {St1 Se : β → γ → Prop} {pt1 : β → γ → Bool} {fe : β → γ → α}
    (hi : IWP c wi m Rb Si xs) (hg : GP (wipeC c vs) g m Rb cg js) (ht : ∀ x, TP' (cg x) tt (St x) (pt x))
    (hi1 : ∀ x, IWP (cg x) wi1 m2 Rc (Si1 x) (ys x)) (hg1 : ∀ x, GP (wipeC (cg x) vs1) g1 m2 Rc (cg1 x) js1) (ht1 : ∀ x y, TP' (cg1 x y) tt1 (St1 x y) (pt1 x y)) (he : ∀ x y, EP (cg1 x y) te m1 R (Se x y) (fe x y))
    (hus : ∀ i ∈ vs, isUS c i = true) (hj : ∀ j ∈ js, j ∈ vs) (hcg : ∀ x, wipeC (cg x) vs = wipeC c vs) (hcu : ∀ x, ∀ i ∈ vs, isUS (cg x) i = true)
    (hv1 : ∀ i ∈ vs1, i ∈ vs) (hj1 : ∀ j ∈ js1, j ∈ vs1) (hcg1 : ∀ x y, wipeC (cg1 x y) vs1 = wipeC (cg x) vs1) (hcu1 : ∀ x y, ∀ i ∈ vs1, isUS (cg1 x y) i = true) (hcgw : ∀ x, wipeC (wipeC (cg x) vs1) vs = wipeC c vs) (hcuw : ∀ x, ∀ i ∈ vs, isUS (wipeC (cg x) vs1) i = true) :
    EOP c (tLc2 wi g tt wi1 g1 tt1 te vs vs1) (oList m1 R) (Si ∧ ((xs.filter pt).flatMap ys).length ≤ sizeLine ∧ ∀ x ∈ xs, St x ∧ (pt x = true → Si1 x ∧ ∀ y ∈ ys x, St1 x y ∧ (pt1 x y = true → Se x y))) (res2 pt ys pt1 fe xs) := fun P w T σ H hd Q k =>
  eo_lc2 hi hg ht hi1 hg1 ht1 he hus hj hcg hcu hv1 hj1 hcg1 hcu1 hcgw hcuw P ⟨w.1.1, w.1.2.1, w.1.2.2, w.2⟩ T σ H hd Q k
end
end TW

set_option maxRecDepth 100000
set_option maxHeartbeats 2000000
namespace TW
open PySem PySem.Spec PyProof.Rows L2
/-! ## 23. order: min, max, sorted; index; sums of tuples -/
class Od {α : Type} (K : PySem.W.Frag) (R : Rp α) [Dt K R] where
  lt : α → α → Bool
  alike : ∀ a b, PySem.W.alike (Dt.d K R a) (Dt.d K R b) = true
  nn : ∀ a, Dt.d K R a ≠ .none
  lt_eq : ∀ a b, PySem.W.dataLt (Dt.d K R a) (Dt.d K R b) = lt a b
section
variable {K : PySem.W.Frag} {α β γ : Type} {R : Rp α} {S : Rp β} {U : Rp γ}
instance : Od K rInt := ⟨fun a b => decide (a < b), fun a b => by show PySem.W.alike (.int a) (.int b) = true; simp only [PySem.W.alike], fun a e => (by cases e), fun a b => PySem.W.dataLt_int a b⟩
def lxLt [DecidableEq α] (lt : α → α → Bool) : List α → List α → Bool
  | [], [] => false
  | [], _ :: _ => true
  | _ :: _, [] => false
  | x :: xs, y :: ys => if x = y then lxLt lt xs ys else lt x y
theorem alikeAll_d [Dt K R] [Od K R] : ∀ xs ys : List α, PySem.W.alikeAll (xs.map (Dt.d K R)) (ys.map (Dt.d K R)) = true
  | [], _ => by rw [List.map_nil, PySem.W.alikeAll]
  | _ :: _, [] => by rw [List.map_nil, List.map_cons, PySem.W.alikeAll]
  | x :: xs, y :: ys => by
    rw [List.map_cons, List.map_cons, PySem.W.alikeAll, Od.alike x y, alikeAll_d xs ys]
    rfl
theorem eqv_dec [DecidableEq α] [Dt K R] (a b : α) : PyData.eqv (Dt.d K R a) (Dt.d K R b) = decide (a = b) := by rw [Bool.eq_iff_iff, Dt.inj, decide_eq_true_iff]
theorem lxAll_d [DecidableEq α] [Dt K R] [Od K R] : ∀ xs ys : List α, PyProof.Rows.lexLt itemOrd (PySem.W.keyToksAll (xs.map (Dt.d K R))) (PySem.W.keyToksAll (ys.map (Dt.d K R))) = lxLt (Od.lt K R) xs ys
  | [], [] => lex_irrefl _
  | [], y :: ys => by
    rw [List.map_nil, List.map_cons, PySem.W.toks_all_cons]
    simp only [PySem.W.keyToksAll]
    rw [lex_diff (O := itemOrd) (by simp)]
    rfl
  | x :: xs, [] => by
    rw [List.map_nil, List.map_cons, PySem.W.toks_all_cons]
    simp only [PySem.W.keyToksAll]
    rw [lex_diff (O := itemOrd) (by simp)]
    rfl
  | x :: xs, y :: ys => by
    rw [List.map_cons, List.map_cons, lxLt]
    by_cases h : x = y
    · rw [if_pos h, PySem.W.dataLt_all_yes (Od.alike x y) (by rw [eqv_dec, decide_eq_true_eq]; exact h), lxAll_d xs ys]
    · rw [if_neg h, PySem.W.dataLt_all_no (Od.alike x y) (by rw [eqv_dec, decide_eq_false_iff_not]; exact h)]
      exact Od.lt_eq x y
instance [DecidableEq α] [Dt K R] [Od K R] : Od K (rList R) := ⟨lxLt (Od.lt K R), fun xs ys => by show PySem.W.alike (.list _) (.list _) = true; simp only [PySem.W.alike]; exact alikeAll_d xs ys, fun a e => (by cases e), fun xs ys => (PySem.W.dataLt_list _ _).trans (lxAll_d xs ys)⟩
instance [DecidableEq α] [Dt K R] [Od K R] : Od K (rTup K R) := ⟨lxLt (Od.lt K R), fun xs ys => by show PySem.W.alike (.tuple _) (.tuple _) = true; simp only [PySem.W.alike]; exact alikeAll_d xs ys, fun a e => (by cases e), fun xs ys => (PySem.W.dataLt_tuple _ _).trans (lxAll_d xs ys)⟩
instance [DecidableEq α] [DecidableEq β] [Dt K R] [Od K R] [Dt K S] [Od K S] : Od K (rPair K R S) := ⟨fun p q => if p.1 = q.1 then (if p.2 = q.2 then false else Od.lt K S p.2 q.2) else Od.lt K R p.1 q.1, fun p q => by
    show PySem.W.alike (.tuple [_, _]) (.tuple [_, _]) = true
    simp only [PySem.W.alike, PySem.W.alikeAll, Od.alike, Bool.and_self], fun a e => (by cases e), fun p q => by
    refine (PySem.W.dataLt_tuple _ _).trans ?_
    by_cases h : p.1 = q.1
    · rw [if_pos h, PySem.W.dataLt_all_yes (Od.alike p.1 q.1) (by rw [eqv_dec, decide_eq_true_eq]; exact h)]
      by_cases h2 : p.2 = q.2
      · rw [PySem.W.dataLt_all_yes (Od.alike p.2 q.2) (by rw [eqv_dec, decide_eq_true_eq]; exact h2), lex_irrefl, if_pos h2]
      · rw [PySem.W.dataLt_all_no (Od.alike p.2 q.2) (by rw [eqv_dec, decide_eq_false_iff_not]; exact h2), if_neg h2]
        exact Od.lt_eq p.2 q.2
    · rw [if_neg h, PySem.W.dataLt_all_no (Od.alike p.1 q.1) (by rw [eqv_dec, decide_eq_false_iff_not]; exact h)]
      exact Od.lt_eq p.1 q.1⟩
/-- the first of the least, of the greatest -/
def mnB {α : Type} [Inhabited α] (lt : α → α → Bool) : List α → α
  | [] => default
  | x :: xs => xs.foldl (fun a y => if lt y a = true then y else a) x
def mxB {α : Type} [Inhabited α] (lt : α → α → Bool) : List α → α
  | [] => default
  | x :: xs => xs.foldl (fun a y => if lt a y = true then y else a) x
abbrev mnI (xs : List Int) : Int := mnB (fun a b => decide (a < b)) xs
abbrev mxI (xs : List Int) : Int := mxB (fun a b => decide (a < b)) xs
theorem minD_d [Dt K R] [Od K R] (x : α) : ∀ xs : List α, PySem.W.minD (Dt.d K R x) (xs.map (Dt.d K R)) = Dt.d K R (xs.foldl (fun a y => if Od.lt K R y a = true then y else a) x) := fun xs => by
  unfold PySem.W.minD
  induction xs generalizing x with
  | nil => rfl
  | cons y ys ih =>
    rw [List.map_cons, List.foldl_cons, List.foldl_cons, ← ih]
    (try dsimp only)
    rw [Od.lt_eq y x]
    cases Od.lt K R y x <;> rfl
theorem maxD_d [Dt K R] [Od K R] (x : α) : ∀ xs : List α, PySem.W.maxD (Dt.d K R x) (xs.map (Dt.d K R)) = Dt.d K R (xs.foldl (fun a y => if Od.lt K R a y = true then y else a) x) := fun xs => by
  unfold PySem.W.maxD
  induction xs generalizing x with
  | nil => rfl
  | cons y ys ih =>
    rw [List.map_cons, List.foldl_cons, List.foldl_cons, ← ih]
    (try dsimp only)
    rw [Od.lt_eq x y]
    cases Od.lt K R x y <;> rfl
theorem alikeAll_od [Dt K R] [Od K R] (xs : List α) : PySem.W.AlikeAll (xs.map (Dt.d K R)) := by
  constructor
  · intro x hx y hy
    obtain ⟨a, _, rfl⟩ := List.mem_map.mp hx
    obtain ⟨b, _, rfl⟩ := List.mem_map.mp hy
    exact Od.alike a b
  · intro x hx
    obtain ⟨a, _, rfl⟩ := List.mem_map.mp hx
    exact Od.nn a
end
/-! ### the calls -/
section
variable {X : Cx} {K : PySem.W.Frag}
/-- min(xs), max(xs): the item itself -/
def rMnD (K : PySem.W.Frag) (mx : Bool) : List V → Hp → VK → Prop := fun vs H Q => ∃ (a : Addr) (xs : List V) (d : PyData) (ds : List PyData), vs = [V.ref a] ∧ (SqL K H a xs ∨ SqT K H a xs) ∧ DpAll K H xs (d :: ds) ∧ PySem.W.AlikeAll (d :: ds) ∧ PyData.canLayAll0 (d :: ds) = true ∧ PyData.depthAll (d :: ds) ≤ 60 ∧
  ∀ (i : Nat) (x : V) (e : PyData), xs[i]? = some x → (d :: ds)[i]? = some e → e = (if mx then PySem.W.maxD d ds else PySem.W.minD d ds) → Q x H
theorem vals_at {xs : List V} {its : List Value} (r : Vals xs its) {i : Nat} {v : Value} (h : its[i]? = some v) : ∃ x, xs[i]? = some x ∧ RelV x v := by
  have r' : Paired RelV xs its := r
  clear r
  induction r' generalizing i with
  | nil => simp at h
  | cons a _ ih => cases i with
    | zero => simp at h; subst h; exact ⟨_, rfl, a⟩
    | succ i => simpa using ih (by simpa using h)
theorem layAll_mem : ∀ {ds : List PyData}, PyData.canLayAll0 ds = true → ∀ d ∈ ds, d.canLay0 = true
  | [], _, d, hd => by simp at hd
  | x :: xs, h, d, hd => by
    simp only [PyData.canLayAll0, Bool.and_eq_true] at h
    rcases List.mem_cons.mp hd with e | hd
    · rw [e]; exact h.1
    · exact layAll_mem h.2 d hd
theorem mnD_mem (x : PyData) : ∀ xs : List PyData, PySem.W.minD x xs ∈ x :: xs := fun xs => by
  unfold PySem.W.minD
  induction xs generalizing x with
  | nil => simp
  | cons y ys ih =>
    rw [List.foldl_cons]
    by_cases h : PySem.W.dataLt y x = true
    · rw [if_pos h]; exact List.mem_cons_of_mem _ (ih y)
    · rw [if_neg h]
      rcases List.mem_cons.mp (ih x) with e | e
      · rw [e]; exact List.mem_cons_self
      · exact List.mem_cons_of_mem _ (List.mem_cons_of_mem _ e)
theorem mxD_mem (x : PyData) : ∀ xs : List PyData, PySem.W.maxD x xs ∈ x :: xs := fun xs => by
  unfold PySem.W.maxD
  induction xs generalizing x with
  | nil => simp
  | cons y ys ih =>
    rw [List.foldl_cons]
    by_cases h : PySem.W.dataLt x y = true
    · rw [if_pos h]; exact List.mem_cons_of_mem _ (ih y)
    · rw [if_neg h]
      rcases List.mem_cons.mp (ih x) with e | e
      · rw [e]; exact List.mem_cons_self
      · exact List.mem_cons_of_mem _ (List.mem_cons_of_mem _ e)
theorem mnd_end {pins : List (Addr × Obj)} {σ : L2.St} {H : Hp} {s : Shared} {Q : VK} {xs : List V} {its : List Value} {ds : List PyData} {as : List Addr} {w : PyData} (I : Inv X pins σ H s) (rv : Vals xs its) (rs : ReadsAll s.heap its ds as) (hl : PyData.canLayAll0 ds = true) (hw : w ∈ ds)
    (q : ∀ (i : Nat) (x : V) (e : PyData), xs[i]? = some x → ds[i]? = some e → e = w → Q x H) {i : Nat} {v : Value} {h' : Heap} {tk : Nat} {bs : List Addr} (hi : its[i]? = some v) (r : Reads h' v w bs) (hk : ∀ b o, s.heap.get? b = some o → h'.get? b = some o) : L2.EP X pins σ Q v { s with heap := h', toks := tk } := by
  obtain ⟨x, hx, rx⟩ := vals_at rv hi
  have hn := PyProof.Rows.readsAll_len ds rs
  have hlt : i < ds.length := by rw [← hn]; exact (List.getElem?_eq_some_iff.mp hi).1
  have he : ds[i]? = some ds[i] := List.getElem?_eq_getElem hlt
  obtain ⟨bs', r', _⟩ := PySem.W.readsAll_at rs i v hi
  have e1 : ds.getD i .none = ds[i] := by rw [List.getD_eq_getElem?_getD, he]; rfl
  rw [e1] at r'
  have r2 := PyProof.Rows.Reads.keeps hk r'
  have e2 := SeqAt.readOf_eq (layAll_mem hl _ hw) r
  have e3 := SeqAt.readOf_eq (layAll_mem hl _ (List.getElem_mem hlt)) r2
  exact ⟨x, H, I.kept hk, rx, q i x ds[i] hx he (e3.symm.trans e2)⟩
theorem cr_minD (hK : X.K = K) (hc : X.calm = true) (hu : X.A.units + 65 < cLine) : CallR X (.builtin "min") (rMnD K false) := by
  subst hK
  intro pins s σ H vs us Q I r h
  obtain ⟨a, xs, d, ds, rfl, hs, ha, hal, hl, hd, q⟩ := h
  rw [Vals.ref1 r]
  have hu' : X.A.units + 1 + PyData.depthAll (d :: ds) < cLine := by omega
  rcases hs with hs | hs
  · obtain ⟨its, rv, pl, _⟩ := I.list hs
    obtain ⟨as, rs⟩ := Dp.readsAll I (d :: ds) _ its ha rv
    exact PySem.W.min_list_data (I.ok.hd hc) pl.isList rs hal hu' fun i v h' tk bs hi r' hk => mnd_end I rv rs hl (mnD_mem d ds) (fun i x e a b c => q i x e a b c) (by simpa using hi) r' hk
  · obtain ⟨its, rv, pl, _⟩ := I.tuple hs
    obtain ⟨as, rs⟩ := Dp.readsAll I (d :: ds) _ its ha rv
    exact PySem.W.min_tuple_data (I.ok.hd hc) (show s.heap.IsTuple a its.toArray from pl) rs hal hu' fun i v h' tk bs hi r' hk => mnd_end I rv rs hl (mnD_mem d ds) (fun i x e a b c => q i x e a b c) (by simpa using hi) r' hk
theorem cr_maxD' (hK : X.K = K) (hc : X.calm = true) (hu : X.A.units + 65 < cLine) : CallR X (.builtin "max") (rMnD K true) := by
  subst hK
  intro pins s σ H vs us Q I r h
  obtain ⟨a, xs, d, ds, rfl, hs, ha, hal, hl, hd, q⟩ := h
  rw [Vals.ref1 r]
  have hu' : X.A.units + 1 + PyData.depthAll (d :: ds) < cLine := by omega
  rcases hs with hs | hs
  · obtain ⟨its, rv, pl, _⟩ := I.list hs
    obtain ⟨as, rs⟩ := Dp.readsAll I (d :: ds) _ its ha rv
    exact PySem.W.max_list_data (I.ok.hd hc) pl.isList rs hal hu' fun i v h' tk bs hi r' hk => mnd_end I rv rs hl (mxD_mem d ds) (fun i x e a b c => q i x e a b c) (by simpa using hi) r' hk
  · obtain ⟨its, rv, pl, _⟩ := I.tuple hs
    obtain ⟨as, rs⟩ := Dp.readsAll I (d :: ds) _ its ha rv
    exact PySem.W.max_tuple_data (I.ok.hd hc) (show s.heap.IsTuple a its.toArray from pl) rs hal hu' fun i v h' tk bs hi r' hk => mnd_end I rv rs hl (mxD_mem d ds) (fun i x e a b c => q i x e a b c) (by simpa using hi) r' hk
/-- sum(t) -/
def rSumT (K : PySem.W.Frag) : List V → Hp → VK → Prop := fun vs H Q => ∃ (a : Addr) (ns : List Int), vs = [V.ref a] ∧ SqT K H a (ns.map V.int) ∧ Q (.int ns.sum) H
theorem cr_sumT (hK : X.K = K) (hc : X.calm = true) : CallR X (.builtin "sum") (rSumT K) := by
  subst hK
  intro pins s σ H vs us Q I r h
  obtain ⟨a, ns, rfl, hs, q⟩ := h
  obtain ⟨its, rv, pl, _⟩ := I.tuple hs
  rw [Vals.ref1 r]
  have hi := rv.ints
  have hl : s.heap.IsTuple a its.toArray := pl
  obtain ⟨xs, hx⟩ := hi.allInts.items
  have hn : numsOf its.toArray.toList = ns := by rw [show its.toArray.toList = its from rfl, hi.numsOf]
  rw [hx] at hl hn
  rw [nums_intItems] at hn
  refine PySem.W.ktm_sumG (I.ok.hd hc) hl fun h' tk t' hk => ?_
  rw [preSum_eq, List.take_of_length_le (by simp), hn]
  exact ⟨.int _, H, I.kept hk, ⟨_, rfl⟩, q⟩
end
end TW

set_option maxRecDepth 100000
set_option maxHeartbeats 2000000
namespace TW
open PySem PySem.Spec PyProof.Rows L2
section
variable {F : Fm} {c : Ctx} {T : List Tm} {σ : Sg} {H : Hp} {A : Nat → List Addr} {B : List Addr} {D : Ends} {α β γ ι τ : Type} {R : Rp α} {Rb : Rp β} {Rc : Rp γ} {m m1 m2 m3 : Md} {te ta tb tc to ti td : TE} {tt tu : TT} {tr : TS} {K : PySem.W.Frag}
theorem d_inj [Dt K R] {a b : α} (h : Dt.d K R a = Dt.d K R b) : a = b := (Dt.inj a b).mp (by rw [h]; exact (Dt.inj b b).mpr rfl)
theorem depAll_le [Dt K R] {n : Nat} (hd : Dt.dep K R ≤ n) (xs : List α) : PyData.depthAll (xs.map (Dt.d K R)) ≤ n := Nat.le_trans (depAll xs) hd
theorem mn_end [Inhabited α] [Dt K R] [Od K R] {mx : Bool} {us : List V} {xs : List α} (h2 : Paired (R.r (view F A B m H)) us xs) (hd : Dt.dep K R ≤ 59) (hn : 0 < xs.length) (h : HdA F c T σ H A B) {Q : VK}
    (k : ∀ v, HD F c (⟨v, m, R.at (if mx then mxB (Od.lt K R) xs else mnB (Od.lt K R) xs)⟩ :: T) σ H → Q v H) :
    ∃ d ds, DpAll K H us (d :: ds) ∧ PySem.W.AlikeAll (d :: ds) ∧ PyData.canLayAll0 (d :: ds) = true ∧ PyData.depthAll (d :: ds) ≤ 60 ∧ ∀ (i : Nat) (x : V) (e : PyData), us[i]? = some x → (d :: ds)[i]? = some e → e = (if mx then PySem.W.maxD d ds else PySem.W.minD d ds) → Q x H := by
  cases xs with
  | nil => simp at hn
  | cons x xs =>
    refine ⟨Dt.d K R x, xs.map (Dt.d K R), ?_, ?_, ?_, ?_, fun i y e hy he ee => ?_⟩
    · have := DpAll_of (K := K) (R := R) (Paired.mono (fun _ _ q => R.mono view_full q) h2)
      rwa [List.map_cons] at this
    · have := alikeAll_od (K := K) (R := R) (x :: xs)
      rwa [List.map_cons] at this
    · have := layAll (K := K) (R := R) (x :: xs)
      rwa [List.map_cons] at this
    · have := depAll_le (K := K) (R := R) (Nat.le_trans hd (by decide : 59 ≤ 60)) (x :: xs)
      rwa [List.map_cons] at this
    · obtain ⟨a, ha, ra⟩ := paired_atL h2 hy
      rw [← List.map_cons, List.getElem?_map, ha] at he
      have e1 : e = Dt.d K R a := (Option.some.inj he).symm
      refine k y (HD.push h (p := R.at _) ?_)
      have e2 : a = if mx then mxB (Od.lt K R) (x :: xs) else mnB (Od.lt K R) (x :: xs) := by
        cases mx with
        | true =>
          refine d_inj (K := K) (R := R) ?_
          rw [← e1, ee, if_pos rfl, maxD_d]; rfl
        | false =>
          refine d_inj (K := K) (R := R) ?_
          rw [← e1, ee, if_neg (by decide), minD_d]; rfl
      rw [← e2]
      exact ra
theorem ob_mnL [Inhabited α] [Dt K R] [Od K R] {xs : List α} (hd : Dt.dep K R ≤ 59 := by exact Nat.le_of_ble_eq_true rfl) : OB c (rMnD K false) [(m, (rList R).at xs)] m R (0 < xs.length) (mnB (Od.lt K R) xs) := fun s T σ H vs e h Q k => by
  obtain ⟨v, rfl, A, B, h⟩ := zip1 e h
  obtain ⟨l, us, e, h1, h2⟩ := (show (rList R).r (view _ A B m H) v xs from h.hd)
  obtain ⟨d, ds, q1, q2, q3, q4, q5⟩ := mn_end (K := K) (mx := false) h2 hd s h.tl (Q := Q) (fun v q => k v H q)
  exact ⟨l, us, d, ds, by rw [e], .inl (SqL.of (view_full _ _ h1)), q1, q2, q3, q4, q5⟩
theorem ob_mnT [Inhabited α] [Dt K R] [Od K R] {xs : List α} (hd : Dt.dep K R ≤ 59 := by exact Nat.le_of_ble_eq_true rfl) : OB c (rMnD K false) [(m, (rTup K R).at xs)] m R (0 < xs.length) (mnB (Od.lt K R) xs) := fun s T σ H vs e h Q k => by
  obtain ⟨v, rfl, A, B, h⟩ := zip1 e h
  obtain ⟨l, us, e, h1, h2⟩ := (show (rTup K R).r (view _ A B m H) v xs from h.hd)
  obtain ⟨d, ds, q1, q2, q3, q4, q5⟩ := mn_end (K := K) (mx := false) h2 hd s h.tl (Q := Q) (fun v q => k v H q)
  exact ⟨l, us, d, ds, by rw [e], .inr (SqT.ext view_full h1), q1, q2, q3, q4, q5⟩
theorem ob_mxL [Inhabited α] [Dt K R] [Od K R] {xs : List α} (hd : Dt.dep K R ≤ 59 := by exact Nat.le_of_ble_eq_true rfl) : OB c (rMnD K true) [(m, (rList R).at xs)] m R (0 < xs.length) (mxB (Od.lt K R) xs) := fun s T σ H vs e h Q k => by
  obtain ⟨v, rfl, A, B, h⟩ := zip1 e h
  obtain ⟨l, us, e, h1, h2⟩ := (show (rList R).r (view _ A B m H) v xs from h.hd)
  obtain ⟨d, ds, q1, q2, q3, q4, q5⟩ := mn_end (K := K) (mx := true) h2 hd s h.tl (Q := Q) (fun v q => k v H q)
  exact ⟨l, us, d, ds, by rw [e], .inl (SqL.of (view_full _ _ h1)), q1, q2, q3, q4, q5⟩
theorem ob_mxT [Inhabited α] [Dt K R] [Od K R] {xs : List α} (hd : Dt.dep K R ≤ 59 := by exact Nat.le_of_ble_eq_true rfl) : OB c (rMnD K true) [(m, (rTup K R).at xs)] m R (0 < xs.length) (mxB (Od.lt K R) xs) := fun s T σ H vs e h Q k => by
  obtain ⟨v, rfl, A, B, h⟩ := zip1 e h
  obtain ⟨l, us, e, h1, h2⟩ := (show (rTup K R).r (view _ A B m H) v xs from h.hd)
  obtain ⟨d, ds, q1, q2, q3, q4, q5⟩ := mn_end (K := K) (mx := true) h2 hd s h.tl (Q := Q) (fun v q => k v H q)
  exact ⟨l, us, d, ds, by rw [e], .inr (SqT.ext view_full h1), q1, q2, q3, q4, q5⟩
theorem ob_mnIL {xs : List Int} : OB c (rMnD K false) [(m, (rList rInt).at xs)] m rInt (0 < xs.length) (mnI xs) := ob_mnL (K := K)
theorem ob_mnIT {xs : List Int} : OB c (rMnD K false) [(m, (rTup K rInt).at xs)] m rInt (0 < xs.length) (mnI xs) := ob_mnT (K := K)
theorem ob_mxIL {xs : List Int} : OB c (rMnD K true) [(m, (rList rInt).at xs)] m rInt (0 < xs.length) (mxI xs) := ob_mxL (K := K)
theorem ob_mxIT {xs : List Int} : OB c (rMnD K true) [(m, (rTup K rInt).at xs)] m rInt (0 < xs.length) (mxI xs) := ob_mxT (K := K)
theorem ob_sumTt {xs : List Int} : OB c (rSumT K) [(m, (rTup K rInt).at xs)] .n rInt True xs.sum := fun _ T σ H vs e hd Q k => by
  obtain ⟨v, rfl, A, B, h⟩ := zip1 e hd
  obtain ⟨l, us, e, h1, h2⟩ := (show (rTup K rInt).r (view _ A B m H) v xs from h.hd)
  exact ⟨l, xs, by rw [e], by rw [← ints_of h2]; exact SqT.ext view_full h1, k _ H (HD.push h.tl (p := rInt.at _) rfl)⟩
/-! ### index -/
theorem idx_at [DecidableEq α] [Dt K R] {xs : List α} {x : α} (h : x ∈ xs) : ∃ z, (xs.map (Dt.d K R))[xs.idxOf x]? = some z ∧ PyData.eqv z (Dt.d K R x) = true ∧ ∀ (m : Nat) (z' : PyData), m < xs.idxOf x → (xs.map (Dt.d K R))[m]? = some z' → PyData.eqv z' (Dt.d K R x) = false := by
  have hl : xs.idxOf x < xs.length := List.idxOf_lt_length_iff.mpr h
  refine ⟨Dt.d K R x, ?_, (Dt.inj _ _).mpr rfl, fun m z' hm hz => ?_⟩
  · rw [List.getElem?_map, List.getElem?_eq_getElem hl, List.getElem_idxOf]; rfl
  · rw [List.getElem?_map] at hz
    obtain ⟨y, hy, rfl⟩ := Option.map_eq_some_iff.mp hz
    rw [eqv_dec, decide_eq_false_iff_not]
    rintro rfl
    obtain ⟨h1, h2⟩ := List.getElem?_eq_some_iff.mp hy
    exact SeqAt.lt_idxOf_ne hm h1 h2
theorem ep_indexL [DecidableEq α] [Dt K R] {S1 S2 : Prop} {xs : List α} {x : α} (h1 : EP c to m (rList R) S1 xs) (h2 : EP c te m2 R S2 x) (hd : Dt.dep K R ≤ 60 := by exact Nat.le_of_ble_eq_true rfl) : EP c (tBM K "list" (rIndexD K) to (tCons te tNil)) .n rInt (S1 ∧ S2 ∧ x ∈ xs) (xs.idxOf x : Nat) := fun s T σ H hh Q k =>
  h1 s.1 T σ H hh _ fun v H1 ⟨A, B, q⟩ => by
    obtain ⟨l, us, e, w1, w2⟩ := (show (rList R).r (view _ A B m H1) v xs from q.hd)
    refine ⟨by rw [e]; exact .inl ⟨rfl, us, SqL.of (view_full _ _ w1)⟩, h2 s.2.1 _ σ H1 ⟨A, B, q⟩ _ fun y H2 ⟨A, B, q2⟩ => ?_⟩
    obtain ⟨z, z1, z2, z3⟩ := idx_at (K := K) (R := R) s.2.2
    have hv : Dp K H2 v (.list (xs.map (Dt.d K R))) := view_sq view_full (Dt.ok (K := K) (R := rList R) q2.hd2)
    refine ⟨l, y, Dt.d K R x, xs.map (Dt.d K R), xs.idxOf x, z, e, rfl, by rw [← e]; exact hv, view_sq view_full (Dt.ok q2.hd), shaped_L hd xs, shaped_d (by omega) x, z1, z2, z3, k _ H2 (HD.push q2.tl.tl (p := rInt.at _) rfl)⟩
theorem mt_indexDK {X : Cx} (hK : X.K = K) (hu : X.A.units + 65 < cLine) : MtR X "list.index" (rIndexD K) := by subst hK; exact mt_indexD hu
/-! ### optional items that are all there -/
theorem unopt_P [Inhabited α] {V0 : Hp} : ∀ {us : List V} {xs : List (Option α)}, Paired ((rOpt R).r V0) us xs → (∀ x ∈ xs, x.isSome = true) → Paired (R.r V0) us (xs.map fun x => x.getD default)
  | _, _, .nil, _ => .nil
  | _, some a :: _, .cons h t, hs => .cons h.2 (unopt_P t fun x hx => hs x (List.mem_cons_of_mem _ hx))
  | _, none :: _, .cons h t, hs => by have := hs none List.mem_cons_self; simp at this
theorem opt_P [NN R] {V0 : Hp} : ∀ {us : List V} {xs : List α}, Paired (R.r V0) us xs → Paired ((rOpt R).r V0) us (xs.map some)
  | _, _, .nil => .nil
  | _, _ :: _, .cons h t => .cons ⟨NN.nn h, h⟩ (opt_P t)
theorem ep_unoptT [Inhabited α] {S : Prop} {xs : List (Option α)} (h : EP c te m (rTup K (rOpt R)) S xs) : EP c te m (rTup K R) (S ∧ ∀ x ∈ xs, x.isSome = true) (xs.map fun x => x.getD default) := fun s T σ H hd Q k =>
  h s.1 T σ H hd _ fun v H' ⟨A, B, q⟩ => k v H' ⟨A, B, q.re (p' := (rTup K R).at _) (by
    obtain ⟨l, us, e, h1, h2⟩ := (show (rTup K (rOpt R)).r (view _ A B m H') v xs from q.hd)
    exact ⟨l, us, e, h1, unopt_P h2 s.2⟩)⟩
theorem ep_unoptL [Inhabited α] {S : Prop} {xs : List (Option α)} (h : EP c te m (rList (rOpt R)) S xs) : EP c te m (rList R) (S ∧ ∀ x ∈ xs, x.isSome = true) (xs.map fun x => x.getD default) := fun s T σ H hd Q k =>
  h s.1 T σ H hd _ fun v H' ⟨A, B, q⟩ => k v H' ⟨A, B, q.re (p' := (rList R).at _) (by
    obtain ⟨l, us, e, h1, h2⟩ := (show (rList (rOpt R)).r (view _ A B m H') v xs from q.hd)
    exact ⟨l, us, e, h1, unopt_P h2 s.2⟩)⟩
theorem ep_optT [NN R] {S : Prop} {xs : List α} (h : EP c te m (rTup K R) S xs) : EP c te m (rTup K (rOpt R)) S (xs.map some) := fun s T σ H hd Q k =>
  h s T σ H hd _ fun v H' ⟨A, B, q⟩ => k v H' ⟨A, B, q.re (p' := (rTup K (rOpt R)).at _) (by
    obtain ⟨l, us, e, h1, h2⟩ := (show (rTup K R).r (view _ A B m H') v xs from q.hd)
    exact ⟨l, us, e, h1, opt_P h2⟩)⟩
end
end TW

set_option maxRecDepth 100000
set_option maxHeartbeats 2000000
namespace TW
open PySem PySem.Spec PyProof.Rows L2
/-! ## 24. x[i], y[j] = a, b -/
section
variable {F : Fm} {c : Ctx} {T : List Tm} {σ : Sg} {H : Hp} {D : Ends} {α β : Type} {R : Rp α} {R2 : Rp β} {m m1 m2 m3 m4 : Md} {to ti to2 ti2 t1 t2 : TE} {tr : TS} {K : PySem.W.Frag}
theorem gsub_run {i : Nat} {S : Prop} {xs : List α} {up : List α → OP} {Wk : (Int → Prop) → Prop} {x : α} {y : V} {T : List Tm} (lv : LV c to i S m (oList m R) xs up) (hk : EW c ti m3 rInt Wk) (hnb : ctxNB c = true) (hm : m ≠ .b) (nT : NoB T)
    (h1 : HD F c (⟨y, m, R.at x⟩ :: T) σ H) (s : S) {P : Int → Prop} (pk : Wk P) {Q : Sg → Hp → Prop} (k : ∀ j H', P j → HD F (c.set i (.ow (up (setI xs j x)))) T σ H' → Q σ H') (hP : ∀ j, P j → InB xs.length j) : gSub to ti rSetL y σ H Q :=
  lv.ev _ σ H s h1 _ fun v X H2 h2 inv => hk _ pk _ σ H2 h2 _ fun j z H3 pj ⟨A, B, h3⟩ => by
  obtain ⟨l, vs, ev, hH, hp, go⟩ := lv.at s nT hnb hm inv (fun t ht => List.mem_cons_of_mem _ (List.mem_append_left _ ht)) h3 (fun t ht => List.mem_cons_of_mem _ (List.mem_append_right _ (List.mem_cons_of_mem _ ht)))
  obtain ⟨p1, p2⟩ := posI_at (hP j pj)
  refine ⟨l, vs, j, posI xs.length j, ev, h3.hd, hH, by rw [hp.length]; exact p2, ?_⟩
  have hy : R.r (view F A B m H3) y x := h3.tm ⟨y, m, R.at x⟩ (by simp)
  refine k j _ pj ⟨A, B, go (vs.set _ y) (setI xs j x) [] (by simp) (fun t ht => by simp at ht) ?_⟩
  unfold setI
  exact Paired.setAt hp hy
theorem sw_sub2 {i i2 : Nat} {S1 : Prop} {S2 : List α → Prop} {xs : List α} {ys : List α → List β} {up : List α → OP} {up2 : List α → List β → OP} {Wa : (α → Prop) → Prop} {Wb : α → (β → Prop) → Prop} {Wk : (Int → Prop) → Prop} {Wl : List α → (Int → Prop) → Prop} {Wr : α → β → List α → List β → Prop}
    (he1 : EW c t1 m R Wa) (he2 : ∀ x, EW c t2 m2 R2 (Wb x)) (lv1 : LV c to i S1 m (oList m R) xs up) (hk1 : EW c ti m3 rInt Wk)
    (lv2 : ∀ v, LV (c.set i (.ow (up v))) to2 i2 (S2 v) m2 (oList m2 R2) (ys v) (up2 v)) (hk2 : ∀ v, EW (c.set i (.ow (up v))) ti2 m4 rInt (Wl v))
    (k : ∀ x y v u, SW F ((c.set i (.ow (up v))).set i2 (.ow (up2 v u))) T tr D (Wr x y v u)) (hnb : ctxNB c = true := by rfl) (hnb2 : ∀ v, ctxNB (c.set i (.ow (up v))) = true := by intro _; rfl) (hm : m ≠ .b := by decide) (hm2 : m2 ≠ .b := by decide) :
    SW F c T (tSeq (tAsg (tTup (tCons t1 (tCons t2 tNil))) (gTup K 2 (gCons (gSub to ti rSetL) (gCons (gSub to2 ti2 rSetL) gNil)))) tr) D
      (Wa fun x => Wb x fun y => S1 ∧ Wk fun j => InB xs.length j ∧ ∀ v, v = setI xs j x → S2 v ∧ Wl v fun l => InB (ys v).length l ∧ ∀ u, u = setI (ys v) l y → Wr x y v u) :=
  fun nT w σ H hd => he1 _ w T σ H hd _ fun x vx H1 px h1 => he2 x _ px _ σ H1 h1 _ fun y vy H2 py ⟨A, B, q⟩ => by
  refine ⟨(by show 2 ≤ sizeLine; decide), fun l hl => ⟨l, [vx, vy], rfl, SqT.of upd_same, rfl, vx, [vy], rfl, ?_⟩⟩
  have nT2 : NoB (⟨vy, m2, R2.at y⟩ :: T) := fun t ht => by
    rcases List.mem_cons.mp ht with rfl | h
    · exact hm2
    · exact nT t h
  refine gsub_run lv1 hk1 hnb hm nT2 (T := ⟨vy, m2, R2.at y⟩ :: T) (x := x) ⟨A, B, (q.alloc hl).sub fun t ht => ?_⟩ py.1 py.2 (fun j H3 pj h3 => ?_) (fun j pj => pj.1)
  · simp only [List.mem_cons] at ht ⊢
    rcases ht with h | h | h
    · exact .inr (.inl h)
    · exact .inl h
    · exact .inr (.inr h)
  · obtain ⟨s2, w2⟩ := pj.2 _ rfl
    refine ⟨vy, [], rfl, gsub_run (lv2 _) (hk2 _) (hnb2 _) hm2 nT h3 s2 w2 (fun l2 H4 pl h4 => ?_) (fun j pj => pj.1)⟩
    exact ⟨rfl, k x y _ _ nT (pl.2 _ rfl) _ _ h4⟩
end
end TW

set_option maxRecDepth 100000
set_option maxHeartbeats 4000000
/-! ## 25. tuple * int, once too -/
namespace L2
open PySem PySem.Spec PyProof.Rows
theorem tuple_mulOne (l : Addr) (items : Array Value) (n : Nat) (dd : Option Addr) (sl : Array (Option Value)) (x : Int) (u : Tok) (c0 : (decide (x < -(2 ^ 63)) || decide (x ≥ 2 ^ 63)) = false) (c1 : (items.isEmpty || x == 1) = true) :
    Meets (Builtin.«tuple.__mul__» ⟨[.ref l, .int x u], []⟩) (fun _ R s => s.heap.get? l = some { cls := .type "tuple", dict := dd, data := .seq items n, slots := sl } ∧ R (.ok (.ret (.ref l))) s) :=
  .of_wp fun prog w A R s h => by
    obtain ⟨hp, g, d, tk, os⟩ := s
    obtain ⟨hl, h⟩ := h
    have f1 := AutoSeq1.idx_int
    wp_walk using wpAny_loadPart' hl
    repeat (first
      | (refine wpAny_ite_false (decide_eq_false (by rw [c0]; exact Bool.false_ne_true)) ?_; wp_walk using wpAny_loadPart' hl)
      | (refine wpAny_ite_true (decide_eq_true c1) ?_; wp_walk using wpAny_loadPart' hl))
    exact ⟨_, rfl, h⟩
def rRepU (K : PySem.W.Frag) : R2 := fun x y H Q => ∃ l k xs, x = .ref l ∧ y = .int k ∧ SqT K H l xs ∧ xs ≠ [] ∧ 1 ≤ k ∧ k ≤ 1000 ∧ xs.length ≤ 1000 ∧ (k = 1 → Q (.ref l) H) ∧ ∀ p, H p = none → Q (.ref p) (upd H p (.tup (List.replicate k.toNat xs).flatten))
section
variable {X : Cx}
theorem op_repU : OpR X (binaryOp .Mult) (rRepU X.K) := by
  intro pins s σ H x y v u Q I rx ry h
  obtain ⟨l, k, xs, rfl, rfl, hT, hne, h1, h2, hz, q1, q⟩ := h
  by_cases hk : 2 ≤ k
  · exact op_repT pins s σ H _ _ v u Q I rx ry ⟨l, k, xs, rfl, rfl, hT, hne, hk, h2, hz, q⟩
  have ek : k = 1 := by omega
  subst ek
  have rx0 := rx
  cases rx
  obtain ⟨t, rfl⟩ := ry
  obtain ⟨its, r, ⟨⟨cls, dd, data, sl⟩, ho, hc, n, hd⟩, hs⟩ := I.tuple hT
  simp only at hc hd
  subst hc hd
  have c1 : (its.toArray.isEmpty || (1 : Int) == 1) = true := by simp
  refine wpAny_binaryOp_repeat_ref (T := "tuple") (U := "int") (by decide) ⟨_, ho, rfl⟩ (fun s' => typeIs_int s' 1 t) noFill_tuple_mul F.fills_int_mul F.slot_int_rmul repeat_tuple F.slot_int_index.lookup
    (call_meets F.slot_int_rmul (typeIs_int s 1 t) F.entry_int_rmul (F.args_int_rmul_2 _ _) (int_rmul_tuple 1 t l its.toArray n dd sl)
      ⟨ho, rfl, ⟨_, ho, rfl⟩, call_meets F.slot_tuple_mul ⟨_, ho, rfl⟩ F.entry_tuple_mul (F.args_tuple_mul_2 _ _) (tuple_mulOne l its.toArray n dd sl 1 t (by rfl) c1) ⟨ho, ?_⟩⟩)
  exact ⟨.ref l, H, I, rx0, q1 rfl⟩
theorem op_repUK {K : PySem.W.Frag} (hK : X.K = K) : OpR X (binaryOp .Mult) (rRepU K) := by subst hK; exact op_repU
end
end L2

namespace TW
open PySem PySem.Spec PyProof.Rows L2
section
variable {F : Fm} {c : Ctx} {T : List Tm} {σ : Sg} {H : Hp} {D : Ends} {α β : Type} {R : Rp α} {m m1 m2 : Md} {K : PySem.W.Frag}
theorem o2_repT : O2 c (rRepU K) m (rTup K R) m2 rInt m (rTup K R) (fun a k => a ≠ [] ∧ 1 ≤ k ∧ k ≤ 1000 ∧ a.length ≤ 1000) (fun a k => repL a k) := fun a b s T σ H x y ⟨A, B, h⟩ Q k => by
  obtain ⟨l, vs, e, q1, q2⟩ := (show (rTup K R).r (view _ A B m H) x a from h.hd2)
  have hb : y = .int b := h.hd
  refine ⟨l, b, vs, e, hb, SqT.ext view_full q1, fun z => s.1 ?_, s.2.1, s.2.2.1, by rw [q2.length]; exact s.2.2.2, fun e1 => k _ _ (HD.push h.tl.tl (p := (rTup K R).at _) ⟨l, vs, rfl, q1, ?_⟩), fun p hp => k _ _ (h.tl.tl.newTup (p := (rTup K R).at (repL a b)) hp fun H4 e hs => ⟨p, _, rfl, hs, Paired.mono (fun _ _ z => R.mono e z) (by unfold repL; exact paired_rep q2 _)⟩)⟩
  · subst z; cases q2; rfl
  · subst e1
    show Paired _ vs (repL a 1)
    have : repL a 1 = a := by simp [repL]
    rw [this]
    exact q2
end
end TW

set_option maxRecDepth 100000
set_option maxHeartbeats 4000000
namespace TW
open PySem PySem.Spec PyProof.Rows L2
/-! ## 26. sorted -/
/-- sorted(xs), data of any depth -/
def rSrtD (K : PySem.W.Frag) : List V → Hp → VK → Prop := fun vs H Q => ∃ (a : Addr) (β : Type) (bs : List β) (fv : β → V) (enc : β → PyData), vs = [V.ref a] ∧ SqL K H a (bs.map fv) ∧ DpAll K H (bs.map fv) (bs.map enc) ∧
  PySem.W.AllAlike (bs.map enc) ∧ PySem.W.Sortable (bs.map enc) ∧ PyData.depthAll (bs.map enc) ≤ 60 ∧ ∀ p, H p = none → Q (.ref p) (upd H p (.lst ((bs.mergeSort (PySem.W.dataLe false enc)).map fv)))
section
variable {X : Cx} {K : PySem.W.Frag}
theorem each_vals {β : Type} {fv : β → V} : ∀ {bs : List β} {its : List Value}, Vals (bs.map fv) its → PySem.W.EachIs (fun v b => RelV (fv b) v) its bs
  | [], its, h => by cases h; exact .nil
  | b :: bs, its, h => by
    rw [List.map_cons] at h
    cases h with
    | cons h1 h2 => exact .cons h1 (each_vals h2)
theorem vals_each {β : Type} {fv : β → V} : ∀ {bs : List β} {its : List Value}, PySem.W.EachIs (fun v b => RelV (fv b) v) its bs → Vals (bs.map fv) its
  | _, _, .nil => .nil
  | _, _, .cons h1 h2 => .cons h1 (vals_each h2)
theorem cr_srtD (hK : X.K = K) (hu : X.A.units + 65 < cLine) : CallR X (.builtin "sorted") (rSrtD K) := by
  subst hK
  intro pins s σ H vs us Q I r h
  obtain ⟨a, β, bs, fv, enc, rfl, hs, ha, hal, hk, hd, q⟩ := h
  obtain ⟨its, rv, pl, hz⟩ := I.list hs
  rw [Vals.ref1 r]
  obtain ⟨as, rs⟩ := Dp.readsAll I _ _ its ha rv
  rw [List.length_map] at hz
  refine PySem.W.sorted_data (enc := enc) pl.isList (each_vals rv) (PySem.W.readsAll_each enc rs) hal hk hz (fun b hb => ?_) fun out hl eo => ?_
  · have : (enc b).depth ≤ 60 := depthAll_mem.mp hd _ (List.mem_map.mpr ⟨b, hb, rfl⟩)
    omega
  · obtain ⟨ep, he'⟩ := PyProof.Rows.sortedAll_at s.heap its out.toArray
    have hlen : ((bs.mergeSort (PySem.W.dataLe false enc)).map fv).length ≤ sizeLine := by
      rw [List.length_map, List.length_mergeSort]
      exact hz
    exact ⟨.ref _, upd H (s.heap.objs.size + 1) (.lst ((bs.mergeSort (PySem.W.dataLe false enc)).map fv)), I.laid (t' := s.toks) (fun _ _ => PyProof.Rows.sortedAll_old) (Nat.le_succ _) ⟨hlen, out, ep, vals_each eo, he'⟩, rfl, q _ (I.hok.fresh (Nat.le_succ _))⟩
end
/-- none of them a tuple, or all of them not empty -/
class Srt (K : PySem.W.Frag) {α : Type} (R : Rp α) [Dt K R] : Prop where
  ok : ∀ xs : List α, PySem.W.Sortable (xs.map (Dt.d K R))
section
variable {K : PySem.W.Frag} {α β γ : Type} {R : Rp α} {S : Rp β} {U : Rp γ}
instance : Srt K rInt := ⟨fun xs => .inr fun d hd => by
  obtain ⟨a, _, rfl⟩ := List.mem_map.mp hd
  exact ⟨fun e => (by cases e), fun ys e => (by cases e)⟩⟩
instance [Dt K R] : Srt K (rList R) := ⟨fun xs => .inr fun d hd => by
  obtain ⟨a, _, rfl⟩ := List.mem_map.mp hd
  exact ⟨fun e => (by cases e), fun ys e => (by cases e)⟩⟩
instance [Dt K R] [Dt K S] : Srt K (rPair K R S) := ⟨fun xs => .inl fun d hd => by
  obtain ⟨a, _, rfl⟩ := List.mem_map.mp hd
  exact ⟨_, _, rfl⟩⟩
/-- in order -/
@[irreducible] def srt {α : Type} (lt : α → α → Bool) (xs : List α) : List α := xs.mergeSort fun a b => !lt b a
theorem srt_eq (lt : α → α → Bool) (xs : List α) : srt lt xs = xs.mergeSort fun a b => !lt b a := by unfold srt; rfl
theorem srt_pairs [Dt K R] [Od K R] (bs : List (V × α)) : (bs.mergeSort (PySem.W.dataLe false fun p => Dt.d K R p.2)).map Prod.snd = srt (Od.lt K R) (bs.map Prod.snd) := by
  rw [srt_eq]
  refine List.map_mergeSort fun a _ b _ => ?_
  rw [PySem.W.dataLe_eq]
  show (!PySem.W.dataLt (Dt.d K R b.2) (Dt.d K R a.2)) = _
  rw [Od.lt_eq]
theorem zip_of {G : V → α → Prop} : ∀ {us : List V} {xs : List α}, Paired G us xs → (us.zip xs).map Prod.fst = us ∧ (us.zip xs).map Prod.snd = xs ∧ ∀ p ∈ us.zip xs, G p.1 p.2
  | _, _, .nil => ⟨rfl, rfl, fun p hp => by cases hp⟩
  | _, _, .cons h t => by
    obtain ⟨e1, e2, e3⟩ := zip_of t
    refine ⟨by simp [e1], by simp [e2], fun p hp => ?_⟩
    rcases List.mem_cons.mp hp with rfl | hp
    · exact h
    · exact e3 p hp
theorem paired_map {G : V → α → Prop} : ∀ {bs : List (V × α)}, (∀ p ∈ bs, G p.1 p.2) → Paired G (bs.map Prod.fst) (bs.map Prod.snd)
  | [], _ => .nil
  | b :: bs, h => .cons (h b (List.mem_cons_self ..)) (paired_map fun p hp => h p (List.mem_cons_of_mem _ hp))
end
section
variable {F : Fm} {c : Ctx} {T : List Tm} {σ : Sg} {H : Hp} {A : Nat → List Addr} {B : List Addr} {D : Ends} {α β : Type} {R : Rp α} {m m1 m2 : Md} {te : TE} {K : PySem.W.Frag}
theorem srt_end [Dt K R] [Od K R] [Srt K R] {us : List V} {xs : List α} (hd : Dt.dep K R ≤ 59) (h2 : Paired (R.r (view F A B m H)) us xs) : ∃ bs : List (V × α), bs.map Prod.fst = us ∧ DpAll K H (bs.map Prod.fst) (bs.map fun p => Dt.d K R p.2) ∧ PySem.W.AllAlike (bs.map fun p => Dt.d K R p.2) ∧
    PySem.W.Sortable (bs.map fun p => Dt.d K R p.2) ∧ PyData.depthAll (bs.map fun p => Dt.d K R p.2) ≤ 60 ∧ Paired (R.r (view F A B m H)) ((bs.mergeSort (PySem.W.dataLe false fun p => Dt.d K R p.2)).map Prod.fst) (srt (Od.lt K R) xs) := by
  obtain ⟨e1, e2, e3⟩ := zip_of h2
  have em : ((us.zip xs).map fun p => Dt.d K R p.2) = xs.map (Dt.d K R) := by
    have : ((us.zip xs).map Prod.snd).map (Dt.d K R) = xs.map (Dt.d K R) := by rw [e2]
    rw [List.map_map] at this
    exact this
  refine ⟨us.zip xs, e1, ?_, ?_, ?_, ?_, ?_⟩
  · rw [e1, em]
    exact DpAll_of (K := K) (R := R) (Paired.mono (fun _ _ q => R.mono view_full q) h2)
  · rw [em]
    intro d hd d' hd'
    obtain ⟨a, _, rfl⟩ := List.mem_map.mp hd
    obtain ⟨b, _, rfl⟩ := List.mem_map.mp hd'
    exact Od.alike a b
  · rw [em]; exact Srt.ok xs
  · rw [em]; exact depAll_le (K := K) (R := R) (Nat.le_trans hd (by decide : 59 ≤ 60)) xs
  · have := srt_pairs (K := K) (R := R) (us.zip xs)
    rw [e2] at this
    rw [← this]
    exact paired_map fun p hp => e3 p (List.mem_mergeSort.mp hp)
theorem eo_srt [Dt K R] [Od K R] [Srt K R] {W : (List α → Prop) → Prop} (h : EW c te m (rList R) W) (hd : Dt.dep K R ≤ 59 := by exact Nat.le_of_ble_eq_true rfl) : EO c (tCB (rSrtD K) (tCons te tNil)) (oList m R) (fun P => W fun xs => P (srt (Od.lt K R) xs)) := fun P w T σ H hh Q k => h _ w T σ H hh _ fun xs v H' px ⟨A, B, q⟩ => by
  obtain ⟨l, vs, e, h1, h2⟩ := (show (rList R).r (view _ A B m H') v xs from q.hd)
  obtain ⟨bs, b1, b2, b3, b4, b5, b6⟩ := srt_end (K := K) (H := H') hd h2
  exact ⟨l, V × α, bs, Prod.fst, fun p => Dt.d K R p.2, by rw [e], by rw [b1]; exact SqL.of (view_full _ _ h1), b2, b3, b4, b5, fun l2 hl => k _ _ _ px (q.tl.allocO hl b6)⟩
theorem eo_srti [Im R] [Dt K R] [Od K R] [Srt K R] {W : (List α → Prop) → Prop} (h : EW c te m (rList R) W) (hd : Dt.dep K R ≤ 59 := by exact Nat.le_of_ble_eq_true rfl) : EO c (tCB (rSrtD K) (tCons te tNil)) (oList .n R) (fun P => W fun xs => P (srt (Od.lt K R) xs)) := fun P w T σ H hh Q k => h _ w T σ H hh _ fun xs v H' px ⟨A, B, q⟩ => by
  obtain ⟨l, vs, e, h1, h2⟩ := (show (rList R).r (view _ A B m H') v xs from q.hd)
  obtain ⟨bs, b1, b2, b3, b4, b5, b6⟩ := srt_end (K := K) (H := H') hd h2
  exact ⟨l, V × α, bs, Prod.fst, fun p => Dt.d K R p.2, by rw [e], by rw [b1]; exact SqL.of (view_full _ _ h1), b2, b3, b4, b5, fun l2 hl => k _ _ _ px (q.tl.allocO hl (q.imAll b6))⟩
theorem eo_srtP [Dt K R] [Od K R] [Srt K R] {S : Prop} {xs : List α} (h : EP c te m (rList R) S xs) (hd : Dt.dep K R ≤ 59 := by exact Nat.le_of_ble_eq_true rfl) : EOP c (tCB (rSrtD K) (tCons te tNil)) (oList m R) S (srt (Od.lt K R) xs) := eo_srt h.w hd
theorem eo_srtiP [Im R] [Dt K R] [Od K R] [Srt K R] {S : Prop} {xs : List α} (h : EP c te m (rList R) S xs) (hd : Dt.dep K R ≤ 59 := by exact Nat.le_of_ble_eq_true rfl) : EOP c (tCB (rSrtD K) (tCons te tNil)) (oList .n R) S (srt (Od.lt K R) xs) := eo_srti h.w hd
/-- a, b = a list -/
theorem sw_unl2 [Inhabited α] {F : Fm} {g1 g2 : TG} {c1 : α → Ctx} {c2 : α → α → Ctx} {js ks : List Nat} {tr : TS} {We : (List α → Prop) → Prop} {Wr : α → α → Prop} (he : EW c te m (rList R) We) (h1 : GP c g1 m R c1 js) (h2 : ∀ a, GP (c1 a) g2 m R (c2 a) ks) (k : ∀ a b, SW F (c2 a b) T tr D (Wr a b)) :
    SW F c T (tSeq (tAsg te (gLst K 2 (gCons g1 (gCons g2 gNil)))) tr) D (We fun xs => xs.length = 2 ∧ Wr (gI xs 0) (gI xs 1)) := fun nT w σ H hd => he _ w T σ H hd _ fun xs v H' px ⟨A, B, q⟩ => by
  obtain ⟨l, us, e, q1, q2⟩ := (show (rList R).r (view _ A B m H') v xs from q.hd)
  obtain ⟨pl, pw⟩ := px
  match xs, us, pl, q2, pw, q1 with
  | [a, b], [x1, x2], _, .cons r1 (.cons r2 .nil), pw, q1 =>
    refine ⟨l, [x1, x2], e, SqL.of (view_full _ _ q1), rfl, x1, [x2], rfl, ?_⟩
    have hd2 := q.tl.puts [⟨x1, m, R.at a⟩, ⟨x2, m, R.at b⟩] (fun t ht => by
      simp only [List.mem_cons, List.not_mem_nil, or_false] at ht
      rcases ht with z | z <;> subst z
      · exact r1
      · exact r2)
    have e0 : gI [a, b] (0 : Int) = a := by unfold gI; rfl
    have e1 : gI [a, b] (1 : Int) = b := by unfold gI; rfl
    rw [e0, e1] at pw
    exact h1 _ _ _ σ H' hd2 _ fun σ1 H1 q1 o1 => ⟨x2, [], rfl, h2 _ _ _ _ σ1 H1 q1 _ fun σ2 H2 q2 o2 => ⟨rfl, k a b nT pw σ2 H2 q2⟩⟩
end
section
variable {X : Cx} {K : PySem.W.Frag}
theorem pg_lstK {es : List Expr} {k : Nat} {t : TGs} {n : Nat} {pos : Pos} (h : X.K = K) (hc : X.calm = true) (hh : PGs X es t)
    (hn : (assignEach es X.env).length = n := by rfl) (hst : (assignEach es X.env).findIdx? (·.1) = none := by rfl) : PG X (.Tuple es k pos) (gLst K n t) := by subst h; exact pg_lst hc hh hn hst
end
end TW

set_option maxRecDepth 100000
set_option maxHeartbeats 4000000
namespace TW
open PySem PySem.Spec PyProof.Rows L2
/-! ## 27. <, <=, >, >= of data -/
def rCmpD (K : PySem.W.Frag) (g : PyData → PyData → Bool) : R2 := fun x y H Q => ∃ d e, Dp K H x d ∧ Dp K H y e ∧ PySem.W.alike d e = true ∧ d ≠ .none ∧ d.depth ≤ 60 ∧ Q (.bl (g d e)) H
section
variable {X : Cx} {K : PySem.W.Frag}
theorem op_ltD (hK : X.K = K) (hu : X.A.units + 65 < cLine) : OpR X (compareOp .Lt) (rCmpD K fun d e => PySem.W.dataLt d e) := by
  subst hK
  intro pins s σ H x y v u Q I rx ry h
  obtain ⟨d, e, hd, he, ha, hn, hk, q⟩ := h
  obtain ⟨as, r1⟩ := Dp.reads I d x v hd rx
  obtain ⟨bs, r2⟩ := Dp.reads I e y u he ry
  exact PySem.W.lt_data r1 r2 ha hn (by have := Nat.min_le_left d.depth e.depth; omega) ⟨.bl _, H, I, rfl, q⟩
theorem op_gtD (hK : X.K = K) (hu : X.A.units + 65 < cLine) : OpR X (compareOp .Gt) (rCmpD K fun d e => PySem.W.dataLt e d) := by
  subst hK
  intro pins s σ H x y v u Q I rx ry h
  obtain ⟨d, e, hd, he, ha, hn, hk, q⟩ := h
  obtain ⟨as, r1⟩ := Dp.reads I d x v hd rx
  obtain ⟨bs, r2⟩ := Dp.reads I e y u he ry
  exact PySem.W.gt_data r1 r2 ha hn (by have := Nat.min_le_left d.depth e.depth; omega) ⟨.bl _, H, I, rfl, q⟩
theorem op_leD (hK : X.K = K) (hu : X.A.units + 65 < cLine) : OpR X (compareOp .LtE) (rCmpD K fun d e => !PySem.W.dataLt e d) := by
  subst hK
  intro pins s σ H x y v u Q I rx ry h
  obtain ⟨d, e, hd, he, ha, hn, hk, q⟩ := h
  obtain ⟨as, r1⟩ := Dp.reads I d x v hd rx
  obtain ⟨bs, r2⟩ := Dp.reads I e y u he ry
  exact PySem.W.le_data r1 r2 ha hn (by have := Nat.min_le_left d.depth e.depth; omega) ⟨.bl _, H, I, rfl, q⟩
theorem op_geD (hK : X.K = K) (hu : X.A.units + 65 < cLine) : OpR X (compareOp .GtE) (rCmpD K fun d e => !PySem.W.dataLt d e) := by
  subst hK
  intro pins s σ H x y v u Q I rx ry h
  obtain ⟨d, e, hd, he, ha, hn, hk, q⟩ := h
  obtain ⟨as, r1⟩ := Dp.reads I d x v hd rx
  obtain ⟨bs, r2⟩ := Dp.reads I e y u he ry
  exact PySem.W.ge_data r1 r2 ha hn (by have := Nat.min_le_left d.depth e.depth; omega) ⟨.bl _, H, I, rfl, q⟩
end
section
variable {F : Fm} {c : Ctx} {T : List Tm} {σ : Sg} {H : Hp} {α β : Type} {R : Rp α} {m m1 m2 : Md} {K : PySem.W.Frag}
theorem o2_cmp [Dt K R] [Od K R] {g : PyData → PyData → Bool} {f : α → α → Bool} (hg : ∀ a b, g (Dt.d K R a) (Dt.d K R b) = f a b) (hd : Dt.dep K R ≤ 60) : O2 c (rCmpD K g) m1 R m2 R .n rBool (fun _ _ => True) f := fun a b _ T σ H x y ⟨A, B, h⟩ Q k =>
  ⟨Dt.d K R a, Dt.d K R b, view_sq view_full (Dt.ok h.hd2), view_sq view_full (Dt.ok h.hd), Od.alike a b, Od.nn a, Nat.le_trans (Dt.deep a) hd, k _ H (HD.push h.tl.tl (p := rBool.at (f a b)) (by
    show V.bl _ = V.bl _
    rw [hg]))⟩
theorem o2_ltD [Dt K R] [Od K R] (hd : Dt.dep K R ≤ 60) : O2 c (rCmpD K fun d e => PySem.W.dataLt d e) m1 R m2 R .n rBool (fun _ _ => True) (fun a b => Od.lt K R a b) := o2_cmp (fun a b => Od.lt_eq a b) hd
theorem o2_gtD [Dt K R] [Od K R] (hd : Dt.dep K R ≤ 60) : O2 c (rCmpD K fun d e => PySem.W.dataLt e d) m1 R m2 R .n rBool (fun _ _ => True) (fun a b => Od.lt K R b a) := o2_cmp (fun a b => Od.lt_eq b a) hd
theorem o2_leD [Dt K R] [Od K R] (hd : Dt.dep K R ≤ 60) : O2 c (rCmpD K fun d e => !PySem.W.dataLt e d) m1 R m2 R .n rBool (fun _ _ => True) (fun a b => !Od.lt K R b a) := o2_cmp (fun a b => by rw [Od.lt_eq]) hd
theorem o2_geD [Dt K R] [Od K R] (hd : Dt.dep K R ≤ 60) : O2 c (rCmpD K fun d e => !PySem.W.dataLt d e) m1 R m2 R .n rBool (fun _ _ => True) (fun a b => !Od.lt K R a b) := o2_cmp (fun a b => by rw [Od.lt_eq]) hd
theorem ep_unopt [Inhabited α] {te : TE} {S : Prop} {o : Option α} (h : EP c te m (rOpt R) S o) : EP c te m R (S ∧ o.isSome = true) (o.getD default) := fun s T σ H hd Q k =>
  h s.1 T σ H hd _ fun v H' ⟨A, B, q⟩ => k v H' ⟨A, B, q.re (p' := R.at _) (by
    have hs := s.2
    cases o with
    | none => cases hs
    | some x => exact (show (rOpt R).r (view _ A B m H') v (some x) from q.hd).2)⟩
theorem zip4 {vs : List V} {p q r u : Md × SP} {T : List Tm} {σ : Sg} {H : Hp} (e : vs.length = 4) (h : HD F c (zipT vs [p, q, r, u] ++ T) σ H) : ∃ v1 v2 v3 v4, vs = [v1, v2, v3, v4] ∧ HD F c (⟨v1, p.1, p.2⟩ :: ⟨v2, q.1, q.2⟩ :: ⟨v3, r.1, r.2⟩ :: ⟨v4, u.1, u.2⟩ :: T) σ H := by
  match vs, e with
  | [v1, v2, v3, v4], _ => exact ⟨v1, v2, v3, v4, rfl, h⟩
/-- a, b, c, d = e1, e2, e3, e4 -/
theorem sw_tup4 {ta : TA} {tr : TS} {D : Ends} {S W : Prop} {i1 i2 i3 i4 : Nat} {p q r u : Md × SP} (ha : AP' c ta S [p, q, r, u]) (k : SW F ((((c.set i1 (.sh p.1 p.2)).set i2 (.sh q.1 q.2)).set i3 (.sh r.1 r.2)).set i4 (.sh u.1 u.2)) T tr D W)
    (h1 : isFree c i1 = true := by rfl) (h2 : isFree (c.set i1 (.sh p.1 p.2)) i2 = true := by rfl) (h3 : isFree ((c.set i1 (.sh p.1 p.2)).set i2 (.sh q.1 q.2)) i3 = true := by rfl) (h4 : isFree (((c.set i1 (.sh p.1 p.2)).set i2 (.sh q.1 q.2)).set i3 (.sh r.1 r.2)) i4 = true := by rfl) :
    SW F c T (tSeq (tAsg (tTup ta) (gTup K 4 (gCons (gName i1) (gCons (gName i2) (gCons (gName i3) (gCons (gName i4) gNil)))))) tr) D (S ∧ W) := fun nT w σ H hd => ha w.1 T σ H hd _ fun vs H1 e hv => by
  obtain ⟨v1, v2, v3, v4, rfl, A, B, q⟩ := zip4 e hv
  refine ⟨(by show 4 ≤ sizeLine; decide), fun l hl => ⟨l, [v1, v2, v3, v4], rfl, SqT.of upd_same, rfl, v1, [v2, v3, v4], rfl, v2, [v3, v4], rfl, v3, [v4], rfl, v4, [], rfl, rfl, k nT w.2 _ _ ?_⟩⟩
  exact HD.setTop h4 (HD.setTop h3 (HD.setTop h2 (HD.setTop h1 ⟨A, B, q.alloc hl⟩)))
end
end TW

set_option maxRecDepth 100000
set_option maxHeartbeats 4000000
namespace TW
open PySem PySem.Spec PyProof.Rows L2
/-! ## 28. sorted of tuples; xs[::-1] -/
section
open PySem.W PySem.Calls PyProof.V
variable {prog : Program} {w : World} {A : Around} {E : Value → Shared → Prop} {s : Shared}
theorem collect_tup {l : Addr} {vs : List Value} {Q : List Value → Shared → Prop} (hl : IsTup s.heap l vs.toArray)
    (h : Q vs { s with heap := (s.heap.push (seqObj "list" #[] 0)).update s.heap.objs.size (Obj.mapSeq (· ++ vs.toArray)) }) (hsz : vs.length ≤ sizeLine) :
    wpAny (model prog w) A (collect (.ref l)) Q E s := by
  obtain ⟨o, ho, hc, n, hd⟩ := id hl
  unfold collect
  refine wpAny_bind (wpAny_runValue (codeAny_builtin entry_proto_collect' ?_))
  show wpAny _ _ (do again (.builtin "list.__iadd__" ⟨[← newList [], .ref l], []⟩)) _ _ s
  refine wpAny_bind (wpAny_newList (wpAny_pure ⟨Code.quiet_builtin _ (by decide +kernel), codeAny_builtin entry_list_iadd' ?_⟩))
  show wpAny _ _ (Builtin.List.listExtendWith (.ref s.heap.objs.size) (.ref l) (.ref s.heap.objs.size)) _ _ { s with heap := s.heap.push (seqObj "list" #[] 0) }
  unfold Builtin.List.listExtendWith
  have ho' : (s.heap.push (seqObj "list" #[] 0)).get? l = some o := Heap.get?_push_of_some _ ho
  refine wpAny_bind (wpAny_typeOf (T := "tuple") ⟨o, ho', hc⟩ ?_)
  have ht : (Value.type "tuple" == Value.type "tuple") = true := by rfl
  rw [if_pos (by rw [ht]; simp)]
  refine wpAny_bind (listItems_at ho' hd ?_)
  refine wpAny_bind (listItems_at (xs := #[]) (n := 0) (Heap.get?_push_size _ rfl) rfl ?_)
  rw [if_neg (by simp)]
  refine wpAny_bind (listUpdate_at (xs := #[]) (n := 0) (Heap.get?_push_size _ rfl) rfl ?_ (Nat.zero_le _) (by show (#[] ++ vs.toArray).size ≤ sizeLine + 1; simp only [Array.size_append, List.size_toArray, List.length_nil]; omega))
  refine wpAny_pure ?_
  show wpAny (model prog w) A (do
      let o ← load s.heap.objs.size
      match o.data with
      | .seq xs _ => pure xs.toList
      | _ => unsupported "internal:collect") Q E { s with heap := (s.heap.push (seqObj "list" #[] 0)).update s.heap.objs.size (Obj.mapSeq (· ++ vs.toArray)) }
  refine wpAny_bind (wpAny_load (get?_update_seq (Heap.get?_push_size _ rfl) _) ?_)
  show wpAny _ _ (pure ((#[] : Array Value) ++ vs.toArray).toList) Q E _
  rw [show ((#[] : Array Value) ++ vs.toArray).toList = vs by simp]
  exact wpAny_pure h
theorem sorted_of_sort_tup {l : Addr} {vs : List Value} {kw : List (Str × Value)} {Q : Value → Shared → Prop} (hl : IsTup s.heap l vs.toArray) (hL : vs.length ≤ sizeLine) (ha1 : PySem.argsOk "sorted" ⟨[.ref l], kw⟩) (ha2 : ∀ x, PySem.argsOk "list.sort" ⟨[.ref x], kw⟩)
    (body : ∀ E' : Value → Shared → Prop, wpAny (model prog w) A.in1.in1 (Builtin.«list.sort» ⟨[.ref (s.heap.objs.size + 1)], kw⟩) (fun f s' => f = .done (.ret .none) ∧ Q (.ref (s.heap.objs.size + 1)) s') E' { s with heap := copyHeap s.heap vs }) :
    wpAny (model prog w) A (call (.builtin "sorted") [.ref l] kw) Q E s := by
  refine call_function_entry_kw kind_sorted plain_sorted entry_sorted ha1 ?_
  unfold Builtin.«sorted»
  refine wpAny_bind (m := checkCount "sorted" 1 1 _) (wpAny_pure ?_)
  refine wpAny_bind (collect_tup hl ?_ hL)
  refine wpAny_bind (wpAny_newList ?_ hL)
  have hsz : ((s.heap.push (seqObj "list" #[] 0)).update s.heap.objs.size (Obj.mapSeq (· ++ vs.toArray))).objs.size = s.heap.objs.size + 1 := by
    rw [Heap.size_update, size_push']
  show wpAny _ _ _ _ _ { s with heap := copyHeap s.heap vs }
  rw [hsz]
  refine wpAny_bind (wpAny_holding (wpAny_call_entry_kw slot_list_sort ⟨_, copyHeap_at s.heap vs, rfl⟩ entry_list_sort ?body (ha2 _)))
  case body =>
    show wpAny (model prog w) A.in1.in1 (Builtin.«list.sort» ⟨[.ref (s.heap.objs.size + 1)], kw⟩) _ _ _
    refine wpAny_mono (body _) (fun f s' hf => ?_) fun _ _ e => e
    obtain ⟨rfl, hq⟩ := hf
    exact ⟨_, rfl, wpAny_pure ⟨_, rfl, hq⟩⟩
theorem sorted_data_tup {β : Type} {R : Value → β → Prop} {vs : List Value} {bs : List β} {enc : β → PyData} {l : Addr} {Q : Value → Shared → Prop} (hl : IsTup s.heap l vs.toArray) (e : EachIs R vs bs) (er : EachIs (fun v b => ∃ as, Reads s.heap v (enc b) as) vs bs) (hal : AllAlike (bs.map enc)) (hk : Sortable (bs.map enc)) (hL : bs.length ≤ sizeLine)
    (hu : ∀ b, b ∈ bs → A.units + 2 + (enc b).depth < cLine) (h : ∀ out, out.length = bs.length → EachIs R out (bs.mergeSort (dataLe false enc)) → Q (.ref (s.heap.objs.size + 1)) { s with heap := sortedAll s.heap vs (List.toArray out) }) :
    wpAny (model prog w) A (call (.builtin "sorted") [.ref l]) Q E s := by
  have er' : EachIs (fun v b => ∃ as, Reads (sortingHeap (copyHeap s.heap vs) (s.heap.objs.size + 1) vs) v (enc b) as) vs bs := er.mono fun _ _ ⟨as, r⟩ => ⟨as, PyProof.Rows.Reads.keeps (fun _ _ => sorting_copy_old) r⟩
  have hL' : vs.length ≤ sizeLine := by rw [e.length]; exact hL
  have S : SortsAt prog w A.in1.in1 { s with heap := sortingHeap (copyHeap s.heap vs) (s.heap.objs.size + 1) vs } (dataKind (sortingHeap (copyHeap s.heap vs) (s.heap.objs.size + 1) vs) (bs.map enc)) vs := SortsAt.data (s := { s with heap := sortingHeap (copyHeap s.heap vs) (s.heap.objs.size + 1) vs }) (each_map (R := fun v d => ∃ as, Reads (sortingHeap (copyHeap s.heap vs) (s.heap.objs.size + 1) vs) v d as) enc er') hal hk (bound_map hu)
  exact sorted_of_sort_tup hl hL' (args_sorted1 _) (fun _ => args_list_sort _) fun _ => list_sort_vals (s := { s with heap := copyHeap s.heap vs }) (copyHeap_at s.heap vs) S hL' ⟨rfl, (h _ (by rw [sortVals_length false rfl]; exact e.length) (sortVals_data false e er' hal))⟩
end
def rSrtT (K : PySem.W.Frag) : List V → Hp → VK → Prop := fun vs H Q => ∃ (a : Addr) (β : Type) (bs : List β) (fv : β → V) (enc : β → PyData), vs = [V.ref a] ∧ SqT K H a (bs.map fv) ∧ DpAll K H (bs.map fv) (bs.map enc) ∧
  PySem.W.AllAlike (bs.map enc) ∧ PySem.W.Sortable (bs.map enc) ∧ PyData.depthAll (bs.map enc) ≤ 60 ∧ ∀ p, H p = none → Q (.ref p) (upd H p (.lst ((bs.mergeSort (PySem.W.dataLe false enc)).map fv)))
section
variable {X : Cx} {K : PySem.W.Frag}
theorem cr_srtT (hK : X.K = K) (hu : X.A.units + 65 < cLine) : CallR X (.builtin "sorted") (rSrtT K) := by
  subst hK
  intro pins s σ H vs us Q I r h
  obtain ⟨a, β, bs, fv, enc, rfl, hs, ha, hal, hk, hd, q⟩ := h
  obtain ⟨its, rv, pl, hz⟩ := I.tuple hs
  rw [Vals.ref1 r]
  obtain ⟨as, rs⟩ := Dp.readsAll I _ _ its ha rv
  rw [List.length_map] at hz
  refine sorted_data_tup (enc := enc) pl (each_vals rv) (PySem.W.readsAll_each enc rs) hal hk hz (fun b hb => ?_) fun out hl eo => ?_
  · have : (enc b).depth ≤ 60 := depthAll_mem.mp hd _ (List.mem_map.mpr ⟨b, hb, rfl⟩)
    omega
  · obtain ⟨ep, he'⟩ := PyProof.Rows.sortedAll_at s.heap its out.toArray
    have hlen : ((bs.mergeSort (PySem.W.dataLe false enc)).map fv).length ≤ sizeLine := by
      rw [List.length_map, List.length_mergeSort]
      exact hz
    exact ⟨.ref _, upd H (s.heap.objs.size + 1) (.lst ((bs.mergeSort (PySem.W.dataLe false enc)).map fv)), I.laid (t' := s.toks) (fun _ _ => PyProof.Rows.sortedAll_old) (Nat.le_succ _) ⟨hlen, out, ep, vals_each eo, he'⟩, rfl, q _ (I.hok.fresh (Nat.le_succ _))⟩
end
section
variable {F : Fm} {c : Ctx} {T : List Tm} {σ : Sg} {H : Hp} {A : Nat → List Addr} {B : List Addr} {D : Ends} {α β : Type} {R : Rp α} {m m1 m2 : Md} {te : TE} {K : PySem.W.Frag}
theorem eo_srtT [Dt K R] [Od K R] [Srt K R] {W : (List α → Prop) → Prop} (h : EW c te m (rTup K R) W) (hd : Dt.dep K R ≤ 59 := by exact Nat.le_of_ble_eq_true rfl) : EO c (tCB (rSrtT K) (tCons te tNil)) (oList m R) (fun P => W fun xs => P (srt (Od.lt K R) xs)) := fun P w T σ H hh Q k => h _ w T σ H hh _ fun xs v H' px ⟨A, B, q⟩ => by
  obtain ⟨l, vs, e, h1, h2⟩ := (show (rTup K R).r (view _ A B m H') v xs from q.hd)
  obtain ⟨bs, b1, b2, b3, b4, b5, b6⟩ := srt_end (K := K) (H := H') hd h2
  exact ⟨l, V × α, bs, Prod.fst, fun p => Dt.d K R p.2, by rw [e], by rw [b1]; exact SqT.ext view_full h1, b2, b3, b4, b5, fun l2 hl => k _ _ _ px (q.tl.allocO hl b6)⟩
theorem eo_srtTi [Im R] [Dt K R] [Od K R] [Srt K R] {W : (List α → Prop) → Prop} (h : EW c te m (rTup K R) W) (hd : Dt.dep K R ≤ 59 := by exact Nat.le_of_ble_eq_true rfl) : EO c (tCB (rSrtT K) (tCons te tNil)) (oList .n R) (fun P => W fun xs => P (srt (Od.lt K R) xs)) := fun P w T σ H hh Q k => h _ w T σ H hh _ fun xs v H' px ⟨A, B, q⟩ => by
  obtain ⟨l, vs, e, h1, h2⟩ := (show (rTup K R).r (view _ A B m H') v xs from q.hd)
  obtain ⟨bs, b1, b2, b3, b4, b5, b6⟩ := srt_end (K := K) (H := H') hd h2
  exact ⟨l, V × α, bs, Prod.fst, fun p => Dt.d K R p.2, by rw [e], by rw [b1]; exact SqT.ext view_full h1, b2, b3, b4, b5, fun l2 hl => k _ _ _ px (q.tl.allocO hl (q.imAll b6))⟩
theorem eo_srtTP [Dt K R] [Od K R] [Srt K R] {S : Prop} {xs : List α} (h : EP c te m (rTup K R) S xs) (hd : Dt.dep K R ≤ 59 := by exact Nat.le_of_ble_eq_true rfl) : EOP c (tCB (rSrtT K) (tCons te tNil)) (oList m R) S (srt (Od.lt K R) xs) := eo_srtT h.w hd
theorem eo_srtTiP [Im R] [Dt K R] [Od K R] [Srt K R] {S : Prop} {xs : List α} (h : EP c te m (rTup K R) S xs) (hd : Dt.dep K R ≤ 59 := by exact Nat.le_of_ble_eq_true rfl) : EOP c (tCB (rSrtT K) (tCons te tNil)) (oList .n R) S (srt (Od.lt K R) xs) := eo_srtTi h.w hd
theorem paired_rev {G : V → α → Prop} : ∀ {us : List V} {xs : List α}, Paired G us xs → Paired G us.reverse xs.reverse
  | _, _, .nil => .nil
  | _, _, .cons h t => by rw [List.reverse_cons, List.reverse_cons]; exact Paired.snoc (paired_rev t) h
/-- xs[::-1] -/
theorem eo_revL {S : Prop} {xs : List α} (h : EP c te m (rList R) S xs) : EOP c (tRevL K te) (oList m R) S xs.reverse := fun P w T σ H hd Q k =>
  h w.1 T σ H hd _ fun v H1 ⟨A, B, h1⟩ => by
    obtain ⟨l, vs, e, q1, q2⟩ := (show (rList R).r (view _ A B m H1) v xs from h1.hd)
    exact ⟨l, vs, e, SqL.of (view_full _ _ q1), fun p hp => k _ _ _ w.2 (h1.tl.allocO hp (paired_rev q2))⟩
theorem eo_revLi [Im R] {S : Prop} {xs : List α} (h : EP c te m (rList R) S xs) : EOP c (tRevL K te) (oList .n R) S xs.reverse := fun P w T σ H hd Q k =>
  h w.1 T σ H hd _ fun v H1 ⟨A, B, h1⟩ => by
    obtain ⟨l, vs, e, q1, q2⟩ := (show (rList R).r (view _ A B m H1) v xs from h1.hd)
    exact ⟨l, vs, e, SqL.of (view_full _ _ q1), fun p hp => k _ _ _ w.2 (h1.tl.allocO hp (h1.imAll (paired_rev q2)))⟩
end
section
theorem OwR_un {R : Rp α} [Inhabited α] : OwR (fun ys : List α => oList .n (rOpt R) (ys.map some)) .n (rList R) := ⟨fun _ => rfl, fun {A H V0 v x V} ⟨l, vs, h1, h2, h3, h4⟩ e1 e2 => ⟨l, vs, h2, e1 l (by rw [h1]; simp) _ h3, Paired.mono (fun _ _ q => R.mono e2 q) (by
  have := unopt_P h4 (fun y hy => by obtain ⟨z, _, rfl⟩ := List.mem_map.mp hy; rfl)
  rw [List.map_map] at this
  have e : ((fun x : Option α => x.getD default) ∘ some) = id := rfl
  rw [e, List.map_id] at this
  exact this)⟩⟩
theorem unopt_some [Inhabited α] : ∀ {xs : List (Option α)}, (∀ x ∈ xs, x.isSome = true) → (xs.map fun x => x.getD default).map some = xs
  | [], _ => rfl
  | none :: xs, h => by have := h none (by simp); simp at this
  | some a :: xs, h => by
    rw [List.map_cons, List.map_cons, unopt_some fun x hx => h x (List.mem_cons_of_mem _ hx)]; rfl
variable {F : Fm} {c : Ctx} {T : List Tm} {D : Ends} {α : Type} {R : Rp α} {tr : TS}
theorem sw_retOU [Inhabited α] {i : Nat} {xs : List (Option α)} {Post : List α → Prop} (hR : RtOk F (rList R) Post D.rt) (h : c[i]? = some (.ow (oList .n (rOpt R) xs))) : SW F c T (tSeq (tRet (tVar i)) tr) D ((∀ x ∈ xs, x.isSome = true) ∧ Post (xs.map fun x => x.getD default)) := fun nb w σ H hd =>
  sw_retO (p := fun ys : List α => oList .n (rOpt R) (ys.map some)) (hp0 := OwR_un) (x := xs.map fun x => x.getD default) hR (by rw [unopt_some w.1]; exact h) nb w.2 σ H hd
end
section
variable {X : Cx} {K : PySem.W.Frag}
theorem pe_revLK {e : Expr} {te : TE} {k : Nat} {p1 p2 p3 pos : Pos} (hK : X.K = K) (he : PE X e te) : PE X (.Subscript e (.Slice none none (some (.UnaryOp .USub (.Constant (.int 1) k p1) p2)) p3) pos) (tRevL K te) := by subst hK; exact pe_revL he
end
end TW

set_option maxRecDepth 100000
set_option maxHeartbeats 4000000
namespace TW
open PySem PySem.Spec PyProof.Rows L2
/-! ## 29. zip of tuples, ranges downwards -/
theorem walk_zipT {K : PySem.W.Frag} {a b : Addr} {xs ys : List V} {n : Nat} (hn : n = min xs.length ys.length) : L2.Walk (RZ.ItzT K a b) n (fun H => SqT K H a xs ∧ SqT K H b ys) (YPair (fun i => xs[i]?) (fun i => ys[i]?)) := by
  subst hn
  refine ⟨fun i _ hi q => ?_, fun _ q => ⟨xs, ys, q.1, q.2, by omega⟩, fun i H v H' _ q y => ?_⟩
  · have h1 : i < xs.length := by omega
    have h2 : i < ys.length := by omega
    exact ⟨xs, ys, xs[i], ys[i], q.1, q.2, by simp [h1], by simp [h2]⟩
  · obtain ⟨T, x, z, h1, h2, h3, h4, h5⟩ := y
    exact ⟨T, x, z, h1, h2, h3, h4 xs q.1, h5 ys q.2⟩
section
variable {F : Fm} {c : Ctx} {T : List Tm} {σ : Sg} {H : Hp} {A : Nat → List Addr} {B : List Addr} {D : Ends} {α β γ ι τ : Type} {R : Rp α} {Rb : Rp β} {Rc : Rp γ} {m m1 m2 m3 : Md} {te ta tb tc to ti td : TE} {tt tu : TT} {tr : TS} {K : PySem.W.Frag}
theorem iw_zipT {W1 : (List α → Prop) → Prop} {W2 : List α → (List β → Prop) → Prop} (h1 : EW c ta m (rTup K R) W1) (h2 : ∀ xs, EW c tb m (rTup K Rb) (W2 xs)) : IW c (RZ.iZipA K (tCons ta (tCons tb tNil))) m (rPair K R Rb) (fun P => W1 fun xs => W2 xs fun ys => P (xs.zip ys)) := fun P w T σ H hd Kk k =>
  h1 _ w T σ H hd _ fun xs v H1 pn q1 => h2 xs _ pn _ σ H1 q1 _ fun ys u H2 pm ⟨A, B, q⟩ => by
    obtain ⟨l2, us, e2, hl2, hs2, q2⟩ := q.asTup (K := K)
    have q3 : HdA _ c (⟨v, m, (rTup K R).at xs⟩ :: ⟨.non, m, pTup K Rb l2 us ys⟩ :: T) σ H2 A B := q2.sub fun t ht => by
      simp only [List.mem_cons] at ht ⊢
      rcases ht with z | z | z
      · exact .inr (.inl z)
      · exact .inl z
      · exact .inr (.inr z)
    obtain ⟨l1, vs, e1, hl1, hs1, q4⟩ := q3.asTup (K := K)
    refine ⟨l1, l2, vs, us, by rw [e1, e2], .inr ⟨hs1, hs2, k (xs.zip ys) _ _ H2 pm ?_ ⟨A, B, q4⟩⟩⟩
    refine itO_of (walk_zipT (xs := vs) (ys := us) rfl) (by rw [List.length_zip, hl1, hl2]) (fun t h => List.mem_cons_of_mem _ (List.mem_cons_of_mem _ h)) (fun hm n => nob_cons hm (nob_cons hm n)) (fun F c T2 σ H s ⟨A, B, hd⟩ => ⟨(hd.pt (s _ List.mem_cons_self)).1, (hd.pt (s _ (List.mem_cons_of_mem _ List.mem_cons_self))).1⟩) fun F c T2 σ H s ⟨A, B, hd⟩ i hi x H' ⟨t, y, z, e0, hn, e1, f2, f3⟩ => ?_
    subst e0 e1
    have i1 : i < xs.length := by rw [List.length_zip] at hi; omega
    have i2 : i < ys.length := by rw [List.length_zip] at hi; omega
    refine hd.newTup (p := (rPair K R Rb).at _) hn fun H1 ex hs => ⟨t, y, z, rfl, hs, ?_, ?_⟩
    · have := R.mono ex (pget' (hd.pt (K := K) (s _ List.mem_cons_self)).2 i1 f2)
      simpa using this
    · have := Rb.mono ex (pget' (hd.pt (K := K) (s _ (List.mem_cons_of_mem _ List.mem_cons_self))).2 i2 f3)
      simpa using this
theorem iw_zipTP {S1 S2 : Prop} {xs : List α} {ys : List β} (h1 : EP c ta m (rTup K R) S1 xs) (h2 : EP c tb m (rTup K Rb) S2 ys) : IWP c (RZ.iZipA K (tCons ta (tCons tb tNil))) m (rPair K R Rb) (S1 ∧ S2) (xs.zip ys) := fun P w T σ H hd Kk k => iw_zipT h1.w (fun _ => h2.w) P ⟨w.1.1, w.1.2, w.2⟩ T σ H hd Kk k
theorem iw_rangeDP {S1 S2 S3 : Prop} {a b : Int} (h1 : EP c ta m1 rInt S1 a) (h2 : EP c tb m2 rInt S2 b) (h3 : EP c tc m3 rInt S3 (-1)) : IWP c (iRng3 (tCons ta (tCons tb (tCons tc tNil)))) .n rInt (S1 ∧ S2 ∧ S3 ∧ (-(2 ^ 62) ≤ a ∧ a < 2 ^ 62 ∧ -(2 ^ 62) ≤ b ∧ b < 2 ^ 62)) (rngD a b) := fun P w T σ H hd Kk k =>
  iw_rangeD h1.w (fun _ => h2.w) (fun _ => h3 w.1.2.2.1) P ⟨w.1.1, w.1.2.1, w.1.2.2.2, w.2⟩ T σ H hd Kk k
end
section
variable {X : Cx} {K : PySem.W.Frag}
theorem pi_zipTK {e e2 : Expr} {ta : TA} {p pos tpos : Pos} {elts : List Expr} {kk : Nat} (h : X.K = K) (hg : Gl X "zip") (hm : X.mg "zip" = none) (ha : PA X [e, e2] ta)
    (hs : starEach [e, e2] X.env = (false, eval e X.env) :: starEach [e2] X.env := by rfl) (hpl : (backTo pos (starEach [e2] X.env)).any (·.1) = false := by rfl) :
    PI X (.Tuple elts kk tpos) (.Call (.Name "zip" p) [e, e2] [] pos) (RZ.iZipA K ta) := by subst h; exact RZ.pi_zipA hg hm ha hs hpl
end
end TW

set_option maxRecDepth 100000
set_option maxHeartbeats 4000000
namespace TW
open PySem PySem.Spec PyProof.Rows L2
/-! ## 30. fractions in lowest terms, as rational numbers -/
@[irreducible] def fpair (r : Rat) : Int × Int := (r.num, (r.den : Int))
theorem fpair_eq (r : Rat) : fpair r = (r.num, (r.den : Int)) := by unfold fpair; rfl
theorem fpair_1 (r : Rat) : (fpair r).1 = r.num := by rw [fpair_eq]
theorem fpair_2 (r : Rat) : (fpair r).2 = (r.den : Int) := by rw [fpair_eq]
theorem fpair_inj {a b : Rat} : fpair a = fpair b ↔ a = b := by
  rw [fpair_eq, fpair_eq]
  constructor
  · intro h
    have h1 := congrArg Prod.fst h
    have h2 := congrArg Prod.snd h
    exact Rat.ext h1 (Int.ofNat_inj.mp h2)
  · intro h; rw [h]
@[irreducible] def ofI (a : Int) : Rat := (a : Rat)
theorem ofI_eq (a : Int) : ofI a = (a : Rat) := by unfold ofI; rfl
@[irreducible] def toR (x : Int × Int) : Rat := (x.1 : Rat) / (x.2 : Rat)
theorem toR_eq (x : Int × Int) : toR x = (x.1 : Rat) / (x.2 : Rat) := by unfold toR; rfl
@[irreducible] def CanF (x : Int × Int) : Prop := 0 < x.2 ∧ Nat.gcd x.1.natAbs x.2.natAbs = 1
theorem canF_eq (x : Int × Int) : CanF x ↔ 0 < x.2 ∧ Nat.gcd x.1.natAbs x.2.natAbs = 1 := by unfold CanF; exact Iff.rfl
theorem canF_one (a : Int) : CanF (a, 1) := by rw [canF_eq]; exact ⟨show (0 : Int) < 1 by decide, by simp⟩
theorem toR_one (a : Int) : toR (a, 1) = ofI a := by rw [toR_eq, ofI_eq]; show (a : Rat) / ((1 : Int) : Rat) = a; grind
theorem fpair_toR {x : Int × Int} (h : CanF x) : fpair (toR x) = x := by
  obtain ⟨h1, h2⟩ := (canF_eq x).mp h
  obtain ⟨p, q⟩ := x
  obtain ⟨d, rfl⟩ : ∃ d : Nat, q = d := ⟨q.toNat, by simp only at h1; omega⟩
  simp only [Int.natAbs_natCast] at h1 h2
  have hd : d ≠ 0 := by omega
  have e : toR (p, (d : Int)) = ⟨p, d, hd, h2⟩ := by
    rw [toR_eq, Rat.mk_eq_mkRat, Rat.mkRat_eq_div]
    rfl
  rw [e, fpair_eq]
theorem toR_fpair (r : Rat) : toR (fpair r) = r := by
  rw [← fpair_inj, fpair_toR]
  rw [fpair_eq, canF_eq]
  exact ⟨Int.ofNat_lt.mpr r.den_pos, by simpa using r.reduced⟩
theorem canF_fpair (r : Rat) : CanF (fpair r) := by
  rw [fpair_eq, canF_eq]
  exact ⟨Int.ofNat_lt.mpr r.den_pos, by simpa using r.reduced⟩
def rFr (K : PySem.W.Frag) : Rp Rat := ⟨fun H v r => (rPair K rInt rInt).r H v (fpair r), (rPair K rInt rInt).monoT⟩
section
variable {K : PySem.W.Frag}
instance : Im (rFr K) := ⟨fun h => (inferInstance : Im (rPair K rInt rInt)).im h⟩
instance : NN (rFr K) := ⟨fun h => (inferInstance : NN (rPair K rInt rInt)).nn h⟩
instance : Dt K (rFr K) := ⟨fun r => Dt.d K (rPair K rInt rInt) (fpair r), Dt.dep K (rPair K rInt rInt), fun h => Dt.ok (R := rPair K rInt rInt) h, fun a => Dt.lay (R := rPair K rInt rInt) _, fun a => Dt.deep (R := rPair K rInt rInt) _, fun a b => by rw [Dt.inj (R := rPair K rInt rInt), fpair_inj]⟩
instance : Dn K (rFr K) := ⟨fun a => (show PyData.eqv (Dt.d K (rPair K rInt rInt) (fpair a)) .none = false from Dn.nn _), fun a => (show PyData.eqv .none (Dt.d K (rPair K rInt rInt) (fpair a)) = false from Dn.nn' _)⟩
instance : Fact' K (rFr K) := ⟨fun a => (show eqs .none (Dt.d K (rPair K rInt rInt) (fpair a)) = false from Fact'.l _), fun a => (show eqs (Dt.d K (rPair K rInt rInt) (fpair a)) .none = false from Fact'.r _)⟩
instance : Qs K (rFr K) := ⟨fun a b => by
  show eqs (Dt.d K (rPair K rInt rInt) (fpair a)) (Dt.d K (rPair K rInt rInt) (fpair b)) = _
  rw [Qs.eqs (R := rPair K rInt rInt)]
  simp only [fpair_inj], fun a => (show noStr (Dt.d K (rPair K rInt rInt) (fpair a)) = true from Qs.ns _)⟩
@[simp] theorem sml_fr (a : Rat) : Sml K (rFr K) a := by
  show Sml K (rPair K rInt rInt) (fpair a)
  rw [sml_pair]
  exact ⟨sml_int _, sml_int _⟩
end
section
variable {F : Fm} {c : Ctx} {T : List Tm} {σ : Sg} {H : Hp} {D : Ends} {m m1 m2 : Md} {te : TE} {K : PySem.W.Frag}
theorem ep_toF {S : Prop} {x : Int × Int} (h : EP c te m (rPair K rInt rInt) S x) : EP c te m (rFr K) (S ∧ CanF x) (toR x) := fun s T σ H hd Q k =>
  h s.1 T σ H hd _ fun v H' ⟨A, B, q⟩ => k v H' ⟨A, B, q.re (p' := (rFr K).at _) (by
    show (rPair K rInt rInt).r _ _ (fpair (toR x))
    rw [fpair_toR s.2]
    exact q.hd)⟩
theorem ew_toF {W : (Int × Int → Prop) → Prop} (h : EW c te m (rPair K rInt rInt) W) : EW c te m (rFr K) (fun P => W fun x => CanF x ∧ P (toR x)) := fun P w T σ H hd Q k =>
  h _ w T σ H hd _ fun x v H' px ⟨A, B, q⟩ => k (toR x) v H' px.2 ⟨A, B, q.re (p' := (rFr K).at _) (by
    show (rPair K rInt rInt).r _ _ (fpair (toR x))
    rw [fpair_toR px.1]
    exact q.hd)⟩
/-- (n, 1) -/
theorem ep_toF1 {S : Prop} {a : Int} (h : EP c te m (rPair K rInt rInt) S (a, 1)) : EP c te m (rFr K) S (ofI a) := by
  rw [← toR_one]
  exact EP.imp (ep_toF h) fun s => ⟨s, canF_one a⟩
theorem ep_unF {S : Prop} {r : Rat} (h : EP c te m (rFr K) S r) : EP c te m (rPair K rInt rInt) S (fpair r) := h
theorem ew_unF {W : (Rat → Prop) → Prop} (h : EW c te m (rFr K) W) : EW c te m (rPair K rInt rInt) (fun P => W fun r => P (fpair r)) := fun P w T σ H hd Q k => h _ w T σ H hd _ fun r v H' px q => k (fpair r) v H' px q
theorem ep_f0 {S : Prop} {r : Rat} (h : EP c te m (rFr K) S r) : EP c (tOp (rIxT K) te (tC (.int 0))) m rInt S r.num := by
  rw [← fpair_1]
  exact ep_p0 (ep_unF h)
theorem ep_f1 {S : Prop} {r : Rat} (h : EP c te m (rFr K) S r) : EP c (tOp (rIxT K) te (tC (.int 1))) m rInt S ((r.den : Nat) : Int) := by
  rw [← fpair_2]
  exact ep_p1 (ep_unF h)
theorem ew_f0 {W : (Rat → Prop) → Prop} (h : EW c te m (rFr K) W) : EW c (tOp (rIxT K) te (tC (.int 0))) m rInt (fun P => W fun r => P r.num) := by
  simp only [← fpair_1]
  exact ew_p0 (ew_unF h)
theorem ew_f1 {W : (Rat → Prop) → Prop} (h : EW c te m (rFr K) W) : EW c (tOp (rIxT K) te (tC (.int 1))) m rInt (fun P => W fun r => P ((r.den : Nat) : Int)) := by
  simp only [← fpair_2]
  exact ew_p1 (ew_unF h)
/-- a pair of two alike, as a tuple -/
theorem ep_pairT {α : Type} {R : Rp α} {S : Prop} {x : α × α} (h : EP c te m (rPair K R R) S x) : EP c te m (rTup K R) S [x.1, x.2] := fun s T σ H hd Q k =>
  h s T σ H hd _ fun v H' ⟨A, B, q⟩ => k v H' ⟨A, B, q.re (p' := (rTup K R).at _) (by
    obtain ⟨a, x1, x2, e, hs, r1, r2⟩ := (show (rPair K R R).r (view _ A B m H') v x from q.hd)
    exact ⟨a, [x1, x2], e, hs, .cons r1 (.cons r2 .nil)⟩)⟩
/-- p, q = a fraction -/
theorem gp_fr {g1 g2 : TG} {c1 : Int → Ctx} {c2 : Int → Int → Ctx} {js ks : List Nat} (h1 : GP c g1 m rInt c1 js) (h2 : ∀ a, GP (c1 a) g2 m rInt (c2 a) ks) :
    GP c (gTup K 2 (gCons g1 (gCons g2 gNil))) m (rFr K) (fun r => c2 r.num ((r.den : Nat) : Int)) (js ++ ks) := fun r x T σ H hd Q k => gp_pair (K := K) h1 h2 (fpair r) x T σ H hd Q (by
  show ∀ σ' H', HD _ (c2 (fpair r).1 (fpair r).2) T σ' H' → _ → _
  rw [fpair_1, fpair_2]
  exact k)
end
end TW

set_option maxRecDepth 100000
set_option maxHeartbeats 4000000
namespace TW
open PySem PySem.Spec PyProof.Rows L2
/-! ## 31. a list that is not changed any more -/
variable {F : Fm} {c : Ctx} {T : List Tm} {σ : Sg} {H : Hp} {D : Ends} {α : Type} {R : Rp α} {m : Md}
theorem HD.freeze {p : α → OP} [hp0 : OwR p m R] {x : α} {i : Nat} (h : HD F c T σ H) (e : c[i]? = some (.ow (p x))) : HD F (c.set i (.sh m (R.at x))) T σ H := by
  obtain ⟨A, B, h⟩ := h
  let A' : Nat → List Addr := fun j => if j = i then [] else A j
  have hA : ∀ j a, a ∈ A' j → j ≠ i ∧ a ∈ A j := fun j a q => by
    by_cases e2 : j = i
    · have : A' j = [] := if_pos e2
      rw [this] at q; simp at q
    · have : A' j = A j := if_neg e2
      rw [this] at q; exact ⟨e2, q⟩
  have hv : ∀ m, Ext (view F A B m H) (view F A' B m H) := fun m => view_less (fun i a q => (hA i a q).2) m
  have q := h.sl i
  unfold slOk at q
  rw [e] at q
  obtain ⟨w, hw, hp⟩ := q
  have hi : i < c.length := (List.getElem?_eq_some_iff.mp e).1
  have vis : ∀ m, ∀ l ∈ A i, ¬ vP F A' B m l := fun m l lin z => by
   have nI : l ∉ F.I := fun z => h.db _ l lin (.inl (h.io l z))
   have h0 : F.H0 l = none := h.ni l (.inr ⟨_, lin⟩) nI
   have nB : ¬ hB F B l := h.db _ l lin
   have nA : ¬ ∃ j, l ∈ A' j := fun ⟨j, z⟩ => by
      obtain ⟨j1, j2⟩ := hA j l z
      exact j1 (h.dj _ _ l j2 lin)
   cases m
   · rcases z with (z | z) | ⟨o, z, _⟩
     · exact nB z
     · exact nA z
     · rw [h0] at z; cases z
   · exact z.elim nB nA
   · exact nB z
  refine ⟨A', B, by rw [List.length_set]; exact h.len, fun j => ?_, fun t ht => SP.mono _ (hv _) (h.tm t ht), fun i j a p q => h.dj i j a (hA _ _ p).2 (hA _ _ q).2, fun i a q => h.db i a (hA _ _ q).2, h.iq, h.fr, fun a q => h.ni a (q.imp id fun ⟨i, z⟩ => ⟨i, (hA i a z).2⟩), h.st, h.gb, h.gh⟩
  by_cases hj : j = i
  · subst hj
    unfold slOk
    rw [List.getElem?_set_self hi]
    exact ⟨if_pos rfl, w, hw, hp0.sh hp (fun a ha o e => view_some.mpr ⟨vis m a ha, e⟩) (by rw [hp0.md]; exact hv m)⟩
  · exact (h.sl j).mono (by rw [List.getElem?_set_ne (fun z => hj z.symm)]) (fun w z => z) (if_neg hj) (fun _ _ => rfl) hv
theorem sw_freeze {p : α → OP} [OwR p m R] {x : α} {t : TS} {W : Prop} (i : Nat) (h : SW F (c.set i (.sh m (R.at x))) T t D W) (e : c[i]? = some (.ow (p x)) := by rfl) : SW F c T t D W := fun nb w σ H hd => h nb w σ H (hd.freeze e)
end TW

set_option maxRecDepth 100000
set_option maxHeartbeats 4000000
/-! ## 31. zip of a list and a tuple -/
namespace TW
open PySem PySem.Spec PyProof.Rows L2
def SqX (K : PySem.W.Frag) (d : Bool) (H : Hp) (a : Addr) (xs : List V) : Prop := if d = true then SqT K H a xs else SqL K H a xs
def IsX (d : Bool) (h : Heap) (a : Addr) (us : Array Value) : Prop := if d = true then h.IsTuple a us else h.IsList a us
def ItX (d : Bool) (h : Heap) (q a : Addr) (i : Nat) : Prop := if d = true then h.IsTupleIter q a i else h.IsListIter q a i
def obX (d : Bool) (a : Addr) : Obj := { cls := .type (if d = true then "tuple_iterator" else "list_iterator"), data := .fields #[.ref a, .int 0 0] }
theorem sqX_inv {X : Cx} {pins : List (Addr × Obj)} {σ : L2.St} {H : Hp} {s : Shared} {a : Addr} {xs : List V} {d : Bool} (I : L2.Inv X pins σ H s) (q : SqX X.K d H a xs) : ∃ us : List Value, Vals xs us ∧ IsX d s.heap a us.toArray := by
  cases d
  · obtain ⟨us, r, p, _⟩ := I.list q
    exact ⟨us, r, p.isList⟩
  · obtain ⟨us, r, p, _⟩ := I.tuple q
    exact ⟨us, r, p⟩
theorem sqX_inj {X : Cx} {pins : List (Addr × Obj)} {σ : L2.St} {H : Hp} {s : Shared} {a : Addr} {xs ys : List V} {d : Bool} (I : L2.Inv X pins σ H s) (q : SqX X.K d H a xs) (r : SqX X.K d H a ys) : xs = ys := by
  cases d
  · exact I.list_inj q r
  · exact I.tuple_inj q r
theorem isX_lt {d : Bool} {h : Heap} {a : Addr} {us : Array Value} (q : IsX d h a us) : a < h.objs.size := by
  cases d
  · obtain ⟨_, e, _⟩ := (show h.IsList a us from q); exact Heap.lt_size e
  · obtain ⟨_, e, _⟩ := (show h.IsTuple a us from q); exact Heap.lt_size e
theorem itX_at {d : Bool} {h h' : Heap} {q a : Addr} {i : Nat} (st : ItX d h q a i) (k : ∀ o, h.get? q = some o → h'.get? q = some o) : ItX d h' q a i := by
  cases d
  · exact Heap.IsListIter.at (show h.IsListIter q a i from st) k
  · exact Heap.IsTupleIter.at (show h.IsTupleIter q a i from st) k
theorem itX_ob {d : Bool} {h : Heap} {q a : Addr} {i : Nat} (st : ItX d h q a i) : ∃ o, h.get? q = some o ∧ ∀ v : Option Value, o.data ≠ Data.cell v := by
  cases d
  · obtain ⟨o, e, _, z⟩ := (show h.IsListIter q a i from st)
    exact ⟨o, e, fun v y => by rw [z] at y; cases y⟩
  · obtain ⟨o, e, _, z⟩ := (show h.IsTupleIter q a i from st)
    exact ⟨o, e, fun v y => by rw [z] at y; cases y⟩
theorem drawsX {P : Program} {w : World} {A : Around} (d : Bool) (hh : A.handled = none) (q a : Addr) (ne : a ≠ q) (us : Array Value) :
    Draws P w A q [q, a] us.size (fun i v => us[i]? = some v) (fun i h => ItX d h q a i ∧ IsX d h a us) := by
  cases d
  · exact Draws.list hh q a ne us
  · exact Draws.tuple hh q a ne us
theorem beginsX (d : Bool) (a : Addr) (us : Array Value) : Begins (.ref a) (obX d a) fun h => IsX d h a us := by
  cases d
  · exact begins_list a us
  · exact begins_tuple a us
/-- what stands at a and b at each turn, in new pairs -/
def ItzX (K : PySem.W.Frag) (d e : Bool) (a b : Addr) : It :=
  ⟨fun i H => ∃ (xs ys : List V) (x y : V), SqX K d H a xs ∧ SqX K e H b ys ∧ xs[i]? = some x ∧ ys[i]? = some y,
    fun i H v H' => ∃ T x y, v = .ref T ∧ H T = none ∧ H' = upd H T (.tup [x, y]) ∧ (∀ xs, SqX K d H a xs → xs[i]? = some x) ∧ ∀ ys, SqX K e H b ys → ys[i]? = some y,
    fun i H => ∃ xs ys : List V, SqX K d H a xs ∧ SqX K e H b ys ∧ i ≤ xs.length ∧ i ≤ ys.length ∧ (i = xs.length ∨ i = ys.length)⟩
theorem turn_zipX {P : Program} {w : World} {K : PySem.W.Frag} {elts : List Expr} {kk : Nat} {tpos : Pos} {d e : Bool} {a b z U O q r : Addr} (S : ZipSep2 z U O q r [q, a] [r, b]) (na : a ≠ q) (nb : b ≠ r) (nqr : q ≠ r) :
    Turn P w K (.Tuple elts kk tpos) (ItzX K d e a b) [z, U, O, q, r] z (fun i h => IsZip h z U O .none ∧ IsTupOf2 h U (.ref q) (.ref r) ∧ (∃ x y, IsTupOf2 h O x y) ∧ ItX d h q a i ∧ ItX e h r b i) where
  mem := by simp
  obj := fun i h st c hc => by
    obtain ⟨hz, hU, ⟨x, y, hO⟩, h1, h2⟩ := st
    simp only [List.mem_cons, List.not_mem_nil, or_false] at hc
    rcases hc with e | e | e | e | e <;> subst e
    · exact ⟨_, hz, fun v z => nomatch z⟩
    · exact ⟨_, hU, fun v z => nomatch z⟩
    · exact ⟨_, hO, fun v z => nomatch z⟩
    · exact itX_ob h1
    · exact itX_ob h2
  keep := fun i h h' st k => by
    obtain ⟨hz, hU, ⟨x, y, hO⟩, h1, h2⟩ := st
    exact ⟨k z (by simp) _ hz, k U (by simp) _ hU, ⟨x, y, k O (by simp) _ hO⟩, itX_at h1 fun o g => k q (by simp) o g, itX_at h2 fun o g => k r (by simp) o g⟩
  item := by
    intro X eP ew eK hc i pins s σ H E I hf st hg
    subst eP ew eK
    obtain ⟨hz, hU, ⟨x0, y0, hO⟩, h1, h2⟩ := st
    obtain ⟨xs, ys, x, y, sx, sy, hx, hy⟩ := hg
    obtain ⟨us, ru, pu⟩ := sqX_inv I sx
    obtain ⟨ts, rt, pt⟩ := sqX_inv I sy
    obtain ⟨u, hu, wu⟩ := ru.get hx
    obtain ⟨t, ht, wt⟩ := rt.get hy
    have zl : z < s.heap.objs.size := Heap.lt_size hz
    have D1 := drawsX (P := X.prog) (w := X.w) (A := X.A.in1) d (I.ok.hd hc) q a na us.toArray
    have D2 := drawsX (P := X.prog) (w := X.w) (A := X.A.in1) e (I.ok.hd hc) r b nb ts.toArray
    have k1 : i < us.toArray.size := by
      have := (List.getElem?_eq_some_iff.mp hu).1
      simpa using this
    have k2 : i < ts.toArray.size := by
      have := (List.getElem?_eq_some_iff.mp ht).1
      simpa using this
    refine wpAny_pyNext_zipD2_item S D1 D2 hz hU hO ⟨h1, pu⟩ ⟨h2, pt⟩ k1 k2 fun x1 x2 h' tk g1 g2 hz' hO' st1 st2 hT hsz keep => ?_
    have e1 : x1 = u := by
      have : us[i]? = some x1 := by simpa using g1
      rw [hu] at this; exact (Option.some.inj this).symm
    have e2 : x2 = t := by
      have : ts[i]? = some x2 := by simpa using g2
      rw [ht] at this; exact (Option.some.inj this).symm
    subst e1 e2
    refine ⟨_, rfl, wpAny_letOwnedTupleGo_zip (s := { s with heap := h', toks := tk }) hz' fun h2' hz2 sb => ?_⟩
    have gT : h2'.get? s.heap.objs.size = some { cls := .type "tuple", data := .seq #[x1, x2] } := (sb.2 _ (Nat.ne_of_gt zl)).trans hT
    have nw : ObjOk X.prog X.w (upd H s.heap.objs.size (.tup [x, y])) h2' s.heap.objs.size (.tup [x, y]) :=
      ⟨by show 2 ≤ sizeLine; decide, [x1, x2], .cons wu (.cons wt .nil), ⟨_, gT, rfl, _, rfl⟩⟩
    have J : L2.Inv X pins σ (upd H s.heap.objs.size (.tup [x, y])) { s with heap := h2', toks := tk } :=
      I.turnedNew (ch := [z, U, O, q, r]) (fun c o hb g => (sb.2 c (fun g' => hb (by simp [g']))).trans (keep c o (fun g' => hb (by simp [g'])) (fun g' => hb (by simp [g'])) (fun g' => hb (by simp [g'])) (fun g' => hb (by simp [g'])) g)) hf (Nat.le_refl _) nw
    refine ⟨.ref s.heap.objs.size, _, J, rfl, ⟨_, x, y, rfl, I.hok.fresh (Nat.le_refl _), rfl, fun l hl => by rw [sqX_inj I hl sx]; exact hx, fun l hl => by rw [sqX_inj I hl sy]; exact hy⟩, ⟨hz2, ?_, ⟨x1, x2, ?_⟩, ?_, ?_⟩, fun c hm => ?_⟩
    · exact (sb.2 _ S.TIz).trans (keep _ _ S.TIz S.TITO S.TIi1 S.TIi2 hU)
    · exact (sb.2 _ S.TOz).trans hO'
    · exact itX_at st1.1 fun o g => (sb.2 _ S.zi1.symm).trans g
    · exact itX_at st2.1 fun o g => (sb.2 _ S.zi2.symm).trans g
    · have lt : c < s.heap.objs.size := by
        simp only [List.mem_cons, List.not_mem_nil, or_false] at hm
        rcases hm with g | g | g | g | g <;> rw [g]
        · exact zl
        · exact Heap.lt_size hU
        · exact Heap.lt_size hO
        · obtain ⟨_, g1, _⟩ := itX_ob h1; exact Heap.lt_size g1
        · obtain ⟨_, g1, _⟩ := itX_ob h2; exact Heap.lt_size g1
      rw [upd_ne (Nat.ne_of_lt lt)]
      exact (hf c hm).1
  done := by
    intro X eP ew eK hc i pins s σ H E I hf st hg
    subst eP ew eK
    obtain ⟨hz, hU, ⟨x0, y0, hO⟩, h1, h2⟩ := st
    obtain ⟨xs, ys, sx, sy, l1, l2, hend⟩ := hg
    obtain ⟨us, ru, pu⟩ := sqX_inv I sx
    obtain ⟨ts, rt, pt⟩ := sqX_inv I sy
    have n1 := ru.length
    have n2 := rt.length
    have D1 := drawsX (P := X.prog) (w := X.w) (A := X.A.in1) d (I.ok.hd hc) q a na us.toArray
    have D2 := drawsX (P := X.prog) (w := X.w) (A := X.A.in1) e (I.ok.hd hc) r b nb ts.toArray
    have s1 : us.toArray.size = us.length := by simp
    have s2 : ts.toArray.size = ts.length := by simp
    exact wpAny_pyNext_zipD2_end S D1 D2 hz hU hO ⟨h1, pu⟩ ⟨h2, pt⟩ (by omega) (by omega) (by omega) fun h' tk keep => ⟨rfl, I.turnedL (t' := tk) (ch := [z, U, O, q, r]) (fun c o hb g =>
      keep c o (fun g' => hb (by simp [g'])) (fun g' => hb (by simp [g'])) (fun g' => hb (by simp [g'])) (fun g' => hb (by simp [g'])) g) hf⟩
  self := fun A i s Q E st h => wpAny_pyIter_zip st.1 h
def iZipX (K : PySem.W.Frag) (d e : Bool) (ta : TA) : TI := fun σ H R => ta σ H fun vs H1 => ∃ a b xs ys, vs = [.ref a, .ref b] ∧ SqX K d H1 a xs ∧ SqX K e H1 b ys ∧ R (ItzX K d e a b) H1
theorem pi_zipX {X : Cx} {e1 e2 : Expr} {ta : TA} {p pos tpos : Pos} {elts : List Expr} {kk : Nat} {K : PySem.W.Frag} {d e : Bool} (hK : X.K = K) (hg : Gl X "zip") (hm : X.mg "zip" = none) (ha : PA X [e1, e2] ta)
    (hs : starEach [e1, e2] X.env = (false, eval e1 X.env) :: starEach [e2] X.env := by rfl) (hpl : (backTo pos (starEach [e2] X.env)).any (·.1) = false := by rfl) :
    PI X (.Tuple elts kk tpos) (.Call (.Name "zip" p) [e1, e2] [] pos) (iZipX K d e ta) := by
  subst hK
  refine ⟨fun pins s σ H R I h => ?_⟩
  refine Call_ (ld_blt I hg hm boot_zip (PyProof.Rows.callWith_type1 (thn (ha.run pos pins s σ H _ I h) fun us s1 ⟨vs, H1, I1, r1, q1⟩ => ?_) hs hpl))
  obtain ⟨a, b, xs, ys, ex, sx, sy, q⟩ := q1
  subst ex
  cases r1 with
  | cons r rr =>
    cases rr with
    | cons r' rr =>
      cases rr
      cases r
      cases r'
      obtain ⟨us, ru, pu⟩ := sqX_inv I1 sx
      obtain ⟨ts, rt, pt⟩ := sqX_inv I1 sy
      have la := isX_lt pu
      have lb := isX_lt pt
      refine zip_begins2 (beginsX d a us.toArray) (beginsX e b ts.toArray) pu pt fun h' hz hU hO g1 g2 hsz keep => wpAny_pyIter_zip hz ?_
      have J : L2.Inv X pins σ H1 { s1 with heap := h' } := I1.kept (t' := s1.toks) keep
      have S : ∀ n : Nat, @LT.lt Nat _ a n → @LT.lt Nat _ b n → ZipSep2 (n + 4) (n + 2) (n + 3) n (n + 1) [n, a] [n + 1, b] ∧ a ≠ n ∧ b ≠ n + 1 ∧ n ≠ n + 1 := fun n la lb => by
        have ea : ∀ k : Nat, n ≤ k → (k : Addr) ≠ a := fun k hk e => by
          have : a = k := e.symm
          rw [this] at la; exact absurd la (Nat.not_lt.mpr hk)
        have eb : ∀ k : Nat, n ≤ k → (k : Addr) ≠ b := fun k hk e => by
          have : b = k := e.symm
          rw [this] at lb; exact absurd lb (Nat.not_lt.mpr hk)
        have en : ∀ j k : Nat, j ≠ k → (n + j : Nat) ≠ n + k := fun j k h e => h (Nat.add_left_cancel e)
        have e2 : ∀ {x y z : Addr}, x ≠ y → x ≠ z → x ∉ [y, z] := fun h1 h2 h => by
          simp only [List.mem_cons, List.not_mem_nil, or_false] at h
          exact h.elim h1 h2
        refine ⟨⟨en 2 4 (by decide), en 3 4 (by decide), en 2 3 (by decide), en 2 0 (by decide), by simp, ?_, ?_, en 2 1 (by decide), by simp, ?_, ?_, ?_, ?_⟩, fun e => ea n (Nat.le_refl _) e.symm, fun e => eb (n + 1) (Nat.le_succ _) e.symm, en 0 1 (by decide)⟩
        · exact e2 (en 4 0 (by decide)) (ea _ (Nat.le_add_right _ _))
        · exact e2 (en 3 0 (by decide)) (ea _ (Nat.le_add_right _ _))
        · exact e2 (en 4 1 (by decide)) (eb _ (Nat.le_add_right _ _))
        · exact e2 (en 3 1 (by decide)) (eb _ (Nat.le_add_right _ _))
        · exact e2 (en 0 1 (by decide)) (eb _ (Nat.le_refl _))
        · exact e2 (en 1 0 (by decide)) (ea _ (Nat.le_add_right _ _))
      obtain ⟨S, na, nb, nn⟩ := S _ la lb
      have i1 : ItX d h' s1.heap.objs.size a 0 := by
        cases d <;> exact ⟨_, g1, rfl, rfl⟩
      have i2 : ItX e h' (s1.heap.objs.size + 1) b 0 := by
        cases e <;> exact ⟨_, g2, rfl, rfl⟩
      refine ⟨s1.heap.objs.size + 4, [s1.heap.objs.size + 4, s1.heap.objs.size + 2, s1.heap.objs.size + 3, s1.heap.objs.size, s1.heap.objs.size + 1], _, _, H1, rfl, J, turn_zipX S na nb nn, ⟨hz, hU, ⟨_, _, hO⟩, i1, i2⟩, fun c hm => ?_, q⟩
      have le : s1.heap.objs.size ≤ c := by
        simp only [List.mem_cons, List.not_mem_nil, or_false] at hm
        rcases hm with g | g | g | g | g <;> rw [g]
        · exact Nat.le_add_right _ _
        · exact Nat.le_add_right _ _
        · exact Nat.le_add_right _ _
        · exact Nat.le_refl _
        · exact Nat.le_add_right _ _
      exact I1.fpOk le (I1.hok.fresh le)
theorem walk_zipX {K : PySem.W.Frag} {d e : Bool} {a b : Addr} {xs ys : List V} {n : Nat} (hn : n = min xs.length ys.length) : L2.Walk (ItzX K d e a b) n (fun H => SqX K d H a xs ∧ SqX K e H b ys) (YPair (fun i => xs[i]?) (fun i => ys[i]?)) := by
  subst hn
  refine ⟨fun i _ hi q => ?_, fun _ q => ⟨xs, ys, q.1, q.2, by omega, by omega, by omega⟩, fun i H v H' _ q y => ?_⟩
  · have h1 : i < xs.length := by omega
    have h2 : i < ys.length := by omega
    exact ⟨xs, ys, xs[i], ys[i], q.1, q.2, by simp [h1], by simp [h2]⟩
  · obtain ⟨T, x, z, h1, h2, h3, h4, h5⟩ := y
    exact ⟨T, x, z, h1, h2, h3, h4 xs q.1, h5 ys q.2⟩
section
variable {F : Fm} {c : Ctx} {T : List Tm} {σ : Sg} {H : Hp} {A : Nat → List Addr} {B : List Addr} {D : Ends} {α β γ ι τ : Type} {R : Rp α} {Rb : Rp β} {Rc : Rp γ} {m m1 m2 m3 : Md} {te ta tb tc to ti td : TE} {tt tu : TT} {tr : TS} {K : PySem.W.Frag}
theorem iw_zipLT {W1 : (List α → Prop) → Prop} {W2 : List α → (List β → Prop) → Prop} (h1 : EW c ta m (rList R) W1) (h2 : ∀ xs, EW c tb m (rTup K Rb) (W2 xs)) : IW c (iZipX K false true (tCons ta (tCons tb tNil))) m (rPair K R Rb) (fun P => W1 fun xs => W2 xs fun ys => P (xs.zip ys)) := fun P w T σ H hd Kk k =>
  h1 _ w T σ H hd _ fun xs v H1 pn q1 => h2 xs _ pn _ σ H1 q1 _ fun ys u H2 pm ⟨A, B, q⟩ => by
    obtain ⟨l2, us, e2, hl2, hs2, q2⟩ := q.asTup (K := K)
    have q3 : HdA _ c (⟨v, m, (rList R).at xs⟩ :: ⟨.non, m, pTup K Rb l2 us ys⟩ :: T) σ H2 A B := q2.sub fun t ht => by
      simp only [List.mem_cons] at ht ⊢
      rcases ht with z | z | z
      · exact .inr (.inl z)
      · exact .inl z
      · exact .inr (.inr z)
    obtain ⟨l1, vs, e1, hl1, hs1, q4⟩ := q3.asList (K := K)
    refine ⟨l1, l2, vs, us, by rw [e1, e2], hs1, hs2, k (xs.zip ys) _ _ H2 pm ?_ ⟨A, B, q4⟩⟩
    refine itO_of (walk_zipX (d := false) (e := true) (xs := vs) (ys := us) rfl) (by rw [List.length_zip, hl1, hl2]) (fun t h => List.mem_cons_of_mem _ (List.mem_cons_of_mem _ h)) (fun hm n => nob_cons hm (nob_cons hm n)) (fun F c T2 σ H s ⟨A, B, hd⟩ => ⟨(hd.pl (s _ List.mem_cons_self)).1, (hd.pt (s _ (List.mem_cons_of_mem _ List.mem_cons_self))).1⟩) fun F c T2 σ H s ⟨A, B, hd⟩ i hi x H' ⟨t, y, z, e0, hn, e1, f2, f3⟩ => ?_
    subst e0 e1
    have i1 : i < xs.length := by rw [List.length_zip] at hi; omega
    have i2 : i < ys.length := by rw [List.length_zip] at hi; omega
    refine hd.newTup (p := (rPair K R Rb).at _) hn fun H1 ex hs => ⟨t, y, z, rfl, hs, ?_, ?_⟩
    · have := R.mono ex (pget' (hd.pl (K := K) (s _ List.mem_cons_self)).2 i1 f2)
      simpa using this
    · have := Rb.mono ex (pget' (hd.pt (K := K) (s _ (List.mem_cons_of_mem _ List.mem_cons_self))).2 i2 f3)
      simpa using this
theorem iw_zipTL {W1 : (List α → Prop) → Prop} {W2 : List α → (List β → Prop) → Prop} (h1 : EW c ta m (rTup K R) W1) (h2 : ∀ xs, EW c tb m (rList Rb) (W2 xs)) : IW c (iZipX K true false (tCons ta (tCons tb tNil))) m (rPair K R Rb) (fun P => W1 fun xs => W2 xs fun ys => P (xs.zip ys)) := fun P w T σ H hd Kk k =>
  h1 _ w T σ H hd _ fun xs v H1 pn q1 => h2 xs _ pn _ σ H1 q1 _ fun ys u H2 pm ⟨A, B, q⟩ => by
    obtain ⟨l2, us, e2, hl2, hs2, q2⟩ := q.asList (K := K)
    have q3 : HdA _ c (⟨v, m, (rTup K R).at xs⟩ :: ⟨.non, m, pList Rb l2 us ys⟩ :: T) σ H2 A B := q2.sub fun t ht => by
      simp only [List.mem_cons] at ht ⊢
      rcases ht with z | z | z
      · exact .inr (.inl z)
      · exact .inl z
      · exact .inr (.inr z)
    obtain ⟨l1, vs, e1, hl1, hs1, q4⟩ := q3.asTup (K := K)
    refine ⟨l1, l2, vs, us, by rw [e1, e2], hs1, hs2, k (xs.zip ys) _ _ H2 pm ?_ ⟨A, B, q4⟩⟩
    refine itO_of (walk_zipX (d := true) (e := false) (xs := vs) (ys := us) rfl) (by rw [List.length_zip, hl1, hl2]) (fun t h => List.mem_cons_of_mem _ (List.mem_cons_of_mem _ h)) (fun hm n => nob_cons hm (nob_cons hm n)) (fun F c T2 σ H s ⟨A, B, hd⟩ => ⟨(hd.pt (s _ List.mem_cons_self)).1, (hd.pl (s _ (List.mem_cons_of_mem _ List.mem_cons_self))).1⟩) fun F c T2 σ H s ⟨A, B, hd⟩ i hi x H' ⟨t, y, z, e0, hn, e1, f2, f3⟩ => ?_
    subst e0 e1
    have i1 : i < xs.length := by rw [List.length_zip] at hi; omega
    have i2 : i < ys.length := by rw [List.length_zip] at hi; omega
    refine hd.newTup (p := (rPair K R Rb).at _) hn fun H1 ex hs => ⟨t, y, z, rfl, hs, ?_, ?_⟩
    · have := R.mono ex (pget' (hd.pt (K := K) (s _ List.mem_cons_self)).2 i1 f2)
      simpa using this
    · have := Rb.mono ex (pget' (hd.pl (K := K) (s _ (List.mem_cons_of_mem _ List.mem_cons_self))).2 i2 f3)
      simpa using this
theorem iw_zipLTP {S1 S2 : Prop} {xs : List α} {ys : List β} (h1 : EP c ta m (rList R) S1 xs) (h2 : EP c tb m (rTup K Rb) S2 ys) : IWP c (iZipX K false true (tCons ta (tCons tb tNil))) m (rPair K R Rb) (S1 ∧ S2) (xs.zip ys) := fun P w T σ H hd Kk k => iw_zipLT h1.w (fun _ => h2.w) P ⟨w.1.1, w.1.2, w.2⟩ T σ H hd Kk k
theorem iw_zipTLP {S1 S2 : Prop} {xs : List α} {ys : List β} (h1 : EP c ta m (rTup K R) S1 xs) (h2 : EP c tb m (rList Rb) S2 ys) : IWP c (iZipX K true false (tCons ta (tCons tb tNil))) m (rPair K R Rb) (S1 ∧ S2) (xs.zip ys) := fun P w T σ H hd Kk k => iw_zipTL h1.w (fun _ => h2.w) P ⟨w.1.1, w.1.2, w.2⟩ T σ H hd Kk k
end
section
variable {K : PySem.W.Frag} {α : Type} {R : Rp α} [Dt K R]
theorem isk_ll (a : List α) : isK "list" (Dt.d K (rList R) a) = true := rfl
theorem isk_lt (a : List α) : isK "tuple" (Dt.d K (rList R) a) = false := rfl
theorem isk_tt (a : List α) : isK "tuple" (Dt.d K (rTup K R) a) = true := rfl
theorem isk_tl (a : List α) : isK "list" (Dt.d K (rTup K R) a) = false := rfl
end
/-- the context said anew -/
theorem sw_re {F : Fm} {c c' : Ctx} {T : List Tm} {t : TS} {D : Ends} {W : Prop} (h : SW F c' T t D W) (e : c = c') : SW F c T t D W := e ▸ h
section
variable {c : Ctx} {α : Type} {R : Rp α} {m m1 m2 : Md} {te ta tb : TE} {K : PySem.W.Frag}
theorem ew_clo {W : (α → Prop) → Prop} (h : EW c te m R W) : EW c te m R (fun P' => ∃ P, W P ∧ ∀ a, P a → P' a) := fun P' ⟨P, w, i⟩ T σ H hd Q k => h P w T σ H hd Q fun a v H' pa q => k a v H' (i a pa) q
/-- _law_eq of what is reckoned by a call -/
theorem ew_leq [DecidableEq α] [Dt K R] [Qs K R] {Wa : (α → Prop) → Prop} {S : Prop} {y : α} {E : XK} (ha : EW c ta m1 R Wa) (hb : EP c tb m2 R S y) (hd : Dt.dep K R ≤ 7 := by exact Nat.le_of_ble_eq_true rfl) :
    EW c (tCall (spF (fun i : PyData × PyData × Unit => [Rp.ps (rU K) i.1, Rp.ps (rU K) i.2.1]) rBool (fun i => (small i.2.1 = true ∧ noStr i.1 = true ∧ noStr i.2.1 = true) ∧ i.2.1.depth < 8) (fun i => eqs i.1 i.2.1)) [] E (tCons ta (tCons tb tNil))) .n rBool (fun P => Wa fun x => (S ∧ Sml K R y) ∧ P (decide (x = y))) := by
  refine EW.imp (ew_call (L := fun i : PyData × PyData × Unit => [Rp.ps (rU K) i.1, Rp.ps (rU K) i.2.1]) (aw_cons (ew_U (K := K) (ew_clo ha)) (fun _ => aw_cons (EP.w (ep_U (K := K) hb)) (fun _ => aw_nil)))) ?_
  intro P w
  refine ⟨_, w, fun a ⟨⟨s, sm⟩, p⟩ => ⟨s, ⟨⟨sm, Qs.ns a, Qs.ns y⟩, Nat.lt_of_le_of_lt (Nat.le_trans (Dt.deep y) hd) (by decide)⟩, ?_⟩⟩
  show P (eqs (Dt.d K R a) (Dt.d K R y))
  rw [Qs.eqs]; exact p
end
end TW

set_option maxRecDepth 100000
set_option maxHeartbeats 4000000
/-! ## 32. defs as values -/
namespace TW
open PySem PySem.Spec PyProof.Rows L2
abbrev nth (names : List Str) (n : Nat) : Str := names.getD n ""
def rGl (mg : Str → Option Value) (names : List Str) : Rp Nat := ⟨fun _ v n => ∃ f, v = .ref f ∧ mg (nth names n) = some (.ref f), fun _ h => h⟩
instance {mg : Str → Option Value} {names : List Str} : Im (rGl mg names) := ⟨fun h => h⟩
instance {mg : Str → Option Value} {names : List Str} : NN (rGl mg names) := ⟨fun {H v a} h => by obtain ⟨f, e, _⟩ := h; rw [e]; simp⟩
def tGl (mg : Str → Option Value) (x : Str) : TE := fun _ H Q => ∀ f, mg x = some (.ref f) → Q (.ref f) H
def tCallG (i : Nat) (mg : Str → Option Value) (names : List Str) (fam : Nat → Prop) (sp : Nat → Sp) (t : TA) : TE := fun σ H Q => ∃ f n, σ[i]? = some (some (.ref f)) ∧ mg (nth names n) = some (.ref f) ∧ fam n ∧ tCall (sp n) [] E0 t σ H Q
section
variable {X : Cx} {x y : Str} {n k j i : Nat} {sp : Sp} {e : Expr} {es : List Expr} {t : TA} {p pos : Pos}
theorem pe_gn {P : Program} {w : World} {K : PySem.W.Frag} {base : Heap} {mg : Str → Option Value} (C : Cal P w K mg base k x n sp) (h : X.mg = mg) (hg : Gl X x) (hdb : (x == ("__debug__" : Str)) = false := by decide) : PE X (.Name x pos) (tGl mg x) := by
  subst h
  obtain ⟨ps, f, fd, F, hm, hk, hb, _⟩ := C.ex
  exact ⟨fun pins s σ H Q I h => (pe_glob hg hm (v := .ref f) rfl hdb).run pins s σ H Q I (h f hm)⟩
theorem pe_callG {names : List Str} {fam : Nat → Prop} {spf : Nat → Sp} (A : ∀ n, fam n → ∃ ar kk, kk ≤ k ∧ Cal X.prog X.w X.K X.mg X.base kk (nth names n) ar (spf n)) (hr : Room j X.A) (hj : k ≤ j) (hN : X.N[i]? = some y) (hv : Vis X.env.scope y) (ha : PA X (e :: es) t)
    (hdb : (y == ("__debug__" : Str)) = false := by decide) (hcd : (y == ("__classdict__" : Str)) = false := by decide)
    (he : starEach (e :: es) X.env = (false, eval e X.env) :: starEach es X.env := by rfl) (hpl : (backTo pos (starEach es X.env)).any (·.1) = false := by rfl) : PE X (.Call (.Name y p) (e :: es) [] pos) (tCallG i X.mg names fam spf t) := by
  refine ⟨fun pins s σ H Q I ⟨f, n, hs, hm, hn, ht⟩ => ?_⟩
  obtain ⟨ar, kk, hkk, C⟩ := A n hn
  obtain ⟨ps, f', fd, F, hm', hk, hb, _⟩ := C.ex
  have ef : f' = f := by rw [hm'] at hm; cases hm; rfl
  subst ef
  refine (pe_callL (i := i) (dvs := []) (E := E0) F (hr.mono (Nat.le_trans hkk hj)) hN hv hk hb .nil pass0 ha hdb hcd he hpl).run pins s σ H Q I ⟨hs, ?_⟩
  exact ht
end
section
variable {F : Fm} {c : Ctx} {T : List Tm} {σ : Sg} {H : Hp} {ι ρ : Type} {m : Md} {K : PySem.W.Frag} {mg : Str → Option Value} {names : List Str}
theorem ep_gn {x : Str} (n : Nat) (hx : nth names n = x) : EP c (tGl mg x) m (rGl mg names) True n := fun _ T σ H hd Q k => fun f hf => by
  obtain ⟨A, B, hd⟩ := hd
  exact k (.ref f) H (HD.push hd (p := (rGl mg names).at n) ⟨f, rfl, by rw [hx]; exact hf⟩)
theorem ew_callG {i g : Nat} {L : ι → List Pm} {Rr : Rp ρ} {spec : Nat → ι → (ρ → Prop) → Prop} {fam : Nat → Prop} {t : TA} {La : ι → AL} {W : (ι → Prop) → Prop} (hc : c[i]? = some (.sh m ((rGl mg names).at g))) (ha : AW' c t La W) (e : ∀ i, (La i).map Prod.snd = (L i).map Pm.p := by intro _; rfl) :
    EW c (tCallG i mg names fam (fun n => spT false L Rr (spec n)) t) .n Rr (fun P => fam g ∧ W fun i => spec g i P) := fun P w T σ H hd Q k => by
  obtain ⟨v, hv, hd2⟩ := ep_var hc trivial T σ H hd (fun v H' => HD _ c (⟨v, m, (rGl mg names).at g⟩ :: T) σ H') fun _ _ h => h
  obtain ⟨A, B, hd3⟩ := hd2
  obtain ⟨f, hf, hm⟩ := (show ∃ f, v = .ref f ∧ mg (nth names g) = some (.ref f) from hd3.hd)
  refine ⟨f, g, by rw [hv, hf], hm, w.1, ?_⟩
  exact ew_call (E := E0) ha e P w.2 T σ H hd Q k
theorem ep_callG {i g : Nat} {L : ι → List Pm} {Rr : Rp ρ} {pre : Nat → ι → Prop} {f : Nat → ι → ρ} {fam : Nat → Prop} {t : TA} {La : AL} {S : Prop} (a : ι) (hc : c[i]? = some (.sh m ((rGl mg names).at g))) (ha : AP' c t S La) (e : La.map Prod.snd = (L a).map Pm.p := by rfl) :
    EP c (tCallG i mg names fam (fun n => spF L Rr (pre n) (f n)) t) .n Rr (S ∧ fam g ∧ pre g a) (f g a) := fun s T σ H hd Q k => by
  obtain ⟨v, hv, hd2⟩ := ep_var hc trivial T σ H hd (fun v H' => HD _ c (⟨v, m, (rGl mg names).at g⟩ :: T) σ H') fun _ _ h => h
  obtain ⟨A, B, hd3⟩ := hd2
  obtain ⟨fa, hf, hm⟩ := (show ∃ f, v = .ref f ∧ mg (nth names g) = some (.ref f) from hd3.hd)
  refine ⟨fa, g, by rw [hv, hf], hm, s.2.1, ?_⟩
  exact ep_call (E := E0) a ha e ⟨s.1, s.2.2⟩ T σ H hd Q k
end
end TW

set_option maxRecDepth 100000
set_option maxHeartbeats 4000000
/-! ## 33. t[::-1] of a tuple -/
namespace TW
open PySem PySem.Spec PyProof.Rows L2 HT
section
variable {P : Program} {w : World} {A : Around} {E : Value → Shared → Prop} {s : Shared}
theorem adjust_rev (n : Nat) : Builtin.Slice.sliceAdjust none none (-1) (n : Int) = ((n : Int) - 1, -1) := by
  unfold Builtin.Slice.sliceAdjust
  simp
theorem places_rev (n : Nat) : Builtin.Slice.slicePlaces ((n : Int) - 1) (-1) (-1) = n := by
  unfold Builtin.Slice.slicePlaces
  simp
  omega
theorem sliceApplied_rev {q : Addr} {x y z : Value} {n : Nat} {Q : Int × Int × Nat → Shared → Prop} (hq : s.heap.IsSliceOf q x y z) (px : IsPart x none) (py : IsPart y none) (pz : IsPart z (some (-1))) (h : Q ((n : Int) - 1, -1, n) s) :
    wpAny (model P w) A (Builtin.Slice.sliceApplied (.ref q) (pure (n : Int))) Q E s := by
  obtain ⟨o, ho, _, hd⟩ := id hq
  unfold Builtin.Slice.sliceApplied Builtin.Slice.sliceFields
  refine wpAny_bind (wpAny_bind (wpAny_field ho hd (x := x) rfl (wpAny_bind (wpAny_field ho hd (x := y) rfl (wpAny_bind (wpAny_field ho hd (x := z) rfl (wpAny_pure ?_)))))))
  refine wpAny_bind (slicePart_ pz ?_)
  show wpAny _ _ (if ((-1 : Int) == 0) = true then _ else _) _ _ s
  rw [if_neg (by decide)]
  refine wpAny_bind (slicePart_ px (wpAny_bind (slicePart_ py (wpAny_bind (wpAny_pure ?_)))))
  show wpAny _ _ (match Builtin.Slice.sliceAdjust none none (-1) (n : Int) with | (u, v) => pure (u, (-1 : Int), Builtin.Slice.slicePlaces u v (-1))) _ _ s
  rw [adjust_rev n]
  show wpAny _ _ (pure ((n : Int) - 1, (-1 : Int), Builtin.Slice.slicePlaces ((n : Int) - 1) (-1) (-1))) _ _ s
  rw [places_rev]
  exact wpAny_pure h
theorem pick_rev (xs : Array Value) : ((List.range xs.size).filterMap fun (m : Nat) => xs[((xs.size : Int) - 1 + (m : Int) * (-1)).toNat]?).toArray = xs.toList.reverse.toArray := by
  congr 1
  refine List.ext_getElem? fun i => ?_
  by_cases hi : i < xs.size
  · have key : ∀ k, k ≤ xs.size → ((List.range k).filterMap fun (m : Nat) => xs[((xs.size : Int) - 1 + (m : Int) * (-1)).toNat]?) = (List.range k).map fun m => xs[xs.size - 1 - m]! := by
      intro k hk
      induction k with
      | zero => rfl
      | succ k ih =>
        rw [List.range_succ, List.filterMap_append, List.map_append, ih (by omega)]
        congr 1
        have e : ((xs.size : Int) - 1 + (k : Int) * (-1)).toNat = xs.size - 1 - k := by omega
        have h2 : xs[xs.size - 1 - k]? = some xs[xs.size - 1 - k]! := by
          rw [getElem!_pos xs _ (by omega), Array.getElem?_eq_getElem (by omega)]
        simp only [List.filterMap_cons, List.filterMap_nil, List.map_cons, List.map_nil, e, h2]
    rw [key _ (Nat.le_refl _), List.getElem?_map, List.getElem?_range hi, List.getElem?_reverse (by simpa using hi)]
    simp only [Option.map_some, Array.length_toList, Array.getElem?_toList]
    rw [getElem!_pos xs _ (by omega), Array.getElem?_eq_getElem (by omega)]
  · have h1 : ((List.range xs.size).filterMap fun (m : Nat) => xs[((xs.size : Int) - 1 + (m : Int) * (-1)).toNat]?).length ≤ xs.size := by
      have := List.length_filterMap_le (fun (m : Nat) => xs[((xs.size : Int) - 1 + (m : Int) * (-1)).toNat]?) (List.range xs.size)
      simpa using this
    rw [List.getElem?_eq_none (by omega), List.getElem?_eq_none (by rw [List.length_reverse, Array.length_toList]; omega)]
theorem getItem_tuple_rev {t q : Addr} {us : Array Value} {x y z : Value} {Q : Value → Shared → Prop} (pt : IsTup s.heap t us) (hq : s.heap.IsSliceOf q x y z) (px : IsPart x none) (py : IsPart y none) (pz : IsPart z (some (-1)))
    (h : Q (.ref s.heap.objs.size) { s with heap := s.heap.push { cls := .type "tuple", data := .seq us.toList.reverse.toArray } }) (hz : us.size ≤ sizeLine) : wpAny (model P w) A (getItem (.ref t) (.ref q)) Q E s := by
  have ok : sizeOk (.seq us.toList.reverse.toArray) := by
    show us.toList.reverse.toArray.size ≤ sizeLine
    rw [List.size_toArray, List.length_reverse, Array.length_toList]
    exact hz
  obtain ⟨o, ho, hc, hd⟩ := id hq
  have tq : s.TypeIs (.ref q) "slice" := ⟨o, ho, hc⟩
  unfold getItem
  try with_reducible refine wpAny_holding ?_
  first | refine wpAny_bind (wpAny_pure ?_) | skip
  refine wpAny_bind (wpAny_sequenceKey pt.typeIs (by decide) ?_)
  refine wpAny_bind (wpAny_callSpecial?_slot (name := Str.ofString "__getitem__") pt.typeIs PyProof.Rows.slot_tuple_getitem (wpAny_call_entry PyProof.Rows.slot_tuple_getitem pt.typeIs entry_tuple_getitem ?_ (args_tuple_getitem _ _)))
  show wpAny _ _ (Builtin.Tuple.tupleItemsOf (.ref t) >>= _) _ _ s
  refine wpAny_bind (tupleItemsOf_ pt ?_)
  refine wpAny_bind (wpAny_typeOf tq ?_)
  rw [if_pos (by decide)]
  refine wpAny_bind (sliceApplied_rev hq px py pz ?_)
  have no : ¬ (((us.size : Int) - 1 == 0 && (-1 : Int) == 1 && us.size == us.size) = true) := by simp
  show wpAny _ _ (if (((us.size : Int) - 1 == 0 && (-1 : Int) == 1 && us.size == us.size) = true) then _ else _) _ _ s
  rw [if_neg no, pick_rev]
  first
    | exact wpAny_bind (m := Builtin.Tuple.tupleExact _) (wpAny_newObj_type (wpAny_pure ⟨_, rfl, wpAny_pure h⟩) ok)
    | exact wpAny_bind (m := Builtin.Tuple.tupleExact _) (wpAny_newObj_type (wpAny_bind (wpAny_pure (wpAny_pure ⟨_, rfl, wpAny_pure h⟩))) ok)
    | exact wpAny_bind (wpAny_bind (m := Builtin.Tuple.tupleExact _) (wpAny_newObj_type (wpAny_pure (wpAny_pure ⟨_, rfl, wpAny_pure h⟩)) ok))
    | exact wpAny_bind (wpAny_bind (m := Builtin.Tuple.tupleExact _) (wpAny_newObj_type (wpAny_pure ⟨_, rfl, wpAny_pure h⟩) ok))
end
def tRevT (K : PySem.W.Frag) (te : TE) : TE := fun σ H Q => te σ H fun x H1 => ∃ a xs, x = .ref a ∧ SqT K H1 a xs ∧ ∀ p, H1 p = none → Q (.ref p) (upd H1 p (.tup xs.reverse))
theorem pe_revTK {X : Cx} {K : PySem.W.Frag} {e : Expr} {te : TE} {k : Nat} {p1 p2 p3 pos : Pos} (hK : X.K = K) (he : PE X e te) : PE X (.Subscript e (.Slice none none (some (.UnaryOp .USub (.Constant (.int 1) k p1) p2)) p3) pos) (tRevT K te) := by
  subst hK
  refine ⟨fun pins s σ H Q I h => ?_⟩
  refine Subscript_ (thn (he.run pins s σ H _ I h) fun v s1 ⟨x, H1, I1, r1, a, xs, ex, hx, q⟩ => ?_)
  subst ex
  cases r1
  have st : PO X (some (.UnaryOp .USub (.Constant (.int 1) k p1) p2)) (tPart (tUn (L2.rU fun i => .int (-i)) (tC (.int 1)))) := po_some (pe_un un_neg pe_int)
  refine wpAny_Slice (thn (po_none.run pins s1 σ H1 (fun o G => o = none ∧ G = H1) I1 ⟨rfl, rfl⟩) fun v1 s2 ⟨o1, G1, J1, pl, eo, eG⟩ => ?_)
  subst eo eG
  refine thn (po_none.run pins s2 σ G1 (fun o G => o = none ∧ G = G1) J1 ⟨rfl, rfl⟩) fun v2 s3 ⟨o2, G2, J2, pu, eo, eG⟩ => ?_
  subst eo eG
  refine thn (st.run pins s3 σ G2 (fun o G => o = some (-1) ∧ G = G2) J2 ⟨1, rfl, -1, rfl, rfl, rfl⟩) fun v3 s4 ⟨o3, G3, J3, ps, eo, eG⟩ => ?_
  subst eo eG
  have J : L2.Inv X pins σ G3 { s4 with heap := s4.heap.push { cls := .type "slice", data := .fields #[v1, v2, v3] } } := J3.kept (t' := s4.toks) fun b ob g => Heap.get?_push_of_some _ g
  obtain ⟨us, r, pt, hz⟩ := J.tuple hx
  have hl := r.length
  show wpAny (model X.prog X.w) X.A (subscriptTail e (.Slice none none (some (.UnaryOp .USub (.Constant (.int 1) k p1) p2)) p3) (.ref a) (.ref s4.heap.objs.size)) (L2.EP X pins σ Q) X.xe { s4 with heap := s4.heap.push { cls := .type "slice", data := .fields #[v1, v2, v3] } }
  refine tail_any (ops := [.ref a, .ref s4.heap.objs.size]) pt.typeIs (PyProof.Rows.slot_tuple_getitem.lookup) ?_ (by with_unfolding_all rfl)
  refine getItem_tuple_rev pt (Heap.IsSliceOf.new _ v1 v2 v3) pl pu ps ?_ (by rw [List.size_toArray]; omega)
  refine ⟨.ref _, _, J.laid (t' := s4.toks) (o := .tup xs.reverse) (fun b ob g => Heap.get?_push_of_some _ g) (Nat.le_refl _) ?_, rfl, q _ (J.hok.fresh (Nat.le_refl _))⟩
  exact ⟨by rw [List.length_reverse]; exact hz, _, r.reverse, ⟨_, Heap.get?_push_size _ rfl, rfl, _, rfl⟩⟩
section
variable {F : Fm} {c : Ctx} {T : List Tm} {σ : Sg} {H : Hp} {A : Nat → List Addr} {B : List Addr} {α : Type} {R : Rp α} {m : Md} {te : TE} {K : PySem.W.Frag}
theorem ep_revT {S : Prop} {xs : List α} (h : EP c te m (rTup K R) S xs) : EP c (tRevT K te) m (rTup K R) S xs.reverse := fun s T σ H hd Q k =>
  h s T σ H hd _ fun v H1 ⟨A, B, h1⟩ => by
    obtain ⟨l, vs, e, q1, q2⟩ := (show (rTup K R).r (view _ A B m H1) v xs from h1.hd)
    exact ⟨l, vs, e, SqT.ext view_full q1, fun p hp => k _ _ (h1.tl.newTup (p := (rTup K R).at xs.reverse) hp fun H3 ex hs => ⟨p, _, rfl, hs, Paired.mono (fun _ _ g => R.mono ex g) (paired_rev q2)⟩)⟩
end
section
variable {F : Fm} {c : Ctx} {T : List Tm} {σ : Sg} {H : Hp} {m : Md} {te : TE} {K : PySem.W.Frag}
theorem paired_fp {H : Hp} : ∀ {vs : List V} {xs : List Rat}, Paired (fun v r => (rFr K).r H v r) vs xs → Paired (fun v p => (rPair K rInt rInt).r H v p) vs (xs.map fpair)
  | _, _, .nil => .nil
  | _, _, .cons h t => .cons h (paired_fp t)
/-- fractions as pairs -/
theorem ep_unFT {S : Prop} {xs : List Rat} (h : EP c te m (rTup K (rFr K)) S xs) : EP c te m (rTup K (rPair K rInt rInt)) S (xs.map fpair) := fun s T σ H hd Q k => h s T σ H hd _ fun v H' ⟨A, B, q⟩ => k v H' ⟨A, B, q.re (p' := (rTup K (rPair K rInt rInt)).at (xs.map fpair)) (by
  obtain ⟨l, vs, e, q1, q2⟩ := (show (rTup K (rFr K)).r (view _ A B m H') v xs from q.hd)
  exact ⟨l, vs, e, q1, paired_fp q2⟩)⟩
end
end TW

set_option maxRecDepth 100000
/-! ## 34. == of two words -/
namespace TW
open PySem PySem.Spec PyProof.Rows L2 HT
section
variable {F : Fm} {c : Ctx} {m m1 m2 : Md} {K : PySem.W.Frag}
theorem shaped_str {a : Str} (h : PyData.strOk a = true) : SeqAt.shaped (.str a) = true := by
  unfold SeqAt.shaped
  simp [PyData.canLay0, PyData.depth, h]
theorem o2_eqS : O2 c (rEqD K) m1 rStr m2 rStr .n rBool (fun a b => PyData.strOk a = true ∧ PyData.strOk b = true) (fun a b => decide (a = b)) := fun a b s T σ H x y ⟨A, B, h⟩ Q k =>
  ⟨.str a, .str b, by rw [show x = _ from h.hd2]; exact .str _, by rw [show y = _ from h.hd]; exact .str _, shaped_str s.1, shaped_str s.2, k _ H (HD.push h.tl.tl (p := rBool.at (decide (a = b))) (by
    show V.bl _ = V.bl _
    congr 1))⟩
theorem o2_neS : O2 c (rNeD K) m1 rStr m2 rStr .n rBool (fun a b => PyData.strOk a = true ∧ PyData.strOk b = true) (fun a b => !decide (a = b)) := fun a b s T σ H x y ⟨A, B, h⟩ Q k =>
  ⟨.str a, .str b, by rw [show x = _ from h.hd2]; exact .str _, by rw [show y = _ from h.hd]; exact .str _, shaped_str s.1, shaped_str s.2, k _ H (HD.push h.tl.tl (p := rBool.at (!decide (a = b))) (by
    show V.bl _ = V.bl _
    congr 2))⟩
end
end TW

set_option maxRecDepth 100000
set_option maxHeartbeats 2000000
/-! ## 35. {k: v for x in xs}, list.count -/
namespace TW
open PySem PySem.Spec PyProof.Rows L2
section
variable {F : Fm} {c : Ctx} {T : List Tm} {σ : Sg} {H : Hp} {A : Nat → List Addr} {B : List Addr} {α β γ ι : Type} {R : Rp α} {Rb : Rp β} {Rc : Rp γ} {m m1 m2 m3 : Md} {te ta tb tc tk tv : TE} {tt tu : TT} {K : PySem.W.Frag}
def accDP (R : Rp α) (ks : List (Key × V)) (d : DK α) : SP := ⟨fun H _ => Paired (pKV R H) ks d, fun e h => Paired.mono (fun _ _ q => ⟨q.1, R.monoT e q.2⟩) h⟩
theorem dPut_len (d : DK α) (k : Int) (v : α) : (dPut d k v).length ≤ d.length + 1 := by
  unfold dPut
  split
  · rw [List.length_map]; omega
  · rw [List.length_append, List.length_singleton]; omega
theorem HdA.moreD {D : Addr} {ws ws' : List (Key × V)} (h : HdA (F.gho D (.dK ws)) c T σ H A B) (hn : ¬ ghst F D) : HdA (F.gho D (.dK ws')) c T σ (upd H D (.dK ws')) A B ∧ ∀ m, Ext (view (F.gho D (.dK ws)) A B m H) (view (F.gho D (.dK ws')) A B m (upd H D (.dK ws'))) := by
  have gD : ∀ o, ghst (F.gho D o) D := fun o => ⟨o, List.mem_cons_self⟩
  have g : ∀ o o' a, ghst (F.gho D o) a → ghst (F.gho D o') a := fun o o' a ⟨w, hw⟩ => by
    rcases List.mem_cons.mp hw with z | z
    · cases z; exact gD o'
    · exact ⟨w, List.mem_cons_of_mem _ z⟩
  have hb : ∀ o o' a, hB (F.gho D o) B a → hB (F.gho D o') B a := fun o o' a z => z.imp id (g o o' a)
  have vp : ∀ o o' m a, vP (F.gho D o) A B m a → vP (F.gho D o') A B m a := fun o o' m a z => by
    cases m
    · exact z.imp (fun z => z.imp (hb o o' a) id) id
    · exact z.imp (hb o o' a) id
    · exact hb o o' a z
  have hv : ∀ m, Ext (view (F.gho D (.dK ws)) A B m H) (view (F.gho D (.dK ws')) A B m (upd H D (.dK ws'))) := fun m a u q => by
    obtain ⟨q1, q2⟩ := view_some.mp q
    have ne : a ≠ D := fun z => q1 (by
      subst z
      cases m
      · exact .inl (.inl (.inr (gD _)))
      · exact .inl (.inr (gD _))
      · exact .inr (gD _))
    exact view_some.mpr ⟨fun z => q1 (vp _ _ m a z), by rw [upd_ne ne]; exact q2⟩
  refine ⟨⟨h.len, fun i => ?_, fun t ht => SP.mono _ (hv _) (h.tm t ht), h.dj, fun i a q z => h.db i a q (hb _ _ a z), h.iq, fun a u q r => ?_, fun a q r => h.ni a (q.imp (hb _ _ a) id) r, ?_, fun a q => h.gb a (g _ _ a q), fun p hp => ?_⟩, hv⟩
  · have q := h.sl i
    unfold slOk at q ⊢
    cases e : c[i]? with
    | none => rw [e] at q; exact q
    | some s =>
      rw [e] at q
      cases s with
      | un => exact q
      | sh m p => obtain ⟨a, v, hv1, hp1⟩ := q; exact ⟨a, v, hv1, SP.mono _ (hv _) hp1⟩
      | ow p => obtain ⟨v, hv1, hp1⟩ := q; exact ⟨v, hv1, OP.frame _ (fun a ha => upd_ne fun z => h.db i a ha (by rw [z]; exact .inr (gD _))) (hv _) hp1⟩
      | io => exact q
  · have ne : a ≠ D := fun z => by
      subst z
      have := h.ni a (.inl (.inr (gD _))) r
      rw [show F.H0 a = _ from q] at this; cases this
    rw [upd_ne ne]; exact h.fr a u q r
  · rcases h.st with q | q
    · exact .inl q
    · exact .inr (q.frame fun a ha => upd_ne fun z => h.gb D (gD _) (by rw [← z]; exact ha))
  · rcases List.mem_cons.mp hp with z | z
    · subst z; exact ⟨upd_same, trivial⟩
    · have e : p.1 ≠ D := fun e => hn ⟨p.2, by rw [← e]; exact z⟩
      rw [upd_ne e]
      exact h.gh p (List.mem_cons_of_mem _ z)
theorem eo_dc {wi : TI} {g : TG} {cg : β → Ctx} {js vs : List Nat} {Si : Prop} {xs : List β} {Sk Sv : β → Prop} {fk : β → Int} {fv : β → α} (hi : IWP c wi m Rb Si xs) (hg : GP (wipeC c vs) g m Rb cg js)
    (hk : ∀ x, EP (cg x) tk .n rInt (Sk x) (fk x)) (hv : ∀ x, EP (cg x) tv m1 R (Sv x) (fv x)) (hus : ∀ i ∈ vs, isUS c i = true) (hj : ∀ j ∈ js, j ∈ vs) (hcg : ∀ x, wipeC (cg x) vs = wipeC c vs) (hcu : ∀ x, ∀ i ∈ vs, isUS (cg x) i = true) :
    EOP c (tDc wi g tYes tk tv vs) (oDI m1 R) (Si ∧ xs.length ≤ sizeLine ∧ ∀ x ∈ xs, Sk x ∧ Sv x) (xs.foldl (fun d x => dPut d (fk x) (fv x)) []) := fun {F} P w T σ H hd Q k => by
  obtain ⟨⟨si, hsz, hS0⟩, hP⟩ := w
  refine hi (fun ys => ys = xs) ⟨si, rfl⟩ T σ H hd _ fun xs2 J T' H1 (px : xs2 = xs) io h1 => fun D hD => ?_
  subst px
  obtain ⟨S, ⟨A, B, hS⟩, back, _⟩ := h1.saveAll hus
  have nG : ¬ ghst F D := fun ⟨o, z⟩ => by
    have := (hS.gh _ z).1
    rw [show H1 D = none from hD] at this; cases this
  have hu := hS.under hD (o := .dK []) trivial
  refine ⟨fun i k H => k = xs2.length - i ∧ i ≤ xs2.length ∧ ∃ acc ws, acc.length ≤ i ∧ acc = (xs2.take i).foldl (fun d x => dPut d (fk x) (fv x)) [] ∧
    HD (F.gho D (.dK ws)) (wipeC c vs) (⟨.non, m1, accDP R ws acc⟩ :: (S ++ T')) (L2.wipe σ vs) H, ⟨xs2.length, by simp, Nat.zero_le _, [], [], Nat.le_refl _, rfl, HD.push (p := accDP R [] []) hu .nil⟩, ?_⟩
  rintro i k2 H2 ⟨rfl, hile, acc, ws, hacc, hm, h2⟩
  have sT : ∀ t ∈ T', t ∈ (⟨.non, m1, accDP R ws acc⟩ :: (S ++ T') : List Tm) := fun t z => List.mem_cons_of_mem _ (List.mem_append_right _ z)
  by_cases hlt : i < xs2.length
  · refine .inr ⟨io.go _ _ _ _ _ sT h2 i hlt, fun H' => ∃ acc ws, acc.length ≤ i + 1 ∧ acc = (xs2.take (i + 1)).foldl (fun d x => dPut d (fk x) (fv x)) [] ∧
      HD (F.gho D (.dK ws)) (wipeC c vs) (⟨.non, m1, accDP R ws acc⟩ :: (S ++ T')) (L2.wipe σ vs) H', fun H' z => ⟨xs2.length - (i + 1), by omega, rfl, hlt, z⟩, fun x H3 y => ?_⟩
    have h3 := io.yld _ _ _ _ _ sT h2 i hlt x H3 y
    obtain ⟨sk, sv⟩ := hS0 _ (List.getElem_mem hlt)
    refine hg _ _ _ _ _ h3 _ fun σ4 H4 h4 off => ⟨wipe_off off hj, ?_⟩
    have hw4 := wipe_off off hj
    have again : ∀ {T2 : List Tm} {H5 : Hp}, HD (F.gho D (.dK ws)) (cg xs2[i]) T2 σ4 H5 → HD (F.gho D (.dK ws)) (wipeC c vs) T2 (L2.wipe σ vs) H5 := fun h5 => by
      have := h5.wipe (vs := vs) fun j hj => isUS_free (hcu _ j hj)
      rw [hcg, hw4] at this
      exact this
    refine tp_yes trivial _ σ4 H4 h4 _ fun H5 h5 => ?_
    rw [if_pos rfl]
    refine hk xs2[i] sk _ σ4 H5 h5 _ fun y H6 h6 => ?_
    refine hv xs2[i] sv _ σ4 H6 h6 _ fun z H7 h7 => ?_
    obtain ⟨A6, B6, h7⟩ := again h7
    have p1 := h7.hd
    have p2 := h7.hd2
    have p3 := h7.tl.tl.hd
    have e1 : H7 D = some (.dK ws) := (h7.gh (D, .dK ws) List.mem_cons_self).1
    have hl : ws.length = acc.length := Paired.length (show Paired (pKV R _) ws acc from p3)
    obtain ⟨h8, hv8⟩ := h7.moreD (ws' := putK ws (.inl (fk xs2[i])) z) nG
    refine ⟨ws, .inl (fk xs2[i]), p2, e1, by omega, dPut acc (fk xs2[i]) (fv xs2[i]), putK ws (.inl (fk xs2[i])) z, by have := dPut_len acc (fk xs2[i]) (fv xs2[i]); omega, ?_, ?_⟩
    · rw [List.take_succ_eq_append_getElem hlt, List.foldl_append, ← hm]; rfl
    · refine HD.push (p := accDP R (putK ws (.inl (fk xs2[i])) z) (dPut acc (fk xs2[i]) (fv xs2[i]))) h8.tl.tl.tl ?_
      exact pKV.put (Paired.mono (fun _ _ q => ⟨q.1, R.mono (hv8 m1) q.2⟩) p3) (R.mono (hv8 m1) p1)
  · have e : i = xs2.length := by omega
    subst e
    refine .inl ⟨io.stop _ _ _ _ _ sT h2, ?_⟩
    rw [List.take_length] at hm
    rw [← hm] at hP
    refine k acc _ _ hP ?_
    obtain ⟨A2, B2, h2⟩ := h2
    have e1 : H2 D = some (.dK ws) := (h2.gh (D, .dK ws) List.mem_cons_self).1
    obtain ⟨h3, hv⟩ := h2.away nG
    have h4 : HD F (wipeC c vs) (⟨.non, m1, accDP R ws acc⟩ :: (S ++ T')) (L2.wipe σ vs) (fun a => if a = D then none else H2 a) := ⟨A2, B2, h3⟩
    have h5 : HD F c (⟨.non, m1, accDP R ws acc⟩ :: T') σ (fun a => if a = D then none else H2 a) := back _ _ _ (h4.sub fun t z => by
      simp only [List.mem_append, List.mem_cons] at z ⊢
      rcases z with z | z | z
      · exact .inr (.inl z)
      · exact .inl z
      · exact .inr (.inr z))
    obtain ⟨A5, B5, h5⟩ := h5
    have q5 := h5.hd
    have h6 := (h5.sub (T' := T) fun t z => List.mem_cons_of_mem _ (io.sub t z)).allocG (p := oDI m1 R acc) (l := D) (o := .dK ws) (if_pos rfl) trivial fun H9 e9 => ⟨D, ws, rfl, rfl, e9, q5⟩
    have e2 : upd (fun a => if a = D then none else H2 a) D (.dK ws) = H2 := by
      funext a
      by_cases ea : a = D
      · subst ea; rw [upd_same, e1]
      · rw [upd_ne ea]; exact if_neg ea
    rw [e2] at h6
    exact h6
theorem mt_lcountK {X : Cx} (hK : X.K = K) : MtR X "list.count" (rCntI K) := by subst hK; exact mt_lcount
theorem ep_countL {S1 S2 : Prop} {to : TE} {xs : List Int} {x : Int} (h1 : EP c to m (rList rInt) S1 xs) (h2 : EP c te m2 rInt S2 x) : EP c (tBM K "list" (rCntI K) to (tCons te tNil)) .n rInt (S1 ∧ S2) (xs.count x : Nat) := fun s T σ H hh Q k =>
  h1 s.1 T σ H hh _ fun v H1 ⟨A, B, q⟩ => by
    obtain ⟨l, us, e, w1, w2⟩ := (show (rList rInt).r (view _ A B m H1) v xs from q.hd)
    refine ⟨by rw [e]; exact .inl ⟨rfl, us, SqL.of (view_full _ _ w1)⟩, h2 s.2 _ σ H1 ⟨A, B, q⟩ _ fun y H2 ⟨A, B, q2⟩ => ?_⟩
    obtain ⟨l2, us2, e2, w3, w4⟩ := (show (rList rInt).r (view _ A B m H2) v xs from q2.hd2)
    have hy : y = V.int x := q2.hd
    exact ⟨l2, xs, x, e2, by rw [hy], by rw [← ints_of w4]; exact SqL.of (view_full _ _ w3), k _ H2 (HD.push q2.tl.tl (p := rInt.at _) rfl)⟩
/-- an item of an owned list -/
theorem ep_owix [Inhabited α] {i : Nat} {xs : List α} {k : Int} {Sk : Prop} (h : c[i]? = some (.ow (oList m R xs))) (hk : EP c tk m2 rInt Sk k) : EP c (tOp (rIxL K) (tVar i) tk) m R (Sk ∧ InB xs.length k) (gI xs k) := fun s T σ H ⟨A, B, hd⟩ Q kk => by
  have q := hd.sl i
  unfold slOk at q
  rw [h] at q
  obtain ⟨v, hv, hp⟩ := q
  refine ⟨v, hv, hk s.1 T σ H ⟨A, B, hd⟩ _ fun y H2 ⟨A2, B2, h2⟩ => ?_⟩
  have q2 := h2.sl i
  unfold slOk at q2
  rw [h] at q2
  obtain ⟨v2, hv2, l, us, e0, e1, e2, e3⟩ := q2
  rw [hv] at hv2
  cases hv2
  obtain ⟨w, w1, r⟩ := at_gI e3 s.2
  exact ⟨l, us, k, w, e1, h2.hd, SqL.of e2, w1, kk _ H2 (HD.push h2.tl (p := R.at _) r)⟩
end
end TW

set_option maxRecDepth 100000
/-! ## 36. i not in range(n) -/
namespace TW
open PySem PySem.Spec PyProof.Rows L2
section
variable {X : Cx}
theorem cr_range1 : CallR X (.type "range") (fun vs H Q => ∃ j, vs = [V.int j] ∧ ∀ p, H p = none → Q (.ref p) (upd H p (.rng 0 j))) := by
  intro pins s σ H vs us Q I r h
  obtain ⟨j, rfl, q⟩ := h
  obtain ⟨u2, rfl, rj⟩ := vals1 r
  obtain ⟨u, rfl⟩ := rj
  refine call_range_1 ⟨.ref s.heap.objs.size, upd H s.heap.objs.size (.rng 0 j), I.laid (t' := s.toks + 1 + 1) (fun b o e => Heap.get?_push_of_some _ e) (Nat.le_refl _) ?_, rfl, q _ (I.hok.fresh (Nat.le_refl _))⟩
  exact ⟨s.toks, u, s.toks + 1, Heap.get?_push_size _ rfl⟩
theorem op_notin_rng : OpR X (compareOp .NotIn) (fun x y H Q => ∃ i a lo hi, x = V.int i ∧ y = V.ref a ∧ H a = some (.rng lo hi) ∧ Q (.bl (!decide (lo ≤ i ∧ i < hi))) H) := by
  intro pins s σ H x y v u Q I rx ry h
  obtain ⟨i, a, lo, hi, rfl, rfl, ha, q⟩ := h
  obtain ⟨k, rfl⟩ := rx
  obtain rfl : u = Value.ref a := ry
  obtain ⟨t1, t2, t3, ho⟩ := I.hok a _ ha
  show wpAny _ _ (do return Value.bool (!(← contains (Value.ref a) (Value.int i k)))) _ _ s
  refine wpAny_bind (wpAny_contains_slot (T := "range") ⟨_, ho, rfl⟩ F.slot_range_contains (call_meets F.slot_range_contains ⟨_, ho, rfl⟩ F.entry_range_contains (F.args_range_contains_2 _ _) (q_contains a lo hi i t1 t2 t3 k)
    ⟨ho, wpAny_truthy_bool (wpAny_pure ⟨.bl _, H, I, rfl, ?_⟩)⟩))
  rw [place1]
  exact q
end
section
variable {F : Fm} {c : Ctx} {T : List Tm} {σ : Sg} {H : Hp} {m m1 m2 : Md} {ta tb : TE}
theorem ep_notinR {Sa Sb : Prop} {a n : Int} (ha : EP c ta m1 rInt Sa a) (hb : EP c tb m2 rInt Sb n) :
    EP c (tOp (fun x y H Q => ∃ i a lo hi, x = V.int i ∧ y = V.ref a ∧ H a = some (.rng lo hi) ∧ Q (.bl (!decide (lo ≤ i ∧ i < hi))) H) ta (tCB (fun vs H Q => ∃ j, vs = [V.int j] ∧ ∀ p, H p = none → Q (.ref p) (upd H p (.rng 0 j))) (tCons tb tNil))) .n rBool (Sa ∧ Sb) (!decide (0 ≤ a ∧ a < n)) := fun s T σ H hd Q k =>
  ha s.1 T σ H hd _ fun x H1 h1 => hb s.2 _ σ H1 h1 _ fun y H2 ⟨A, B, h2⟩ => by
    have ex : x = V.int a := h2.hd2
    have ey : y = V.int n := h2.hd
    refine ⟨n, by rw [ey], fun p hp => ⟨a, p, 0, n, ex, rfl, upd_same, k _ _ (HD.push (h2.tl.tl.alloc hp) (p := rBool.at _) rfl)⟩⟩
/-- list(xs) of an owned list -/
theorem eo_listOwP {K : PySem.W.Frag} {α : Type} {R : Rp α} {i : Nat} {xs : List α} (h : c[i]? = some (.ow (oList m R xs))) : EOP c (tCB (rListOf K) (tCons (tVar i) tNil)) (oList m R) True xs := fun {F} P w T σ H ⟨A, B, hd⟩ Q k => by
  have q := hd.sl i
  unfold slOk at q
  rw [h] at q
  obtain ⟨v, hv, l, us, e0, e1, e2, e3⟩ := q
  exact ⟨v, hv, l, us, by rw [e1], .inl (SqL.of e2), fun l2 hl => k xs _ _ w.2 (hd.allocO hl e3)⟩
end
end TW

set_option maxRecDepth 100000
/-! ## 37. len of a pair -/
namespace TW
open PySem PySem.Spec PyProof.Rows L2
section
variable {c : Ctx} {α β : Type} {R : Rp α} {S : Rp β} {m : Md} {K : PySem.W.Frag}
theorem ob_lenP {p : α × β} : OB c (fun vs H Q => ∃ p ys, vs = [.ref p] ∧ (SqL K H p ys ∨ SqT K H p ys) ∧ Q (.int ys.length) H) [(m, (rPair K R S).at p)] .n rInt True 2 := fun _ T σ H vs e hd Q k => by
  obtain ⟨v, rfl, A, B, h⟩ := zip1 e hd
  obtain ⟨l, x, y, e, h1, h2⟩ := (show (rPair K R S).r (view _ A B m H) v p from h.hd)
  exact ⟨l, [x, y], by rw [e], .inr (SqT.ext view_full h1), k _ H (HD.push h.tl (p := rInt.at _) rfl)⟩
end
end TW

set_option maxRecDepth 100000
set_option maxHeartbeats 2000000
/-! ## 38. dicts with tuple keys: items, a display, a copy, a lock -/
namespace TW
open PySem PySem.Spec PyProof.Rows L2
section
variable {X : Cx} {pins : List (Addr × Obj)} {σ : L2.St} {H : Hp} {s : Shared} {d : Addr} {o : Obj}
theorem frzT2 {kvs : List (List Key × V)} (I : Inv X pins σ H s) (h : H d = some (.frz o (.dT kvs))) :
    (d == sysModules) = false ∧ s.heap.get? d = some o ∧ o.ExactDict ∧ ∃ (es : Array DictEntry) (ep : Nat), o.data = .dict es ep ∧ es.size = kvs.length ∧
      ∀ (i : Nat) (k : List Key) (v : V), kvs[i]? = some (k, v) → ∃ (en : DictEntry) (q : Addr), es[i]? = some en ∧ en.key = .ref q ∧ H q = some (.tup (k.map kV)) ∧ RelV v en.val := by
  obtain ⟨hd, z, hs, xs, pr, o', es, ep, ho, hx, hdt, he, _⟩ := I.hok d _ h
  rw [hd] at ho
  cases ho
  refine ⟨hs, hd, hx, es, ep, hdt, ?_, fun i k v e => ?_⟩
  · have l1 : es.size = xs.length := size_of_entries he
    have l2 : kvs.length = xs.length := Paired.length pr
    omega
  · obtain ⟨b, hb, e1, e2, e3⟩ := paired_get pr e
    have q := entry_at he i
    rw [hb] at q
    exact ⟨_, b.2.1, q, rfl, e2, e3⟩
end
/-- the pairs of a locked dict with tuple keys, each a new tuple -/
def Itit (d : Addr) (o : Obj) (kvs : List (List Key × V)) : It :=
  ⟨fun i H => H d = some (.frz o (.dT kvs)) ∧ i < kvs.length, fun i H x H' => ∃ (T : Addr) (k : List Key) (v : V) (q : Addr), kvs[i]? = some (k, v) ∧ x = .ref T ∧ H T = none ∧ H q = some (.tup (k.map kV)) ∧ H' = upd H T (.tup [.ref q, v]), fun i H => H d = some (.frz o (.dT kvs)) ∧ kvs.length ≤ i⟩
theorem turn_itemsT {P : Program} {w : World} {K : PySem.W.Frag} {d : Addr} {o : Obj} {es : Array DictEntry} {ep : Nat} {kvs : List (List Key × V)} {elts : List Expr} {kk : Nat} {tpos : Pos} (it : Addr) (hod : o.data = .dict es ep) :
    Turn P w K (.Tuple elts kk tpos) (Itit d o kvs) [it] it (fun i h => ∃ ok ov, IsItemIter h it d i kvs.length ep ok ov) where
  mem := by simp
  obj := fun i h st b hb => by
    have e : b = it := by simpa using hb
    subst e
    obtain ⟨ok, ov, e⟩ := st
    exact ⟨_, e, fun v z => nomatch z⟩
  keep := fun i h h' st k => let ⟨ok, ov, e⟩ := st; ⟨ok, ov, k it (by simp) _ e⟩
  item := by
    intro X hP hw hK hc i pins s σ H E I hf st hg
    subst hP hw hK
    obtain ⟨hd, hi⟩ := hg
    obtain ⟨hs, hgd, hx, es', ep', hdt, hsz, ent⟩ := frzT2 I hd
    obtain ⟨rfl, rfl⟩ := dict_ep hod hdt
    obtain ⟨⟨k, v⟩, hkv⟩ : ∃ p, kvs[i]? = some p := ⟨kvs[i], List.getElem?_eq_getElem hi⟩
    obtain ⟨en, q, hen, hkey, hq, ru⟩ := ent i k v hkv
    obtain ⟨ok, ov, he⟩ := st
    rw [← hsz] at he
    have hlt : it < s.heap.objs.size := Heap.lt_size he
    obtain ⟨hi', hen'⟩ := Array.getElem?_eq_some_iff.mp hen
    refine DT.nextI he ⟨o, hgd, hx, hod⟩ hi' fun h' ho hT hz hk => ?_
    rw [hen'] at ho hT
    refine ⟨_, rfl, wpAny_letOwnedTupleGo_items (s := { s with heap := h' }) ho fun h'' he' sb => ?_⟩
    have hT2 : h''.get? s.heap.objs.size = some { cls := .type "tuple", data := .seq #[en.key, en.val] } := (sb.2 _ (Nat.ne_of_gt hlt)).trans hT
    have new : ObjOk X.prog X.w (upd H s.heap.objs.size (.tup [.ref q, v])) h'' s.heap.objs.size (.tup [.ref q, v]) :=
      ⟨by show 2 ≤ sizeLine; decide, [en.key, en.val], .cons hkey (.cons ru .nil), ⟨_, hT2, rfl, _, rfl⟩⟩
    have I1 : Inv X pins σ (upd H s.heap.objs.size (.tup [.ref q, v])) { s with heap := h'' } :=
      I.turnedNew (t' := s.toks) (ch := [it]) (fun b ob hb e => (sb.2 b (by simpa using hb)).trans (hk b ob (by simpa using hb) e)) hf (Nat.le_refl _) new
    refine ⟨.ref s.heap.objs.size, _, I1, rfl, ⟨_, k, v, q, hkv, rfl, I.hok.fresh (Nat.le_refl _), hq, rfl⟩, ⟨en.key, en.val, ?_⟩, fun b hb => ?_⟩
    · rw [← hsz]; exact he'
    · have e : b = it := by simpa using hb
      rw [e, upd_ne (Nat.ne_of_lt hlt)]
      exact (hf it (by simp)).1
  done := by
    intro X hP hw hK hc i pins s σ H E I hf st hg
    subst hP hw hK
    obtain ⟨hd, hi⟩ := hg
    obtain ⟨f0, f1, f2, f3, f4, f5⟩ := hf it (by simp)
    obtain ⟨hs, hgd, hx, es', ep', hdt, hsz, ent⟩ := frzT2 I hd
    obtain ⟨rfl, rfl⟩ := dict_ep hod hdt
    obtain ⟨ok, ov, he⟩ := st
    rw [← hsz] at he
    exact DT.endI (I.ok.hd hc) he ⟨o, hgd, hx, hod⟩ (by omega) fun h' eb => ⟨rfl, I.turned (t' := s.toks) (fun b ob hb e => eb b ob hb e) f0 f1 f3 f4 f5⟩
  self := fun A i s Q E st h => let ⟨_, _, e⟩ := st; PySem.W.kcp_self e h
def iItemsT (td : TE) : TI := fun σ H R => td σ H fun x H1 => ∃ d o kvs, x = .ref d ∧ H1 d = some (.frz o (.dT kvs)) ∧ R (Itit d o kvs) H1
theorem pi_itemsT {X : Cx} {e : Expr} {td : TE} {apos cpos : Pos} {elts : List Expr} {kk : Nat} {tpos : Pos} (he : PE X e td) (hbase : attributeBase e "items" X.env (eval e X.env) = eval e X.env := by rfl) (hline : (apos.endLine == cpos.line) = true := by rfl) :
    PI X (.Tuple elts kk tpos) (.Call (.Attribute e "items" apos) [] [] cpos) (iItemsT td) := by
  refine ⟨fun pins s σ H R I h => ?_⟩
  refine wpAny_Call_method (T := "dict") (id := "dict.items") hbase rfl hline F.plainAttrs_dict F.slot_dict_items F.type_dict_items (thn (he.run pins s σ H _ I h) fun u s1 ⟨x, H1, I1, rx, d, o, kvs, ex, hd, q⟩ => ?_)
  subst ex
  obtain rfl : u = Value.ref d := rx
  obtain ⟨hs, hgd, hx, es, ep, hdt, hsz, ent⟩ := frzT2 I1 hd
  have raw : DT.Raw s1.heap d es ep := ⟨o, hgd, hx, hdt⟩
  refine ⟨raw.typeIs, fun b q => by cases q; exact ⟨o, hgd, hx.2.1⟩, ?_⟩
  have I2 : Inv X pins σ H1 { s1 with heap := s1.heap.push { cls := .type "dict_items", data := .fields #[.ref d] } } := I1.kept (t' := s1.toks) fun b ob q => Heap.get?_push_of_some _ q
  have fin : wpAny (model X.prog X.w) X.A (pyIter (.ref s1.heap.objs.size)) (PIE X pins σ (.Tuple elts kk tpos) R) X.xe { s1 with heap := s1.heap.push { cls := .type "dict_items", data := .fields #[.ref d] } } := by
    refine DT.iterI (d := d) (es := es) (ep := ep) ⟨_, Heap.get?_push_size _ rfl, rfl, rfl⟩ (raw.push _) (pi_one (tk := s1.toks) I2 _ (turn_itemsT _ hdt) ⟨.none, .none, ?_⟩ q)
    rw [← hsz]
    exact Heap.get?_push_size _ rfl
  show wpAny _ _ (callWith cpos (.builtin "dict.items") [.ref d] [] []) _ X.xe s1
  exact method_meetsIn F.slot_dict_items F.entry_dict_items rfl (PySem.evalArgs_none ⟨rfl, raw.typeIs, F.args_dict_items_1 _, _, DT.meetsItems (es := es) (ep := ep) hs, ⟨raw, fin⟩⟩)
/-- a thing is locked for good ahead of a statement -/
def tLk (t : TS) : TS := fun D σ H => ∃ d u, H d = some u ∧ Mut (some u) ∧ ∀ od, t D σ (upd H d (.frz od u))
theorem ps_lk {X : Cx} {st : Stmt} {t : TS} (h : PS X st t) : PS X st (tLk t) := by
  refine ⟨fun pins s σ H D I hw => ?_⟩
  obtain ⟨d, u, hd, mu, hw⟩ := hw
  obtain ⟨od, I1⟩ := I.lock hd mu
  exact h.run pins s σ _ _ I1 (hw od)
/-- .. behind what makes it -/
def tLkE (td : TE) : TE := fun σ H Q => td σ H fun x H1 => ∃ d u, x = .ref d ∧ H1 d = some u ∧ Mut (some u) ∧ ∀ od, Q x (upd H1 d (.frz od u))
theorem pe_lk {X : Cx} {e : Expr} {t : TE} (h : PE X e t) : PE X e (tLkE t) := by
  refine ⟨fun pins s σ H Q I hw => ?_⟩
  refine thn (h.run pins s σ H _ I hw) fun v s1 ⟨x, H1, I1, r, d, u, ex, hd, mu, q⟩ => ?_
  obtain ⟨od, I2⟩ := I1.lock hd mu
  exact ⟨x, _, I2, r, q od⟩
/-- {k: v} with a tuple key -/
def tDispT (tk tv : TE) : TE := fun σ H Q => ∀ p, H p = none → tPairs [(tk, tv)] σ (upd H p (.dT [])) fun ps H2 => ∃ x y, ps = [(x, y)] ∧ H2 p = some (.dT []) ∧ ∃ (b : Addr) (k : List Key), x = .ref b ∧ H2 b = some (.tup (k.map kV)) ∧ Q (.ref p) (upd H2 p (.dT [(k, y)]))
theorem pe_dispT {X : Cx} {pos : Pos} {k v : Expr} {tk tv : TE} (hu : X.A.units + 1 < cLine) (hk : PE X k tk) (hv : PE X v tv) : PE X (.Dict [some k] [v] pos) (tDispT tk tv) := by
  refine ⟨fun pins s σ H Q I q => ?_⟩
  have hn := I.hok.fresh (Nat.le_refl s.heap.objs.size)
  have I1 := I.laid (a := s.heap.objs.size) (o := .dT []) (h' := s.heap.push { cls := .type "dict", data := .dict #[] }) (t' := s.toks) (fun _ _ q => Heap.get?_push_of_some _ q) (Nat.le_refl _) (dt_empty s.heap I.big)
  have hn2 := pairTrees_length [some k] [v] X.env pos rfl rfl
  have h0 : pairTrees [some k] [v] X.env pos ≠ [] := fun e => by rw [e] at hn2; simp at hn2
  have run := (pps_cons (pos := pos) hk hv pps_nil).run pins _ σ _ _ I1 (q _ hn)
  rw [arm_eval_Dict, zip_pairTrees [some k] [v] X.env pos rfl rfl, dictDisplay_pairs (pairTrees [some k] [v] X.env pos) h0 (by rw [hn2]; show (1 : Nat) < _; omega)]
  refine wpAny_bind (wpAny_standAt (wpAny_bind (wpAny_subDictH (knd := tupleKind (mixKind X.prog X.w)) (Q := fun d s' => wpAny (model X.prog X.w) X.A (pure (Value.ref d)) _ X.xe s') (show X.A.units < cLine by omega) (by rw [hn2]; show (1 : Nat) ≤ _; omega) (thn run fun ws s2 ⟨ps, H2, I2, rel, x, y, ep, e, b, kk, ex, eb, q2⟩ => ?_))))
  subst ep ex
  obtain ⟨u, r, ew, h1, h2⟩ : ∃ u r, ws = [(u, r)] ∧ RelV (.ref b) u ∧ RelV y r := by
    cases rel with
    | @cons a p l1 l2 h t => cases t; exact ⟨p.1, p.2, rfl, h.1, h.2⟩
  subst ew
  cases (show u = Value.ref b from h1)
  obtain ⟨z, hd, xs0, r0, dd⟩ := dt_of I2.hok e
  cases r0
  refine ⟨[(kk, b, r)], ⟨rfl, rfl, key_of I2.hok eb, trivial⟩, dd, fun h' tk' dd' hs => wpAny_pure ⟨.ref s.heap.objs.size, _, ?_, rfl, q2⟩⟩
  obtain ⟨q, es, ep, hq, h2', h3, h4, _, h5⟩ := dd'
  refine d_write I2 (by rw [e]; exact True.intro) hs ⟨q, hq⟩ ⟨by show 1 ≤ sizeLine; decide, hd, _, .cons ⟨rfl, ?_, h2⟩ .nil, q, es, ep, hq, h2', h3, h4, h5⟩
  rw [upd_ne (ne_of eb e (fun z => nomatch z))]
  exact eb
end TW

set_option maxRecDepth 100000
set_option maxHeartbeats 2000000
/-! ## 39. dict(d) with tuple keys -/
namespace TW
open PySem PySem.Spec PyProof.Rows L2
section
variable {prog : Program} {w : World} {K : Type} [DecidableEq K] {knd : HeapKind prog w K} {A : Around} {E : Value → Shared → Prop} {s : Shared}
theorem call_dictH {o : Addr} {more : List (K × Addr × Value)} {Q : Value → Shared → Prop} (hu : ∀ A : Around, A.units < cLine → knd.room A) (hA : A.units + 3 < cLine) (hoS : (o == sysModules) = false) (ho : s.heap.DictOfH knd o more) (hsz : more.length ≤ sizeLine)
    (hap : (∀ x ∈ more, s.TypeIs (.ref x.2.1) "tuple") ∧ (more.map fun x => knd.hash x.1).Nodup)
    (hpush : (s.heap.push { cls := .type "dict", data := .dict #[] }).DictOfH knd o more)
    (h : ∀ h', h'.DictOfH knd s.heap.objs.size more → Heap.SameBut s.heap.objs.size (s.heap.push { cls := .type "dict", data := .dict #[] }) h' → Q (.ref s.heap.objs.size) { s with heap := h' }) :
    wpAny (model prog w) A (call (.type "dict") [.ref o]) Q E s := by
  refine callType_codes (Q₁ := fun obj s₁ => obj = .ref s.heap.objs.size ∧ s₁ = { s with heap := s.heap.push { cls := .type "dict", data := .dict #[] } }) F.kt_called_dict (F.kt_typeCall_dict_1 _) F.entry_dict_init (kt_code_dict_new _ ⟨rfl, rfl⟩) ?_
  rintro obj s₁ ⟨rfl, rfl⟩
  have hnew : (s.heap.push { cls := .type "dict", data := .dict #[] }).DictOfH knd s.heap.objs.size [] := ⟨_, #[], 0, Heap.get?_push_size _ rfl, ⟨rfl, rfl, rfl⟩, rfl, rfl, (by simp), List.nodup_nil⟩
  have hdo : s.heap.objs.size ≠ o := by
    obtain ⟨_, _, _, hg, _⟩ := ho
    exact fun e => absurd (Heap.lt_size hg) (by rw [e]; exact Nat.lt_irrefl _)
  refine ⟨hnew.typeIs, F.args_dict_init_2 _ _, ?_⟩
  unfold Builtin.«dict.__init__»
  refine wpAny_bind ?_
  unfold Builtin.Dict.selfAndRest
  refine wpAny_bind (wpAny_notOrdered_dict hnew.typeIs ?_)
  show wpAny _ _ (pure (s.heap.objs.size, [Value.ref o])) _ _ _
  refine wpAny_pure ?_
  show wpAny _ _ (Builtin.Dict.updateFrom "dict.__init__" s.heap.objs.size (.ref o) [] .none) _ _ _
  refine updateFrom_dictH (A := A.in1) (R := wants (fun r s₂ => r = .none ∧ Q (.ref s.heap.objs.size) s₂) E) .none (hu _ (by show A.units + 1 + 1 < cLine; omega)) hdo hoS hnew hpush (.inr ⟨fun x hx => ?_, hap.2⟩) (by simpa using hsz) fun h' hd' ho' hs' => ?_
  · obtain ⟨ob, hob, hc⟩ := hap.1 x hx
    exact ⟨ob, Heap.get?_push_of_some _ hob, hc⟩
  · rw [storedAllH_nil_of_nodup more ho.nodup] at hd'
    exact ⟨rfl, h h' hd' hs'⟩
end
/-- the hash of a tuple of ints -/
def hI (ks : List Int) : Int := reduceHash (Builtin.Tuple.tupleHashOf (ks.map hashInt))
section
variable {X : Cx}
theorem cr_dictT (hu : X.A.units + 3 < cLine) : CallR X (.type "dict") (fun vs H Q => ∃ (a : Addr) (kvs : List (List Key × V)) (ks : List (List Int)), vs = [.ref a] ∧ H a = some (.dT kvs) ∧ kvs.map (·.1) = ks.map (·.map .inl) ∧ (ks.map hI).Nodup ∧ ∀ p, H p = none → Q (.ref p) (upd H p (.dT kvs))) := by
  intro pins s σ H vs us Q I r h
  obtain ⟨a, kvs, ks, rfl, ha, hk, hnd, q⟩ := h
  obtain ⟨u2, rfl, rj⟩ := vals1 r
  obtain rfl : u2 = Value.ref a := rj
  obtain ⟨z, hs, xs, pr, dd⟩ := dt_of I.hok ha
  have hkey : ∀ x ∈ xs, (tupleKind (mixKind X.prog X.w)).is s.heap x.1 x.2.1 := by
    obtain ⟨_, _, _, _, _, _, _, h4, _⟩ := dd
    exact h4
  have ea : xs.map (·.1) = ks.map (·.map .inl) := by
    rw [← hk]
    clear hkey dd hk hnd q z ha hs
    induction pr with
    | nil => rfl
    | cons h t ih => rw [List.map_cons, List.map_cons, ih, h.1]
  have hxs : xs.length ≤ sizeLine := by rw [← Paired.length pr]; exact z
  have hp2 : (s.heap.push { cls := .type "dict", data := .dict #[] }).DictOfH (tupleKind (mixKind X.prog X.w)) a xs := by
    obtain ⟨ob, es, ep, h1, h2, h3, h4, h5, h6⟩ := dd
    exact ⟨ob, es, ep, Heap.get?_push_of_some _ h1, h2, h3, h4, fun x hx => by
      obtain ⟨o, its, n, g1, g2, g3, g4⟩ := h5 x hx
      exact ⟨o, its, n, Heap.get?_push_of_some _ g1, g2, g3, g4⟩, h6⟩
  refine call_dictH (knd := tupleKind (mixKind X.prog X.w)) (fun A hA => hA) hu hs dd hxs ⟨fun x hx => ?_, ?_⟩ hp2 fun h' dd' hs' => ?_
  · obtain ⟨o, its, n, g1, g2, g3, g4⟩ := hkey x hx
    exact ⟨o, g1, g2⟩
  · have e2 : xs.map (fun x => (tupleKind (mixKind X.prog X.w)).hash x.1) = ks.map hI := by
      have : xs.map (fun x => (tupleKind (mixKind X.prog X.w)).hash x.1) = (xs.map (·.1)).map (tupleKind (mixKind X.prog X.w)).hash := by rw [List.map_map]; rfl
      rw [this, ea, List.map_map]
      refine List.map_congr_left fun k _ => ?_
      show reduceHash (Builtin.Tuple.tupleHashOf ((k.map Sum.inl).map (keyH X.w))) = _
      rw [List.map_map]
      rfl
    rw [e2]; exact hnd
  · refine ⟨.ref s.heap.objs.size, upd H s.heap.objs.size (.dT kvs), I.laid (t' := s.toks) (fun b q hq => ?_) (Nat.le_refl _) ?_, rfl, q _ (I.hok.fresh (Nat.le_refl _))⟩
    · exact (hs'.2 b (Nat.ne_of_lt (Heap.lt_size hq))).trans (Heap.get?_push_of_some _ hq)
    · obtain ⟨ob, es, ep, h1, h2, h3, h4, h5, h6⟩ := dd'
      exact ⟨z, beq_eq_false_iff_ne.mpr (Ne.symm (Nat.ne_of_lt I.big)), xs, pr.keeps fun c ys ec => by rw [upd_ne (ne_of_none ec (I.hok.fresh (Nat.le_refl _)))]; exact ec, ob, es, ep, h1, h2, h3, h4, h6⟩
end
end TW

set_option maxRecDepth 100000
set_option maxHeartbeats 2000000
/-! ## 40. dicts with tuple keys, typed -/
namespace TW
open PySem PySem.Spec PyProof.Rows L2
/-- keys: tuples of ints, pairs of ints -/
class Ky (κ : Type) where
  enc : κ → List Int
  inj : ∀ a b, enc a = enc b → a = b
instance : Ky (List Int) := ⟨fun a => a, fun _ _ h => h⟩
instance : Ky (Int × Int) := ⟨fun a => [a.1, a.2], fun a b h => by
  obtain ⟨a1, a2⟩ := a
  obtain ⟨b1, b2⟩ := b
  simpa using h⟩
def Ky.k {κ : Type} [Ky κ] (a : κ) : List Key := (Ky.enc a).map .inl
theorem Ky.kinj {κ : Type} [Ky κ] {a b : κ} (h : Ky.k a = Ky.k b) : a = b := Ky.inj _ _ (List.map_inj_right (fun _ _ e => by cases e; rfl) |>.mp h)
theorem Ky.kv {κ : Type} [Ky κ] (a : κ) : (Ky.k a).map kV = (Ky.enc a).map V.int := by unfold Ky.k; rw [List.map_map]; rfl
/-- the key's own tuple -/
def rKy {κ : Type} [Ky κ] : Rp κ := ⟨fun H v a => ∃ b, v = .ref b ∧ H b = some (.tup ((Ky.k a).map kV)), fun e ⟨b, h1, h2⟩ => ⟨b, h1, e.ap _ _ h2⟩⟩
instance {κ : Type} [Ky κ] : Im (rKy (κ := κ)) := ⟨fun ⟨b, h1, h2⟩ => ⟨b, h1, hid_some.mpr ⟨fun ⟨u, e, n⟩ => by rw [h2] at e; cases e; exact n, h2⟩⟩⟩
class KyR (K : PySem.W.Frag) (κ : Type) [Ky κ] (R : outParam (Rp κ)) : Prop where
  of : ∀ {H v a}, (rKy (κ := κ)).r H v a → R.r H v a
theorem ints_paired : ∀ xs : List Int, Paired (fun v i => v = V.int i) (xs.map V.int) xs
  | [] => .nil
  | x :: xs => .cons rfl (ints_paired xs)
instance {K : PySem.W.Frag} : KyR K (List Int) (rTup K rInt) := ⟨fun {H v a} ⟨b, h1, h2⟩ => ⟨b, a.map V.int, h1, SqT.of (by rw [Ky.kv] at h2; exact h2), ints_paired a⟩⟩
instance {K : PySem.W.Frag} : KyR K (Int × Int) (rPair K rInt rInt) := ⟨fun {H v a} ⟨b, h1, h2⟩ => ⟨b, .int a.1, .int a.2, h1, SqT.of (by rw [Ky.kv] at h2; exact h2), rfl, rfl⟩⟩
abbrev DTp (κ α : Type) := List (κ × α)
section
variable {κ α : Type} [DecidableEq κ]
def tV (d : DTp κ α) (k : κ) : Option α := (d.find? fun p => decide (p.1 = k)).map (·.2)
def tPut (d : DTp κ α) (k : κ) (v : α) : DTp κ α := if (d.any fun p => decide (p.1 = k)) = true then d.map (fun p => if p.1 = k then (p.1, v) else p) else d ++ [(k, v)]
def tG [Inhabited α] (d : DTp κ α) (k : κ) : α := (tV d k).getD default
end
section
variable {κ α β : Type} [DecidableEq κ] [Ky κ] {R : Rp α}
def pKT (R : Rp α) (H : Hp) : List Key × V → κ × α → Prop := fun p q => p.1 = Ky.k q.1 ∧ R.r H p.2 q.2
theorem pKT.monoT {H H' : Hp} (e : ExtT H H') {ks : List (List Key × V)} {d : DTp κ α} (h : Paired (pKT R H) ks d) : Paired (pKT R H') ks d := Paired.mono (fun _ _ q => ⟨q.1, R.monoT e q.2⟩) h
theorem pKT.mono {H H' : Hp} (e : Ext H H') {ks : List (List Key × V)} {d : DTp κ α} (h : Paired (pKT R H) ks d) : Paired (pKT R H') ks d := Paired.mono (fun _ _ q => ⟨q.1, R.mono e q.2⟩) h
theorem pKT.keys {H : Hp} {ks : List (List Key × V)} {d : DTp κ α} (h : Paired (pKT R H) ks d) : ks.map (·.1) = (d.map fun p => Ky.enc p.1).map (·.map .inl) := by
  induction h with
  | nil => rfl
  | cons h t ih => rw [List.map_cons, List.map_cons, List.map_cons, ih, h.1]; rfl
theorem pKT.find {V0 : Hp} {k : κ} {ks : List (List Key × V)} {d : DTp κ α} (h : Paired (pKT R V0) ks d) : (tV d k = none ∧ valV ks (Ky.k k) = none) ∨ ∃ v x, tV d k = some x ∧ valV ks (Ky.k k) = some v ∧ R.r V0 v x := by
  induction h with
  | nil => exact .inl ⟨rfl, rfl⟩
  | @cons p q ps qs h t ih =>
    obtain ⟨h1, h2⟩ := h
    by_cases e : q.1 = k
    · refine .inr ⟨p.2, q.2, ?_, ?_, h2⟩
      · unfold tV; simp [List.find?_cons, e]
      · rw [valV_pos (by rw [h1, e])]
    · have e2 : ¬ p.1 = Ky.k k := fun z => e (Ky.kinj (h1.symm.trans z))
      have e3 : tV (q :: qs) k = tV qs k := by unfold tV; simp [List.find?_cons, e]
      rw [valV_neg e2, e3]
      exact ih
theorem pKT.any {V0 : Hp} {k : κ} {ks : List (List Key × V)} {d : DTp κ α} (h : Paired (pKT R V0) ks d) : (ks.any fun p => decide (p.1 = Ky.k k)) = d.any fun p => decide (p.1 = k) := by
  induction h with
  | nil => rfl
  | @cons p q ps qs h t ih =>
    rw [List.any_cons, List.any_cons, ih]
    congr 1
    rw [Bool.eq_iff_iff, decide_eq_true_eq, decide_eq_true_eq, h.1]
    exact ⟨Ky.kinj, fun e => by rw [e]⟩
theorem pKT.put {V0 : Hp} {k : κ} {v : V} {x : α} {ks : List (List Key × V)} {d : DTp κ α} (h : Paired (pKT R V0) ks d) (hv : R.r V0 v x) : Paired (pKT R V0) (putK ks (Ky.k k) v) (tPut d k x) := by
  unfold putK tPut
  rw [pKT.any h]
  split
  · rename_i hc; clear hc
    induction h with
    | nil => exact .nil
    | @cons p q ps qs h t ih =>
      rw [List.map_cons, List.map_cons]
      refine .cons ?_ ih
      by_cases e : q.1 = k
      · rw [if_pos e, if_pos (by rw [h.1, e])]; exact ⟨h.1, hv⟩
      · rw [if_neg e, if_neg (fun z => e (Ky.kinj (h.1.symm.trans z)))]; exact h
  · exact Paired.snoc h ⟨rfl, hv⟩
/-- not locked; locked -/
def rDT (R : Rp α) : Rp (DTp κ α) := ⟨fun H v d => ∃ l ks, v = .ref l ∧ H l = some (.dT ks) ∧ Paired (pKT R H) ks d, fun e ⟨l, ks, h1, h2, h3⟩ => ⟨l, ks, h1, e.ap _ _ h2, pKT.monoT e h3⟩⟩
def rDF (R : Rp α) : Rp (DTp κ α) := ⟨fun H v d => ∃ l o ks, v = .ref l ∧ H l = some (.frz o (.dT ks)) ∧ Paired (pKT R H) ks d, fun e ⟨l, o, ks, h1, h2, h3⟩ => ⟨l, o, ks, h1, e.ap _ _ h2, pKT.monoT e h3⟩⟩
def oDT (m : Md) (R : Rp α) (d : DTp κ α) : OP where
  md := m
  P := fun A H V0 v => ∃ l ks, A = [l] ∧ v = .ref l ∧ H l = some (.dT ks) ∧ Paired (pKT R V0) ks d
  frameT := fun e1 e2 ⟨l, ks, h1, h2, h3, h4⟩ => ⟨l, ks, h1, h2, by rw [e1 l (by rw [h1]; simp)]; exact h3, pKT.monoT e2 h4⟩
  obj := fun ⟨l, ks, h1, h2, h3, h4⟩ a ha => by
    rw [h1] at ha; simp at ha; subst ha
    exact ⟨_, h3, trivial⟩
instance {m : Md} : OwR (oDT (κ := κ) m R) m (rDT R) := ⟨fun _ => rfl, fun {A H V0 v x V} ⟨l, ks, h1, h2, h3, h4⟩ e1 e2 => ⟨l, ks, h2, e1 l (by rw [h1]; simp) _ h3, pKT.mono e2 h4⟩⟩
/-- locked or not -/
class Rdd (p : Rp (DTp κ α)) (R : outParam (Rp α)) : Prop where
  rd : ∀ {H v d}, p.r H v d → ∃ l ks, v = .ref l ∧ Rd H l (.dT ks) ∧ Paired (pKT R H) ks d
instance : Rdd (κ := κ) (rDT R) R := ⟨fun ⟨l, ks, h1, h2, h3⟩ => ⟨l, ks, h1, .inl h2, h3⟩⟩
instance : Rdd (κ := κ) (rDF R) R := ⟨fun ⟨l, o, ks, h1, h2, h3⟩ => ⟨l, ks, h1, .inr ⟨o, h2⟩, h3⟩⟩
end
theorem rd_ext {H H' : Hp} {a : Addr} {u : HO} (e : Ext H H') (h : Rd H a u) : Rd H' a u := h.elim (fun h => .inl (e _ _ h)) fun ⟨o, h⟩ => .inr ⟨o, e _ _ h⟩
section
variable {F : Fm} {c : Ctx} {T : List Tm} {σ : Sg} {H : Hp} {A : Nat → List Addr} {B : List Addr} {D : Ends} {α β γ ι : Type} {R : Rp α} {Rb : Rp β} {m m1 m2 m3 : Md} {te ta tb tc td tk tv ty to ti : TE} {tr : TS} {K : PySem.W.Frag}
variable {κ : Type} [DecidableEq κ] [Ky κ] {Rk : Rp κ}
theorem ep_ky [KyR K κ Rk] {S : Prop} {a : κ} (h : EP c te m rKy S a) : EP c te m Rk S a := fun s T σ H hd Q k => h s T σ H hd Q fun v H' ⟨A, B, q⟩ => k v H' ⟨A, B, q.re (p' := Rk.at a) (KyR.of K (show rKy.r _ v a from q.hd))⟩
theorem dget_of {H H' : Hp} {p : Rp (DTp κ α)} [Rdd p R] {x y : V} {d : DTp κ α} {k : κ} (hx : p.r H' x d) (hy : rKy.r H' y k) (e : Ext H' H) : (∃ a, x = .ref a ∧ IsD H a ∧ ∃ o, DGet H a y o ∧ ((tV d k = none ∧ o = none) ∨ ∃ v z, tV d k = some z ∧ o = some v ∧ R.r H' v z)) := by
  obtain ⟨l, ks, e1, h2, h3⟩ := Rdd.rd hx
  obtain ⟨b, e2, h4⟩ := hy
  have h5 := rd_ext e h2
  refine ⟨l, e1, .inr ⟨_, h5⟩, valV ks (Ky.k k), .inr ⟨ks, Ky.k k, b, h5, e2, e _ _ h4, rfl⟩, ?_⟩
  exact pKT.find h3
theorem ep_tin {p : Rp (DTp κ α)} [Rdd p R] {Sk Sd : Prop} {d : DTp κ α} {k : κ} (hk : EP c te m1 rKy Sk k) (hd : EP c td m p Sd d) : EP c (tDIn te td) .n rBool (Sk ∧ Sd) (tV d k).isSome := fun s T σ H h Q kk => hk s.1 T σ H h _ fun y H1 h1 => hd s.2 _ σ H1 h1 _ fun x H2 ⟨A, B, h2⟩ => by
  obtain ⟨a, e, _, o, g, z⟩ := dget_of (R := R) (show p.r (view _ A B m H2) x d from h2.hd) (show rKy.r (view _ A B m H2) y k from rKy.mono h2.im (Im.im (show rKy.r (view _ A B m1 H2) y k from h2.hd2))) view_full
  refine ⟨a, o, e, g, kk _ _ (HD.push h2.tl.tl (p := rBool.at _) ?_)⟩
  show V.bl _ = V.bl _
  rcases z with ⟨z1, z2⟩ | ⟨v, w, z1, z2, _⟩ <;> rw [z1, z2] <;> rfl
theorem ep_tnotin {p : Rp (DTp κ α)} [Rdd p R] {Sk Sd : Prop} {d : DTp κ α} {k : κ} (hk : EP c te m1 rKy Sk k) (hd : EP c td m p Sd d) : EP c (tDNotIn te td) .n rBool (Sk ∧ Sd) (!(tV d k).isSome) := fun s T σ H h Q kk => hk s.1 T σ H h _ fun y H1 h1 => hd s.2 _ σ H1 h1 _ fun x H2 ⟨A, B, h2⟩ => by
  obtain ⟨a, e, _, o, g, z⟩ := dget_of (R := R) (show p.r (view _ A B m H2) x d from h2.hd) (show rKy.r (view _ A B m H2) y k from rKy.mono h2.im (Im.im (show rKy.r (view _ A B m1 H2) y k from h2.hd2))) view_full
  refine ⟨a, o, e, g, kk _ _ (HD.push h2.tl.tl (p := rBool.at _) ?_)⟩
  show V.bl _ = V.bl _
  rcases z with ⟨z1, z2⟩ | ⟨v, w, z1, z2, _⟩ <;> rw [z1, z2] <;> rfl
theorem ep_tget [Inhabited α] {p : Rp (DTp κ α)} [Rdd p R] {Sk Sd : Prop} {d : DTp κ α} {k : κ} (hd : EP c td m p Sd d) (hk : EP c te m1 rKy Sk k) : EP c (tDGet td te) m R (Sd ∧ Sk ∧ (tV d k).isSome = true) (tG d k) := fun s T σ H h Q kk => hd s.1 T σ H h _ fun x H1 h1 => hk s.2.1 _ σ H1 h1 _ fun y H2 ⟨A, B, h2⟩ => by
  obtain ⟨a, e, _, o, g, z⟩ := dget_of (R := R) (show p.r (view _ A B m H2) x d from h2.hd2) (show rKy.r (view _ A B m H2) y k from rKy.mono h2.im (Im.im (show rKy.r (view _ A B m1 H2) y k from h2.hd))) view_full
  rcases z with ⟨z1, z2⟩ | ⟨v, w, z1, z2, r⟩
  · rw [z1] at s; exact absurd s.2.2 (by simp)
  · subst z2
    refine ⟨a, v, e, g, kk _ _ (HD.push h2.tl.tl (p := R.at _) ?_)⟩
    show R.r _ v (tG d k)
    unfold tG
    rw [z1]
    exact r
/-- d.get(k, x) -/
theorem ep_tget2 {p : Rp (DTp κ α)} [Rdd p R] {Sk Sd Sx : Prop} {d : DTp κ α} {k : κ} {x0 : α} (hd : EP c td m p Sd d) (hk : EP c te m1 rKy Sk k) (hx : EP c ta m R Sx x0) : EP c (tDGet2 td te ta) m R (Sd ∧ Sk ∧ Sx) ((tV d k).getD x0) := fun s T σ H h Q kk => hd s.1 T σ H h _ fun x H1 ⟨A1, B1, h1⟩ => by
  obtain ⟨l, ks, e1, q2, q3⟩ := Rdd.rd (show p.r (view _ A1 B1 m H1) x d from h1.hd)
  refine ⟨l, e1, .inr ⟨_, rd_ext view_full q2⟩, hk s.2.1 _ σ H1 ⟨A1, B1, h1⟩ _ fun y H2 h2 => hx s.2.2 _ σ H2 h2 _ fun z H3 ⟨A, B, h3⟩ => ?_⟩
  have hz : R.r (view _ A B m H3) z x0 := h3.hd
  have hy : rKy.r (view _ A B m1 H3) y k := h3.hd2
  have hxx : p.r (view _ A B m H3) x d := h3.tl.tl.hd
  obtain ⟨a, e, _, o, g, w⟩ := dget_of (R := R) hxx (show rKy.r (view _ A B m H3) y k from rKy.mono h3.im (Im.im hy)) view_full
  rw [e1] at e
  cases e
  refine ⟨o, g, kk _ _ (HD.push h3.tl.tl.tl (p := R.at _) ?_)⟩
  show R.r _ _ _
  rcases w with ⟨z1, z2⟩ | ⟨v, w, z1, z2, r⟩
  · rw [z1, z2]; exact hz
  · rw [z1, z2]; exact r
theorem eo_dnewT : EOP c tDNewT (oDT (κ := κ) m R) True [] := fun P w T σ H ⟨A, B, hd⟩ Q k => fun p hp => k _ _ _ w.2 (hd.allocG hp trivial fun H1 e => ⟨p, [], rfl, rfl, e, .nil⟩)
/-- d[k] = v -/
theorem sw_tput {i : Nat} {S : Prop} {d : DTp κ α} {up : DTp κ α → OP} {We : (α → Prop) → Prop} {Wk : (κ → Prop) → Prop} {Wr : α → κ → DTp κ α → Prop} (he : EW c te m R We) (lv : LV c to i S m (oDT m R) d up) (hk : EW c ti m2 rKy Wk) (k : ∀ x j v, SW F (c.set i (.ow (up v))) T tr D (Wr x j v)) (hnb : ctxNB c = true := by rfl) (hm : m ≠ .b := by decide) :
    SW F c T (tSeq (sDPut to ti te) tr) D (We fun x => S ∧ Wk fun j => d.length < sizeLine ∧ ∀ v, v = tPut d j x → Wr x j v) := fun nT w σ H hd => he _ w T σ H hd _ fun x y H1 px h1 => lv.ev _ σ H1 px.1 h1 _ fun v X H2 h2 inv => by
  refine hk _ px.2 _ σ H2 h2 _ fun j z H3 pj ⟨A, B, h3⟩ => ?_
  obtain ⟨A', hA', ⟨l, ks, ea, ev, hH, hp⟩, upd'⟩ := inv A B _ H3 (fun t ht => List.mem_cons_of_mem _ (List.mem_append_left _ ht)) h3
  have hy : R.r (view F A B m H3) y x := h3.tm ⟨y, m, R.at x⟩ (by simp)
  obtain ⟨b, ez, eb⟩ : rKy.r (view F A B m2 H3) z j := h3.hd
  refine ⟨l, _, ev, by rw [ez]; exact DPut.t hH (view_full _ _ eb) (by rw [hp.length]; exact pj.1), ?_⟩
  refine k x j _ nT (pj.2 _ rfl) _ _ ⟨A, B, HdA.mutate (h3.sub fun t ht => by simp [ht]) nT hnb (lv.hi px.1) hA' (fun a ha => upd_ne fun z => ha (by rw [ea, z]; simp)) fun hv w hw => ?_⟩
  rw [lv.mu]
  exact upd' _ _ _ (fun a ha => upd_ne fun z => ha (by rw [ea, z]; simp)) (hv m hm) ⟨l, _, ea, ev, upd_same, pKT.put (pKT.mono (hv m hm) hp) (R.mono (hv m hm) hy)⟩ w hw
end
end TW

set_option maxRecDepth 100000
set_option maxHeartbeats 2000000
/-! ## 41. dicts with tuple keys: walked, copied, displayed; results of calls as new things -/
namespace TW
open PySem PySem.Spec PyProof.Rows L2
section
variable {F : Fm} {c : Ctx} {T : List Tm} {σ : Sg} {H H' : Hp} {A : Nat → List Addr} {B : List Addr} {D : Ends} {α β γ ι : Type} {R : Rp α} {Rb : Rp β} {m m1 m2 m3 : Md} {te ta tb tc td tk tv ty to ti : TE} {t tr : TS} {K : PySem.W.Frag} {v : V}
variable {κ : Type} [DecidableEq κ] [Ky κ] {Rk : Rp κ}
/-- a locked dict that is owned -/
def oDF (m : Md) (R : Rp α) (d : DTp κ α) : OP where
  md := m
  P := fun A H V0 v => ∃ l o ks, A = [l] ∧ v = .ref l ∧ H l = some (.frz o (.dT ks)) ∧ Paired (pKT R V0) ks d
  frameT := fun e1 e2 ⟨l, o, ks, h1, h2, h3, h4⟩ => ⟨l, o, ks, h1, h2, by rw [e1 l (by rw [h1]; simp)]; exact h3, pKT.monoT e2 h4⟩
  obj := fun ⟨l, o, ks, h1, h2, h3, h4⟩ a ha => by
    rw [h1] at ha; simp at ha; subst ha
    exact ⟨_, h3, trivial⟩
instance : OwR (oDF (κ := κ) m R) m (rDF R) := ⟨fun _ => rfl, fun {A H V0 v x V} ⟨l, o, ks, h1, h2, h3, h4⟩ e1 e2 => ⟨l, o, ks, h2, e1 l (by rw [h1]; simp) _ h3, pKT.mono e2 h4⟩⟩
theorem sw_lk {d : DTp κ α} {W : Prop} (i : Nat) (h : SW F (c.set i (.sh m ((rDF R).at d))) T (tSeq t tr) D W) (e : c[i]? = some (.ow (oDT m R d)) := by rfl) (hnb : ctxNB c = true := by rfl) (hm : m ≠ .b := by decide) : SW F c T (tSeq (tLk t) tr) D W := fun nT w σ H ⟨A, B, hd⟩ => by
  have q := hd.sl i
  unfold slOk at q
  rw [e] at q
  obtain ⟨v, hv, l, ks, e0, e1, e2, e3⟩ := q
  refine ⟨l, _, e2, trivial, fun od => ?_⟩
  have h2 : HdA F (c.set i (.ow (oDF m R d))) T σ (upd H l (.frz od (.dT ks))) A B := HdA.mutate (A' := A i) hd nT hnb e (fun a ha => ha) (fun a ha => upd_ne fun z => ha (by rw [e0, z]; simp)) fun hv2 w hw => by
    rw [hv] at hw
    cases hw
    exact ⟨l, od, ks, e0, e1, upd_same, pKT.mono (hv2 m hm) e3⟩
  have hi : i < c.length := (List.getElem?_eq_some_iff.mp e).1
  have h3 := HD.freeze (p := oDF m R) (x := d) ⟨A, B, h2⟩ (List.getElem?_set_self hi)
  rw [List.set_set] at h3
  exact h nT w _ _ h3
/-- a call's result, the new thing taken out of the heap -/
theorem HdA.calledX (h : HdA F c T σ H A B) {a : α} (r : RetOk ⟨H, [], []⟩ R a v H') {l : Addr} {o : HO} (hl : hid (fun x => x ∈ (⟨H, [], []⟩ : Fm).I ∨ mutAt H x) H' l = some o) (ho : notTup o) :
    H' l = some o ∧ HdA F c T σ (fun x => if x = l then none else H' x) A B ∧ (∀ m, Ext (hid (mutAt (hid (fun x => x ∈ (⟨H, [], []⟩ : Fm).I ∨ mutAt H x) H')) (hid (fun x => x ∈ (⟨H, [], []⟩ : Fm).I ∨ mutAt H x) H')) (view F A B m (fun x => if x = l then none else H' x))) := by
  obtain ⟨h1, h2⟩ := hid_some.mp hl
  have hn : H l = none := by
    cases e : H l with
    | none => rfl
    | some u =>
      exfalso
      have e2 := r.fr l u e (by simp)
      rw [h2] at e2
      cases e2
      exact h1 (.inr ⟨_, e, ho⟩)
  have h3 : HdA F c T σ (fun x => if x = l then none else H' x) A B := by
    have ne : ∀ x u, H x = some u → x ≠ l := fun x u e z => by rw [z, hn] at e; cases e
    refine h.drawn (fun x u _ q => ?_) ?_
    · show (if x = l then none else H' x) = some u
      rw [if_neg (ne x u q)]; exact r.fr x u q (by simp)
    · rcases h.st with q | q
      · exact .inl q
      · refine .inr (q.frame fun x hx => ?_)
        obtain ⟨u, e, _⟩ := q.obj x hx
        show (if x = l then none else H' x) = H x
        rw [if_neg (ne x u e), e]; exact r.fr x u e (by simp)
  refine ⟨h2, h3, fun m x u q => ?_⟩
  obtain ⟨q1, q2⟩ := hid_some.mp q
  obtain ⟨q3, q4⟩ := hid_some.mp q2
  have nt : ¬ notTup u := fun z => q1 ⟨u, q2, z⟩
  have nl : x ≠ l := fun z => by
    rw [z, h2] at q4
    cases q4
    exact nt ho
  have q5 : (fun x => if x = l then none else H' x) x = some u := by show (if x = l then none else H' x) = some u; rw [if_neg nl]; exact q4
  refine view_some.mpr ⟨h3.vis fun ⟨w, e, z⟩ => ?_, q5⟩
  rw [q5] at e
  cases e
  exact nt z
theorem upd_back {l : Addr} {o : HO} (h : H' l = some o) : upd (fun x => if x = l then none else H' x) l o = H' := by
  funext a
  by_cases ea : a = l
  · subst ea; rw [upd_same, h]
  · rw [upd_ne ea]; exact if_neg ea
theorem upd_back2 {l : Addr} {o : HO} : upd (fun x => if x = l then none else H' x) l o = upd H' l o := by
  funext a
  by_cases ea : a = l
  · subst ea; rw [upd_same, upd_same]
  · rw [upd_ne ea, upd_ne ea]; exact if_neg ea
/-- things that a call gives back as new ones -/
class OwB (p : α → OP) (R : outParam (Rp α)) : Prop where
  back : ∀ {X v a}, R.r X v a → ∃ l o, v = .ref l ∧ X l = some o ∧ notTup o ∧ ∀ X' H1 : Hp, Ext (hid (mutAt X) X) X' → H1 l = some o → (p a).P [l] H1 X' v
theorem im_list [Im R] {X X' : Hp} (e : Ext (hid (mutAt X) X) X') {vs : List V} {xs : List α} (h : Paired (R.r X) vs xs) : Paired (R.r X') vs xs := Paired.mono (fun _ _ q => R.mono e (Im.im q)) h
instance [Im R] : OwB (oList .n R) (rList R) := ⟨fun ⟨l, vs, h1, h2, h3⟩ => ⟨l, _, h1, h2, trivial, fun X' H1 e e1 => ⟨l, vs, rfl, h1, e1, im_list e h3⟩⟩⟩
theorem im_dt [Im R] {X X' : Hp} (e : Ext (hid (mutAt X) X) X') {ks : List (List Key × V)} {d : DTp κ α} (h : Paired (pKT R X) ks d) : Paired (pKT R X') ks d := Paired.mono (fun _ _ q => ⟨q.1, R.mono e (Im.im q.2)⟩) h
instance [Im R] : OwB (oDT (κ := κ) .n R) (rDT R) := ⟨fun ⟨l, ks, h1, h2, h3⟩ => ⟨l, _, h1, h2, trivial, fun X' H1 e e1 => ⟨l, ks, rfl, h1, e1, im_dt e h3⟩⟩⟩
theorem HdA.calledO {p : α → OP} [hp : OwB p R] (h : HdA F c T σ H A B) {a : α} (r : RetOk ⟨H, [], []⟩ R a v H') : HD F (c ++ [.ow (p a)]) T (σ ++ [some v]) H' := by
  obtain ⟨l, o, e1, e2, e3, e4⟩ := hp.back r.rp
  obtain ⟨f1, f2, f3⟩ := h.calledX r e2 e3
  have := f2.allocG (p := p a) (l := l) (o := o) (if_pos rfl) e3 fun H1 z => by
    rw [← e1]
    exact e4 _ H1 (f3 _) z
  rw [upd_back f1, ← e1] at this
  exact this
theorem eo_call {ρ : Type} {p : ρ → OP} {L : ι → List Pm} {Rr : Rp ρ} [OwB p Rr] {spec : ι → (ρ → Prop) → Prop} {E : XK} {t : TA} {La : ι → AL} {W : (ι → Prop) → Prop} (ha : AW' c t La W) (e : ∀ i, (La i).map Prod.snd = (L i).map Pm.p := by intro _; rfl) :
    EO c (tCall (spT false L Rr spec) [] E t) p (fun P => W fun i => spec i P) := fun P w T σ H hd Q k =>
  ha _ w T σ H hd _ fun i vs H1 pi el ⟨A, B, h1⟩ => by
    rw [List.append_nil]
    refine ⟨i, [], P, ⟨rfl, ?_⟩, pi, fun a v H' pa r => k a v H' pa (HdA.calledO (p := p) (h1.sub fun t z => List.mem_append_right _ z) r)⟩
    exact zipT_paired (G := fun m => view _ A B m H1) el (e i) (fun t ht => h1.tm t (List.mem_append_left _ ht)) fun m => view_full
theorem eo_callP {ρ : Type} {p : ρ → OP} {L : ι → List Pm} {Rr : Rp ρ} [OwB p Rr] {pre : ι → Prop} {f : ι → ρ} {E : XK} {t : TA} {La : AL} {S : Prop} (i : ι) (ha : AP' c t S La) (e : La.map Prod.snd = (L i).map Pm.p := by rfl) :
    EOP c (tCall (spF L Rr pre f) [] E t) p (S ∧ pre i) (f i) := fun P w T σ H hd Q k =>
  ha w.1.1 T σ H hd _ fun vs H1 el ⟨A, B, h1⟩ => by
    rw [List.append_nil]
    refine ⟨i, [], fun x => x = f i, ⟨rfl, ?_⟩, ⟨w.1.2, rfl⟩, fun a v H' pa r => by
      subst pa
      exact k _ v H' w.2 (HdA.calledO (p := p) (h1.sub fun t z => List.mem_append_right _ z) r)⟩
    exact zipT_paired (G := fun m => view _ A B m H1) el e (fun t ht => h1.tm t (List.mem_append_left _ ht)) fun m => view_full
/-- the locked dict that is walked -/
def pDF (R : Rp α) (l : Addr) (od : Obj) (ks : List (List Key × V)) (d : DTp κ α) : SP := ⟨fun H _ => H l = some (.frz od (.dT ks)) ∧ Paired (pKT R H) ks d, fun e h => ⟨e.ap _ _ h.1, pKT.monoT e h.2⟩⟩
theorem HdA.pd {l : Addr} {od : Obj} {ks : List (List Key × V)} {d : DTp κ α} {T' : List Tm} (q : HdA F c T' σ H A B) (h : (⟨v, m, pDF R l od ks d⟩ : Tm) ∈ T') : H l = some (.frz od (.dT ks)) ∧ Paired (pKT R (view F A B m H)) ks d := by
  have := q.tm _ h
  exact ⟨view_full _ _ this.1, this.2⟩
theorem itO_items [KyR K κ Rk] {l : Addr} {od : Obj} {ks : List (List Key × V)} {d : DTp κ α} (hl : ks.length = d.length) : ItO T (⟨.non, m, pDF R l od ks d⟩ :: T) (Itit l od ks) m (rPair K Rk R) d := by
  refine ⟨fun t h => List.mem_cons_of_mem _ h, fun hm n => nob_cons hm n, fun F c T2 σ H s ⟨A, B, hd⟩ i hi => ⟨(hd.pd (s _ List.mem_cons_self)).1, by omega⟩, fun F c T2 σ H s ⟨A, B, hd⟩ => ⟨(hd.pd (s _ List.mem_cons_self)).1, by omega⟩, fun F c T2 σ H s ⟨A, B, hd⟩ i hi x H' ⟨Tt, k, w, q, e1, e2, e3, e4, e5⟩ => ?_⟩
  subst e2 e5
  have pk := (hd.pd (s _ List.mem_cons_self)).2
  have pq := pget' pk hi e1
  refine hd.newTup (p := (rPair K Rk R).at d[i]) e3 fun H1 ex hs => ⟨Tt, .ref q, w, rfl, hs, ?_, R.mono ex pq.2⟩
  refine Rk.mono ex (KyR.of K (κ := κ) ⟨q, rfl, view_some.mpr ⟨hd.vis fun ⟨u, z, n⟩ => ?_, ?_⟩⟩)
  · rw [e4] at z; cases z; exact n
  · rw [e4]
    have : k = Ky.k d[i].1 := pq.1
    rw [this]
theorem itO_keys [KyR K κ Rk] {l : Addr} {od : Obj} {ks : List (List Key × V)} {d : DTp κ α} (hl : ks.length = d.length) : ItO T (⟨.non, m, pDF R l od ks d⟩ :: T) (Itkt l od ks) m (rKy (κ := κ)) (d.map (·.1)) := by
  refine ⟨fun t h => List.mem_cons_of_mem _ h, fun hm n => nob_cons hm n, fun F c T2 σ H s ⟨A, B, hd⟩ i hi => ⟨(hd.pd (s _ List.mem_cons_self)).1, by simp at hi; omega⟩, fun F c T2 σ H s ⟨A, B, hd⟩ => ⟨(hd.pd (s _ List.mem_cons_self)).1, by simp; omega⟩, fun F c T2 σ H s ⟨A, B, hd⟩ i hi x H' ⟨e0, k, w, q, e1, e2, e4⟩ => ?_⟩
  subst e2 e0
  have pk := (hd.pd (s _ List.mem_cons_self)).2
  have hi2 : i < d.length := by simpa using hi
  have pq := pget' pk hi2 e1
  refine HD.push hd (p := rKy.at _) ⟨q, rfl, view_some.mpr ⟨hd.vis fun ⟨u, z, n⟩ => ?_, ?_⟩⟩
  · rw [e4] at z; cases z; exact n
  · rw [e4]
    have : k = Ky.k d[i].1 := pq.1
    rw [this, List.getElem_map]
theorem HdA.asDF {d : DTp κ α} (q : HdA F c (⟨v, m, (rDF R).at d⟩ :: T) σ H A B) : ∃ l od ks, v = .ref l ∧ ks.length = d.length ∧ H l = some (.frz od (.dT ks)) ∧ HdA F c (⟨.non, m, pDF R l od ks d⟩ :: T) σ H A B := by
  obtain ⟨l, od, ks, e, h1, h2⟩ := (show (rDF R).r (view F A B m H) v d from q.hd)
  exact ⟨l, od, ks, e, Paired.length h2, view_full _ _ h1, q.re (v := v) (p' := pDF R l od ks d) ⟨h1, h2⟩ |>.len, (q.re (v := v) (p' := pDF R l od ks d) (m' := m) ⟨h1, h2⟩).sl, (fun t ht => (List.mem_cons.mp ht).elim (fun z => by subst z; exact ⟨h1, h2⟩) (fun z => q.tl.tm t z)), q.dj, q.db, q.iq, q.fr, q.ni, q.st, q.gb, q.gh⟩
theorem iw_itemsF [KyR K κ Rk] {W : (DTp κ α → Prop) → Prop} (h : EW c te m (rDF R) W) : IW c (iItemsT te) m (rPair K Rk R) W := fun P w T σ H hd Kk k =>
  h _ w T σ H hd _ fun xs v H' pn ⟨A, B, q⟩ => by
    obtain ⟨l, od, ks, e, hl, hs, q2⟩ := q.asDF
    exact ⟨l, od, ks, e, hs, k xs _ _ H' pn (itO_items hl) ⟨A, B, q2⟩⟩
theorem iw_keysF [KyR K κ Rk] {W : (DTp κ α → Prop) → Prop} (h : EW c te m (rDF R) W) : IW c (iKeys te) m (rKy (κ := κ)) (fun P => W fun d => P (d.map (·.1))) := fun P w T σ H hd Kk k =>
  h _ w T σ H hd _ fun xs v H' pn ⟨A, B, q⟩ => by
    obtain ⟨l, od, ks, e, hl, hs, q2⟩ := q.asDF
    exact ⟨l, od, e, .inr ⟨ks, hs, k _ _ _ H' pn (itO_keys (K := K) hl) ⟨A, B, q2⟩⟩⟩
theorem iw_itemsFP [KyR K κ Rk] {S : Prop} {d : DTp κ α} (h : EP c te m (rDF R) S d) : IWP c (iItemsT te) m (rPair K Rk R) S d := iw_itemsF h.w
theorem iw_keysFP [KyR K κ Rk] {S : Prop} {d : DTp κ α} (h : EP c te m (rDF R) S d) : IWP c (iKeys te) m (rKy (κ := κ)) S (d.map (·.1)) := iw_keysF (K := K) h.w
/-- a call's dict, locked -/
theorem HdA.calledL [Im R] (h : HdA F c T σ H A B) {d : DTp κ α} (r : RetOk ⟨H, [], []⟩ (rDT R) d v H') : ∃ l ks, v = .ref l ∧ H' l = some (.dT ks) ∧ ∀ od, HD F c (⟨v, .n, (rDF R).at d⟩ :: T) σ (upd H' l (.frz od (.dT ks))) := by
  obtain ⟨l, ks, e1, e2, e3⟩ := r.rp
  obtain ⟨f1, f2, f3⟩ := h.calledX r e2 trivial
  refine ⟨l, ks, e1, f1, fun od => ?_⟩
  have hn : (fun x => if x = l then none else H' x) l = none := if_pos rfl
  have g := f2.alloc (o := .frz od (.dT ks)) hn
  have fr := f2.fresh (m := .n) (o := .frz od (.dT ks)) hn
  rw [upd_back2] at g fr
  refine HD.push g (p := (rDF R).at d) ⟨l, od, ks, e1, fr, im_dt ((f3 .n).trans ?_) e3⟩
  have := HdA.vext (F := F) (A := A) (B := B) (m := .n) (H := fun x => if x = l then none else H' x) (p := l) (o := .frz od (.dT ks)) hn
  rw [upd_back2] at this
  exact this
theorem el_call [Im R] {L : ι → List Pm} {spec : ι → (DTp κ α → Prop) → Prop} {E : XK} {t : TA} {La : ι → AL} {W : (ι → Prop) → Prop} (ha : AW' c t La W) (e : ∀ i, (La i).map Prod.snd = (L i).map Pm.p := by intro _; rfl) :
    EW c (tLkE (tCall (spT false L (rDT R) spec) [] E t)) .n (rDF R) (fun P => W fun i => spec i P) := fun P w T σ H hd Q k =>
  ha _ w T σ H hd _ fun i vs H1 pi el ⟨A, B, h1⟩ => by
    rw [List.append_nil]
    refine ⟨i, [], P, ⟨rfl, ?_⟩, pi, fun a v H' pa r => ?_⟩
    · exact zipT_paired (G := fun m => view _ A B m H1) el (e i) (fun t ht => h1.tm t (List.mem_append_left _ ht)) fun m => view_full
    · obtain ⟨l, ks, z1, z2, z3⟩ := HdA.calledL (h1.sub fun t z => List.mem_append_right _ z) r
      exact ⟨l, _, z1, z2, trivial, fun od => k a v _ pa (z3 od)⟩
theorem el_callP [Im R] {L : ι → List Pm} {pre : ι → Prop} {f : ι → DTp κ α} {E : XK} {t : TA} {La : AL} {S : Prop} (i : ι) (ha : AP' c t S La) (e : La.map Prod.snd = (L i).map Pm.p := by rfl) :
    EP c (tLkE (tCall (spF L (rDT R) pre f) [] E t)) .n (rDF R) (S ∧ pre i) (f i) := fun s T σ H hd Q k =>
  ha s.1 T σ H hd _ fun vs H1 el ⟨A, B, h1⟩ => by
    rw [List.append_nil]
    refine ⟨i, [], fun x => x = f i, ⟨rfl, ?_⟩, ⟨s.2, rfl⟩, fun a v H' pa r => ?_⟩
    · exact zipT_paired (G := fun m => view _ A B m H1) el e (fun t ht => h1.tm t (List.mem_append_left _ ht)) fun m => view_full
    · subst pa
      obtain ⟨l, ks, z1, z2, z3⟩ := HdA.calledL (h1.sub fun t z => List.mem_append_right _ z) r
      exact ⟨l, _, z1, z2, trivial, fun od => k v _ (z3 od)⟩
end
end TW

set_option maxRecDepth 100000
set_option maxHeartbeats 2000000
/-! ## 42. dicts with tuple keys: keys made, displays, copies, sorted -/
namespace TW
open PySem PySem.Spec PyProof.Rows L2
section
variable {F : Fm} {c : Ctx} {T : List Tm} {σ : Sg} {H H' : Hp} {A : Nat → List Addr} {B : List Addr} {D : Ends} {α β γ ι : Type} {R : Rp α} {Rb : Rp β} {m m1 m2 m3 : Md} {te ta tb tc td tk tv ty to ti : TE} {tr : TS} {K : PySem.W.Frag} {v : V}
variable {κ : Type} [DecidableEq κ] [Ky κ] {Rk : Rp κ}
theorem ints_of' {H : Hp} {vs : List V} {xs : List Int} (h : Paired (rInt.r H) vs xs) : vs = xs.map V.int := by
  induction h with
  | nil => rfl
  | cons h t ih => rw [List.map_cons, ih, show _ = _ from h]
theorem ep_kpair {Sa Sb : Prop} {a b : Int} (ha : EP c ta m1 rInt Sa a) (hb : EP c tb m2 rInt Sb b) : EP c (tTup (tCons ta (tCons tb tNil))) .n (rKy (κ := Int × Int)) (Sa ∧ Sb) (a, b) := fun s T σ H hd Q k =>
  ha s.1 T σ H hd _ fun x H1 h1 => hb s.2 _ σ H1 h1 _ fun y H2 ⟨A, B, h2⟩ => ⟨(by show 2 ≤ sizeLine; decide), fun p hp => k _ _ (by
    have ex : x = V.int a := h2.hd2
    have ey : y = V.int b := h2.hd
    refine HD.push (h2.tl.tl.alloc hp) (p := (rKy (κ := Int × Int)).at (a, b)) ⟨p, rfl, ?_⟩
    rw [h2.tl.tl.fresh hp, ex, ey]; rfl)⟩
theorem ep_ktup {S : Prop} {xs : List Int} (h : EP c te m (rList rInt) S xs) : EP c (tThen te (kTup K)) .n (rKy (κ := List Int)) S xs := fun s T σ H hd Q k => h s T σ H hd _ fun v H' ⟨A, B, q⟩ => by
  obtain ⟨l, vs, e, h1, h2⟩ := (show (rList rInt).r (view _ A B m H') v xs from q.hd)
  refine .inl ⟨l, vs, e, SqL.of (view_full _ _ h1), fun p hp => k _ _ (HD.push (q.tl.alloc hp) (p := (rKy (κ := List Int)).at xs) ⟨p, rfl, ?_⟩)⟩
  rw [q.tl.fresh hp, Ky.kv, ints_of' h2]; rfl
theorem ep_kL {t : TA} {n : Nat} {S : Prop} {xs : List Int} (h : LsP c t .n rInt n S xs) (hn : n ≤ 1000 := by decide) : EP c (tTup t) .n (rKy (κ := List Int)) S xs := fun s T σ H hd Q k =>
  h (fun x => x = xs) ⟨s, rfl⟩ T σ H hd _ fun ys vs H1 A B pa e h1 q => ⟨sz1000 (q.length.trans e) hn, fun l hl => k _ _ (by
    subst pa
    refine HD.push (h1.alloc hl) (p := (rKy (κ := List Int)).at ys) ⟨l, rfl, ?_⟩
    rw [h1.fresh hl, Ky.kv, ints_of' q]; rfl)⟩
theorem ep_krep {Sa Sb : Prop} {a : List Int} {b : Int} (ha : EP c ta m1 (rKy (κ := List Int)) Sa a) (hb : EP c tb m2 rInt Sb b) : EP c (tOp (rRepU K) ta tb) .n (rKy (κ := List Int)) (Sa ∧ Sb ∧ a ≠ [] ∧ 1 ≤ b ∧ b ≤ 1000 ∧ a.length ≤ 1000) (repL a b) := fun s T σ H hd Q k =>
  ha s.1 T σ H hd _ fun x H1 h1 => hb s.2.1 _ σ H1 h1 _ fun y H2 ⟨A, B, h2⟩ => by
    obtain ⟨l, ex, el⟩ := (show (rKy (κ := List Int)).r (view _ A B m1 H2) x a from h2.hd2)
    have ey : y = V.int b := h2.hd
    rw [Ky.kv] at el
    refine ⟨l, b, _, ex, ey, SqT.of (view_full _ _ el), fun z => s.2.2.1 (by simpa [Ky.enc] using z), s.2.2.2.1, s.2.2.2.2.1, by rw [List.length_map]; exact s.2.2.2.2.2, fun e1 => k _ _ (HD.push h2.tl.tl (p := (rKy (κ := List Int)).at _) ⟨l, rfl, ?_⟩), fun p hp => k _ _ (HD.push (h2.tl.tl.alloc hp) (p := (rKy (κ := List Int)).at _) ⟨p, rfl, ?_⟩)⟩
    · subst e1
      have : repL a 1 = a := by simp [repL]
      rw [this, Ky.kv]
      exact h2.vis (m := .n) (fun ⟨u, z, n⟩ => by rw [view_full _ _ el] at z; cases z; exact n) |> fun z => view_some.mpr ⟨z, view_full _ _ el⟩
    · rw [h2.tl.tl.fresh hp, Ky.kv]
      congr 2
      unfold repL
      show _ = ((List.replicate b.toNat a).flatten).map V.int
      rw [List.map_flatten, List.map_replicate]; rfl
/-- {k: v} -/
theorem eo_dispT [Im R] {Sk Sv : Prop} {k : κ} {x : α} (hk : EP c tk m1 (rKy (κ := κ)) Sk k) (hv : EP c tv m2 R Sv x) : EOP c (tDispT tk tv) (oDT (κ := κ) .n R) (Sk ∧ Sv) [(k, x)] := fun {F} P w T σ H ⟨A, B, hd⟩ Q kk => fun p hp => by
  have nG : ¬ ghst F p := fun ⟨o, z⟩ => by
    have := (hd.gh _ z).1
    rw [show H p = none from hp] at this; cases this
  have hu := hd.under hp (o := .dT []) trivial
  refine hk w.1.1 T σ _ ⟨A, B, hu⟩ _ fun y H1 h1 => hv w.1.2 _ σ H1 h1 _ fun z H2 ⟨A2, B2, h2⟩ => ?_
  obtain ⟨b, e1, e2⟩ : rKy.r (view _ A2 B2 m1 H2) y k := h2.hd2
  have e3 : R.r (view _ A2 B2 m2 H2) z x := h2.hd
  have e4 := (h2.gh (p, .dT []) List.mem_cons_self).1
  refine ⟨y, z, rfl, e4, b, _, e1, view_full _ _ e2, ?_⟩
  have e5 := R.mono (h2.im (m' := .n)) (Im.im e3)
  obtain ⟨h3, hv3⟩ := h2.tl.tl.away nG
  have := h3.allocG (p := oDT .n R [(k, x)]) (l := p) (o := .dT [(Ky.k k, z)]) (if_pos rfl) trivial fun H9 e9 => ⟨p, _, rfl, rfl, e9, .cons ⟨rfl, R.mono (hv3 .n) e5⟩ .nil⟩
  rw [upd_back2] at this
  exact kk _ _ _ w.2 this
theorem cr_dictTK {X : Cx} (hu : X.A.units + 3 < cLine) : CallR X (.type "dict") (fun vs H Q => ∃ (a : Addr) (kvs : List (List Key × V)) (ks : List (List Int)), vs = [.ref a] ∧ H a = some (.dT kvs) ∧ kvs.map (·.1) = ks.map (·.map .inl) ∧ (ks.map hI).Nodup ∧ ∀ p, H p = none → Q (.ref p) (upd H p (.dT kvs))) := cr_dictT hu
/-- dict(d), d in slot i -/
theorem eo_tcopy {i : Nat} {d : DTp κ α} (h : c[i]? = some (.ow (oDT m R d))) : EOP c (tCB (fun vs H Q => ∃ (a : Addr) (kvs : List (List Key × V)) (ks : List (List Int)), vs = [.ref a] ∧ H a = some (.dT kvs) ∧ kvs.map (·.1) = ks.map (·.map .inl) ∧ (ks.map hI).Nodup ∧ ∀ p, H p = none → Q (.ref p) (upd H p (.dT kvs))) (tCons (tVar i) tNil)) (oDT m R) (((d.map fun p => Ky.enc p.1).map hI).Nodup) d := fun {F} P w T σ H ⟨A, B, hd⟩ Q k => by
  have q := hd.sl i
  unfold slOk at q
  rw [h] at q
  obtain ⟨v, hv, l, ks, e0, e1, e2, e3⟩ := q
  exact ⟨v, hv, l, ks, _, by rw [e1], e2, pKT.keys e3, w.1, fun p hp => k _ _ _ w.2 (hd.allocG hp trivial fun H1 e => ⟨p, ks, rfl, rfl, e, e3⟩)⟩
end
end TW

set_option maxRecDepth 100000
set_option maxHeartbeats 4000000
/-! ## 43. sorted(d), keys tuples of ints -/
namespace TW
open PySem PySem.Spec PyProof.Rows L2
def kEnc (p : Addr × List Int) : PyData := .tuple (p.2.map .int)
def rSrtDT : List V → Hp → VK → Prop := fun vs H Q => ∃ (a : Addr) (kvs : List (List Key × V)) (ks : List (List Int)), vs = [.ref a] ∧ Rd H a (.dT kvs) ∧ kvs.map (·.1) = ks.map (·.map .inl) ∧ (∀ k ∈ ks, k ≠ []) ∧
  ∀ (p : Addr) (bs : List (Addr × List Int)), H p = none → bs.map (·.2) = ks → (∀ b ∈ bs, H b.1 = some (.tup (b.2.map V.int))) → Q (.ref p) (upd H p (.lst ((bs.mergeSort (PySem.W.dataLe false kEnc)).map fun b => V.ref b.1)))
theorem reads_ints {h : Heap} : ∀ {vs : List Value} {xs : List Int}, Vals (xs.map V.int) vs → ReadsAll h vs (xs.map .int) []
  | _, [], r => by rw [List.map_nil] at r; cases r; exact .nil
  | _, x :: xs, r => by
    rw [List.map_cons] at r
    cases r with
    | cons h1 h2 =>
      obtain ⟨t, rfl⟩ := h1
      exact ReadsAll.cons (as := []) (.int x t) (reads_ints h2)
section
variable {X : Cx}
theorem cr_srtDT (hc : X.calm = true) (hu : X.A.units + 65 < cLine) : CallR X (.builtin "sorted") rSrtDT := by
  intro pins s σ H vs us Q I r h
  obtain ⟨d, kvs, ks0, rfl, hd, hks, hne, q⟩ := h
  obtain ⟨u, rfl, rx⟩ := vals1 r
  cases rx
  obtain ⟨z, hs, ks, pr, o, es, ep, ho, hx, hdt, he, hn⟩ := (show ObjOk X.prog X.w H s.heap d (.dT kvs) from hd.ok I.hok)
  have l1 : es.size = ks.length := size_of_entries he
  have l2 : kvs.length = ks.length := Paired.length pr
  have l3 : ks0.length = kvs.length := by have := congrArg List.length hks; simpa using this.symm
  -- the keys
  let bs : List (Addr × List Int) := (ks.map fun x => x.2.1).zip ks0
  have hb2 : bs.map (·.2) = ks0 := by
    show (List.zip _ _).map Prod.snd = _
    rw [List.map_snd_zip (by rw [List.length_map]; omega)]
  have hb1 : bs.map (·.1) = ks.map fun x => x.2.1 := by
    show (List.zip _ _).map Prod.fst = _
    rw [List.map_fst_zip (by rw [List.length_map]; omega)]
  have hbH : ∀ b ∈ bs, H b.1 = some (.tup (b.2.map V.int)) := by
    have gen : ∀ {kvs : List (List Key × V)} {ks : List (List Key × Addr × Value)} {ks0 : List (List Int)}, KT H kvs ks → kvs.map (·.1) = ks0.map (·.map .inl) → ∀ b ∈ (ks.map fun x => x.2.1).zip ks0, H b.1 = some (.tup (b.2.map V.int)) := by
      intro kvs ks ks0 pr
      induction pr generalizing ks0 with
      | nil => intro _ b hb; simp at hb
      | @cons p w ps ws h t ih =>
        intro e b hb
        cases ks0 with
        | nil => simp at hb
        | cons k0 ks0 =>
          rw [List.map_cons, List.map_cons] at e
          injection e with e1 e2
          rw [List.map_cons, List.zip_cons_cons] at hb
          rcases List.mem_cons.mp hb with rfl | hb
          · rw [h.2.1, e1, List.map_map]; rfl
          · exact ih e2 b hb
    exact gen pr hks
  have hh := I.ok.hd hc
  refine PySem.Calls.call_function_entry kind_sorted plain_sorted entry_sorted (args_sorted1 _) ?_
  unfold Builtin.«sorted»
  refine wpAny_bind (m := checkCount "sorted" 1 1 _) (wpAny_pure ?_)
  refine wpAny_bind (PySem.W.kdu_collect (A := X.A.in1) (kdl_raw hs hx hdt) hh ho (by omega) fun h' tk acc kp it => ?_)
  have ea : acc.toList = ks.map fun x => Value.ref x.2.1 := by
    have hl : acc.toList.length = ks.length := by rw [Array.length_toList, it.1]; exact l1
    apply List.ext_getElem?
    intro j
    rw [List.getElem?_map]
    cases hj : acc.toList[j]? with
    | none =>
      have h1 := List.getElem?_eq_none_iff.mp hj
      rw [List.getElem?_eq_none (by omega)]
      all_goals rfl
    | some v =>
      obtain ⟨en, hen, hv⟩ := it.2 j v (by rw [← Array.getElem?_toList]; exact hj)
      have qe := entry_at he j
      rw [hen] at qe
      cases hb : ks[j]? with
      | none =>
        rw [hb] at qe
        exact nomatch (show some en = none from qe)
      | some b =>
        rw [hb] at qe
        have e2 : en = entryOfKey (tupleKind (mixKind X.prog X.w)) b := Option.some.inj qe
        rw [hv, e2]
        all_goals rfl
  have eb : acc.toList = bs.map fun b => Value.ref b.1 := by
    rw [ea]
    have : bs.map (fun b => Value.ref b.1) = (bs.map (·.1)).map Value.ref := by rw [List.map_map]; rfl
    rw [this, hb1, List.map_map]; rfl
  have hz : bs.length ≤ sizeLine := by
    have : bs.length = ks0.length := by rw [← hb2, List.length_map]
    omega
  refine wpAny_bind (wpAny_newList ?_ (by rw [eb, List.length_map]; exact hz))
  have e2 : ∀ {bs : List (Addr × List Int)}, PySem.W.EachIs (fun v (b : Addr × List Int) => v = Value.ref b.1) (bs.map fun b => Value.ref b.1) bs := by
    intro bs
    induction bs with
    | nil => exact .nil
    | cons b bs ih => exact .cons rfl ih
  have e2r : PySem.W.EachIs (fun v (b : Addr × List Int) => ∃ as, Reads (h'.push { cls := .type "list", data := .seq acc.toList.toArray }) v (kEnc b) as ∧ h'.objs.size ∉ as) (bs.map fun b => Value.ref b.1) bs := by
    have gen : ∀ {bs : List (Addr × List Int)}, (∀ b ∈ bs, H b.1 = some (.tup (b.2.map V.int))) → PySem.W.EachIs (fun v (b : Addr × List Int) => ∃ as, Reads (h'.push { cls := .type "list", data := .seq acc.toList.toArray }) v (kEnc b) as ∧ h'.objs.size ∉ as) (bs.map fun b => Value.ref b.1) bs := by
      intro bs
      induction bs with
      | nil => intro _; exact .nil
      | cons b bs ih =>
        intro hall
        refine .cons ⟨[], ?_, by simp⟩ (ih fun x hx => hall x (List.mem_cons_of_mem _ hx))
        obtain ⟨_, its, r, ob, g1, g2, n, g3⟩ := (show ObjOk X.prog X.w H s.heap b.1 (.tup (b.2.map V.int)) from I.hok _ _ (hall b List.mem_cons_self))
        exact .tuple (Heap.get?_push_of_some _ (kp _ _ g1)) g2 g3 (by simpa using reads_ints r)
    exact gen hbH
  refine wpAny_bind (wpAny_holding ?_)
  refine PySem.W.list_sort_data (A := X.A.in1) (enc := kEnc) (R := fun v (b : Addr × List Int) => v = Value.ref b.1) (vs := bs.map fun b => Value.ref b.1) (bs := bs) (a := h'.objs.size) (n := 0) ?_ e2 e2r ?_ ?_ hz (fun b hb => ?_) fun out hlo eo => ?_
  · show (h'.push _).get? h'.objs.size = _
    rw [Heap.get?_push_size _ rfl, eb]
  · exact PySem.W.AllAlike.of fun a b => by
      show PySem.W.alike (.tuple _) (.tuple _) = true
      have := PySem.W.alike_ints a.2 b.2
      simpa [PySem.W.alike] using this
  · left
    intro dd hdd
    obtain ⟨b, hb, rfl⟩ := List.mem_map.mp hdd
    have : b.2 ∈ ks0 := by rw [← hb2]; exact List.mem_map.mpr ⟨b, hb, rfl⟩
    have := hne _ this
    unfold kEnc
    cases e : b.2 with
    | nil => exact absurd e this
    | cons x r => exact ⟨_, _, rfl⟩
  · have : (kEnc b).depth = 1 := by unfold kEnc; rw [PyData.depth, PySem.W.depth_ints]
    rw [this]
    show X.A.units + 1 + 1 + 1 < cLine
    omega
  · refine wpAny_pure ⟨_, rfl, ?_⟩
    obtain ⟨e9, h9⟩ := PyProof.Rows.sortedHeap_at (h := h'.push { cls := .type "list", data := .seq acc.toList.toArray }) (a := h'.objs.size) (vs := bs.map fun b => Value.ref b.1) (n := 0) (out := out.toArray) (by rw [Heap.get?_push_size _ rfl, eb])
    have hD1 : s.heap.get? h'.objs.size = none := by
      cases e : s.heap.get? h'.objs.size with
      | none => rfl
      | some ob => exact absurd (Heap.lt_size (kp _ _ e)) (Nat.lt_irrefl _)
    have hD2 : H h'.objs.size = none := (I.hok.kept kp).fresh (Nat.le_refl _)
    refine ⟨.ref h'.objs.size, upd H h'.objs.size (.lst ((bs.mergeSort (PySem.W.dataLe false kEnc)).map fun b => V.ref b.1)), I.laidN (t' := tk) (fun b ob hb => ?_) hD1 hD2 ?_, rfl, q _ bs hD2 hb2 hbH⟩
    · have hb' := kp _ _ hb
      have hlt := Heap.lt_size hb'
      rw [PyProof.Rows.sortedHeap_old (Nat.ne_of_lt hlt) (by rw [PyProof.Rows.size_push']; exact Nat.lt_succ_of_lt hlt), Heap.get?_push_ne _ _ _ (Nat.ne_of_lt hlt)]
      exact hb'
    · have rv : ∀ {bs : List (Addr × List Int)} {out : List Value}, PySem.W.EachIs (fun v (b : Addr × List Int) => v = Value.ref b.1) out bs → Vals (bs.map fun b => V.ref b.1) out := by
        intro bs out h
        induction h with
        | nil => exact .nil
        | cons h t ih => exact .cons h ih
      exact ⟨by rw [List.length_map, List.length_mergeSort]; exact hz, out, e9, rv eo, h9⟩
end
section
variable {F : Fm} {c : Ctx} {T : List Tm} {σ : Sg} {H H' : Hp} {A : Nat → List Addr} {B : List Addr} {α : Type} {R : Rp α} {m : Md} {td : TE} {K : PySem.W.Frag}
theorem paired_ky {H : Hp} : ∀ {bs : List (Addr × List Int)}, (∀ b ∈ bs, H b.1 = some (.tup (b.2.map V.int))) → Paired ((rKy (κ := List Int)).r H) (bs.map fun b => V.ref b.1) (bs.map (·.2))
  | [], _ => .nil
  | b :: bs, h => .cons ⟨b.1, rfl, by rw [Ky.kv]; exact h b List.mem_cons_self⟩ (paired_ky fun x hx => h x (List.mem_cons_of_mem _ hx))
theorem eo_srtDT {p : Rp (DTp (List Int) α)} [Rdd p R] {S : Prop} {d : DTp (List Int) α} (h : EP c td m p S d) : EOP c (tCB rSrtDT (tCons td tNil)) (oList .n (rKy (κ := List Int))) (S ∧ ∀ q ∈ d, q.1 ≠ []) (srt (Od.lt K (rTup K rInt)) (d.map (·.1))) := fun {F} P w T σ H hd Q k =>
  h w.1.1 T σ H hd _ fun x H1 ⟨A, B, h1⟩ => by
    obtain ⟨l, ks, e1, h2, h3⟩ := Rdd.rd (show p.r (view F A B m H1) x d from h1.hd)
    have h4 := rd_ext view_full h2
    refine ⟨l, ks, d.map (·.1), by rw [e1], h4, ?_, fun k0 hk => ?_, fun q bs hq hb2 hbH => k _ _ _ w.2 ?_⟩
    · rw [pKT.keys h3]; rfl
    · obtain ⟨z, hz, rfl⟩ := List.mem_map.mp hk
      exact w.1.2 z hz
    · have hv : ∀ b ∈ bs, (view F A B .n H1) b.1 = some (.tup (b.2.map V.int)) := fun b hb => view_some.mpr ⟨h1.vis fun ⟨u, z, n⟩ => by rw [hbH b hb] at z; cases z; exact n, hbH b hb⟩
      refine h1.tl.allocO hq ?_
      have e : srt (Od.lt K (rTup K rInt)) (d.map (·.1)) = (bs.mergeSort (PySem.W.dataLe false kEnc)).map (·.2) := by
        rw [← hb2, srt_eq]
        symm
        refine List.map_mergeSort fun a _ b _ => ?_
        rw [PySem.W.dataLe_eq]
        show (!PySem.W.dataLt (Dt.d K (rTup K rInt) b.2) (Dt.d K (rTup K rInt) a.2)) = _
        rw [Od.lt_eq]
      rw [e]
      exact paired_ky fun b hb => hv b (List.mem_mergeSort.mp hb)
end
end TW

set_option maxRecDepth 100000
set_option maxHeartbeats 2000000
/-! ## 44. an owned thing goes over to another name; a lock ahead of what follows -/
namespace TW
open PySem PySem.Spec PyProof.Rows L2
section
variable {F : Fm} {c : Ctx} {T : List Tm} {σ : Sg} {H H' : Hp} {A : Nat → List Addr} {B : List Addr} {D : Ends} {α : Type} {R : Rp α} {m : Md} {t tr : TS} {v : V}
variable {κ : Type} [DecidableEq κ] [Ky κ]
/-- it is taken out of slot j, and put behind -/
theorem HD.take {p : OP} {j : Nat} (h : HD F c T σ H) (e : c[j]? = some (.ow p)) : ∃ v, σ[j]? = some (some v) ∧ HD F ((c.set j .un) ++ [.ow p]) T (σ ++ [some v]) H := by
  obtain ⟨A, B, h⟩ := h
  have hj : j < c.length := (List.getElem?_eq_some_iff.mp e).1
  have q := h.sl j
  unfold slOk at q
  rw [e] at q
  obtain ⟨v, hv, hp⟩ := q
  have hl := h.len
  let A' : Nat → List Addr := fun i => if i = c.length then A j else if i = j then [] else A i
  have hA0 : A c.length = [] := by
    have q := h.sl c.length
    unfold slOk at q
    rw [List.getElem?_eq_none (Nat.le_refl _)] at q
    exact q
  have hA : ∀ i a, a ∈ A' i → (i = c.length ∧ a ∈ A j) ∨ (i ≠ c.length ∧ i ≠ j ∧ a ∈ A i) := fun i a q => by
    by_cases e1 : i = c.length
    · have : A' i = A j := if_pos e1
      rw [this] at q; exact .inl ⟨e1, q⟩
    · by_cases e2 : i = j
      · have : A' i = [] := by show (if i = c.length then _ else _) = _; rw [if_neg e1, if_pos e2]
        rw [this] at q; simp at q
      · have : A' i = A i := by show (if i = c.length then _ else _) = _; rw [if_neg e1, if_neg e2]
        rw [this] at q; exact .inr ⟨e1, e2, q⟩
  have sub : ∀ a, (∃ i, a ∈ A' i) → ∃ i, a ∈ A i := fun a ⟨i, q⟩ => (hA i a q).elim (fun z => ⟨_, z.2⟩) fun z => ⟨i, z.2.2⟩
  have hv2 : ∀ m, Ext (view F A B m H) (view F A' B m H) := fun m => hid_ext (fun a o _ q => by
    cases m
    · rcases q with (q | q) | q
      · exact .inl (.inl q)
      · exact .inl (.inr (sub a q))
      · exact .inr q
    · exact q.imp id (sub a)
    · exact q) fun _ _ _ q => q
  refine ⟨v, hv, A', B, by simp [hl], fun i => ?_, fun t ht => SP.mono _ (hv2 _) (h.tm t ht), fun i k a p q => ?_, fun i a q => ?_, h.iq, h.fr, fun a q r => h.ni a (q.imp id (sub a)) r, h.st, h.gb, h.gh⟩
  · by_cases e1 : i = c.length
    · subst e1
      unfold slOk
      have e2 : ((c.set j .un) ++ [Sl.ow p])[c.length]? = some (.ow p) := by simp
      rw [e2]
      have ea : A' c.length = A j := if_pos rfl
      rw [ea]
      exact ⟨v, by rw [hl]; simp, OP.frame _ (fun _ _ => rfl) (hv2 _) hp⟩
    · by_cases e2 : i = j
      · subst e2
        unfold slOk
        have e3 : ((c.set i .un) ++ [Sl.ow p])[i]? = some .un := by rw [List.getElem?_append_left (by simpa using hj), List.getElem?_set_self hj]
        rw [e3]
        show (if i = c.length then _ else _) = _
        rw [if_neg e1, if_pos rfl]
      · have ea : A' i = A i := by show (if i = c.length then _ else _) = _; rw [if_neg e1, if_neg e2]
        have e3 : ((c.set j .un) ++ [Sl.ow p])[i]? = c[i]? := by
          by_cases hlt : i < c.length
          · rw [List.getElem?_append_left (by simpa using hlt), List.getElem?_set_ne (fun z => e2 z.symm)]
          · rw [List.getElem?_eq_none (l := c) (by omega), List.getElem?_eq_none (by simp; omega)]
        exact (h.sl i).mono e3 (fun w z => by rw [List.getElem?_append_left (List.getElem?_eq_some_iff.mp z).1]; exact z) ea (fun _ _ => rfl) hv2
  · rcases hA i a p with ⟨e1, p1⟩ | ⟨n1, n2, p1⟩ <;> rcases hA k a q with ⟨e2, q1⟩ | ⟨n3, n4, q1⟩
    · rw [e1, e2]
    · exact absurd (h.dj _ _ a p1 q1) (fun z => n4 z.symm)
    · exact absurd (h.dj _ _ a p1 q1) n2
    · exact h.dj _ _ a p1 q1
  · rcases hA i a q with ⟨_, q⟩ | ⟨_, _, q⟩ <;> exact h.db _ a q
/-- x = y, y owned: y is forgotten -/
theorem sw_move {i j : Nat} {p : OP} {W : Prop} (k : SW F ((c.set j .un).set i (.ow p)) T tr D W) (e : c[j]? = some (.ow p) := by rfl) (hi : i < c.length := by exact Nat.le_of_ble_eq_true rfl) : SW F c T (tSeq (tAsg (tVar j) (gName i)) tr) D W := fun nb w σ H hd => by
  obtain ⟨v, hv, h2⟩ := hd.take e
  exact ⟨v, hv, k nb w _ H (h2.bring (by simpa using hi))⟩
theorem sw_lk' {d : DTp κ α} {W : Prop} (i : Nat) (h : SW F (c.set i (.sh m ((rDF R).at d))) T t D W) (e : c[i]? = some (.ow (oDT m R d)) := by rfl) (hnb : ctxNB c = true := by rfl) (hm : m ≠ .b := by decide) : SW F c T (tLk t) D W := fun nT w σ H ⟨A, B, hd⟩ => by
  have q := hd.sl i
  unfold slOk at q
  rw [e] at q
  obtain ⟨v, hv, l, ks, e0, e1, e2, e3⟩ := q
  refine ⟨l, _, e2, trivial, fun od => ?_⟩
  have h2 : HdA F (c.set i (.ow (oDF m R d))) T σ (upd H l (.frz od (.dT ks))) A B := HdA.mutate (A' := A i) hd nT hnb e (fun a ha => ha) (fun a ha => upd_ne fun z => ha (by rw [e0, z]; simp)) fun hv2 w hw => by
    rw [hv] at hw
    cases hw
    exact ⟨l, od, ks, e0, e1, upd_same, pKT.mono (hv2 m hm) e3⟩
  have hi : i < c.length := (List.getElem?_eq_some_iff.mp e).1
  have h3 := HD.freeze (p := oDF m R) (x := d) ⟨A, B, h2⟩ (List.getElem?_set_self hi)
  rw [List.set_set] at h3
  exact h nT w _ _ h3
end
theorem un3 {k : Nat} {A : Around} (r : Room k A) : A.units + 3 < cLine := by have := r.un; omega
theorem pss_lk {X : Cx} {b : List Stmt} {t : TS} (h : PSs X b t) : PSs X b (tLk t) := by
  refine ⟨fun pins s σ H D I hw => ?_⟩
  obtain ⟨d, u, hd, mu, hw⟩ := hw
  obtain ⟨od, I1⟩ := I.lock hd mu
  exact h.run pins s σ _ _ I1 (hw od)
end TW

set_option maxRecDepth 100000
set_option maxHeartbeats 2000000
/-! ## 45. x[i], y = a, b -/
namespace TW
open PySem PySem.Spec PyProof.Rows L2
section
variable {F : Fm} {c : Ctx} {T : List Tm} {σ : Sg} {H : Hp} {D : Ends} {α β : Type} {R : Rp α} {R2 : Rp β} {m m1 m2 m3 m4 : Md} {to ti t1 t2 : TE} {tr : TS} {K : PySem.W.Frag}
theorem sw_subn {i i2 : Nat} {S1 : Prop} {xs : List α} {up : List α → OP} {Wa : (α → Prop) → Prop} {Wb : α → (β → Prop) → Prop} {Wk : (Int → Prop) → Prop} {Wr : α → β → List α → Prop}
    (he1 : EW c t1 m R Wa) (he2 : ∀ x, EW c t2 m2 R2 (Wb x)) (lv1 : LV c to i S1 m (oList m R) xs up) (hk1 : EW c ti m3 rInt Wk)
    (k : ∀ x y v, SW F ((c.set i (.ow (up v))).set i2 (.sh m2 (R2.at y))) T tr D (Wr x y v)) (hnb : ctxNB c = true := by rfl) (hm : m ≠ .b := by decide) (hm2 : m2 ≠ .b := by decide) (hi2 : ∀ v, isFree (c.set i (.ow (up v))) i2 = true := by intro _; rfl) :
    SW F c T (tSeq (tAsg (tTup (tCons t1 (tCons t2 tNil))) (gTup K 2 (gCons (gSub to ti rSetL) (gCons (gName i2) gNil)))) tr) D
      (Wa fun x => Wb x fun y => S1 ∧ Wk fun j => InB xs.length j ∧ ∀ v, v = setI xs j x → Wr x y v) :=
  fun nT w σ H hd => he1 _ w T σ H hd _ fun x vx H1 px h1 => he2 x _ px _ σ H1 h1 _ fun y vy H2 py ⟨A, B, q⟩ => by
  refine ⟨(by show 2 ≤ sizeLine; decide), fun l hl => ⟨l, [vx, vy], rfl, SqT.of upd_same, rfl, vx, [vy], rfl, ?_⟩⟩
  have nT2 : NoB (⟨vy, m2, R2.at y⟩ :: T) := fun t ht => by
    rcases List.mem_cons.mp ht with rfl | h
    · exact hm2
    · exact nT t h
  refine gsub_run lv1 hk1 hnb hm nT2 (T := ⟨vy, m2, R2.at y⟩ :: T) (x := x) ⟨A, B, (q.alloc hl).sub fun t ht => ?_⟩ py.1 py.2 (fun j H3 pj h3 => ?_) (fun j pj => pj.1)
  · simp only [List.mem_cons] at ht ⊢
    rcases ht with h | h | h
    · exact .inr (.inl h)
    · exact .inl h
    · exact .inr (.inr h)
  · exact ⟨vy, [], rfl, rfl, k x y _ nT (pj.2 _ rfl) _ _ (h3.setTop (hi2 _))⟩
end
end TW

set_option maxRecDepth 100000
set_option maxHeartbeats 2000000
/-! a op1 b op2 c of ints -/
namespace TW
open PySem PySem.Spec PyProof.Rows L2
section
variable {c : Ctx} {ta tb tc : TE} {m1 m2 m3 : Md}
theorem ep_chainI {g g' : Int → Int → Bool} {Sa Sb Sc : Prop} {a b d : Int} (ha : EP c ta m1 rInt Sa a) (hb : EP c tb m2 rInt Sb b) (hc : EP c tc m3 rInt Sc d) :
    EP c (tChain (rI0 fun i j => .bl (g i j)) (rI0 fun i j => .bl (g' i j)) ta tb tc) .n rBool (Sa ∧ Sb ∧ Sc) (g a b && g' b d) := fun s T σ H hd Q k =>
  ha s.1 T σ H hd _ fun x H1 h1 => hb s.2.1 _ σ H1 h1 _ fun y H2 h2 => by
    obtain ⟨A, B, h⟩ := h2
    refine ⟨a, b, h.hd2, h.hd, g a b, rfl, ?_⟩
    cases e : g a b with
    | true =>
      simp only [if_true]
      refine hc s.2.2 _ σ H2 ⟨A, B, h⟩ _ fun w H4 ⟨A', B', h4⟩ => ⟨b, d, h4.hd2, h4.hd, ?_⟩
      refine k _ H4 (HD.push h4.tl.tl.tl ?_)
      show V.bl _ = V.bl _
      rw [e]; rfl
    | false =>
      simp only [if_false, Bool.false_eq_true]
      refine k _ H2 (HD.push h.tl.tl ?_)
      show V.bl _ = V.bl _
      rw [e]; rfl
end
end TW

set_option maxRecDepth 100000
set_option maxHeartbeats 4000000
/-! ## 36. a dict of the module that holds defs by texts -/
namespace TW
open PySem PySem.Spec PyProof.Rows L2
def TabOk (K : PySem.W.Frag) (w : World) (mg : Str → Option Value) (x : Str) (names : List Str) (tab : List (Str × Nat)) (a : Addr) : Prop :=
  mg x = some (.ref a) ∧ ∀ q ∈ tab, ∃ f, mg (nth names q.2) = some (.ref f) ∧ KDct K w a q.1 (.ref f)
def tabAt (tab : List (Str × Nat)) (x : Str) : Nat := (tab.lookup x).getD 0
theorem tab_mem : ∀ {tab : List (Str × Nat)} {x : Str}, x ∈ tab.map (·.1) → (x, tabAt tab x) ∈ tab
  | [], x, h => by cases h
  | (y, n) :: r, x, h => by
    unfold tabAt
    rw [List.lookup_cons]
    cases q : (x == y) with
    | true =>
      have := eq_of_beq q
      subst this
      exact List.mem_cons_self
    | false =>
      have h2 : x ∈ r.map (·.1) := by
        rcases List.mem_cons.mp h with h | h
        · exfalso
          rw [h] at q
          simp at q
        · exact h
      exact List.mem_cons_of_mem _ (tab_mem h2)
section
variable {c : Ctx} {m m1 : Md} {K : PySem.W.Frag} {w : World} {mg : Str → Option Value} {names : List Str} {te : TE}
theorem ep_tab {x : Str} {tab : List (Str × Nat)} {a : Addr} {S : Prop} {z : Str} (h : TabOk K w mg x names tab a) (hx : EP c te m1 rStr S z) :
    EP c (tOp (rIxD K w) (tC (.ref a)) te) m (rGl mg names) (S ∧ z ∈ tab.map (·.1)) (tabAt tab z) := fun s T σ H hd Q k => hx s.1 T σ H hd _ fun v H' ⟨A, B, hd2⟩ => by
  obtain ⟨f, hm, hk⟩ := h.2 _ (tab_mem s.2)
  exact ⟨a, z, .ref f, rfl, hd2.hd, hk, k _ _ (HD.push hd2.tl (p := (rGl mg names).at _) ⟨f, rfl, hm⟩)⟩
end
/-! the head -/
/-- a table: its name, its keys with the names of the defs -/
abbrev TabD : Type := Str × List (Str × Str)
def tabT (ts : List TabD) : List He.Tab := ts.map fun t => (fun K => He.ga K t.1, t.2.map (·.1))
def tabV (ts : List TabD) (K : PySem.W.Frag) : Bool := ts.all fun t => He.valsB K (He.ga K t.1) (t.2.map fun q => (q.1, He.Dv.glo q.2))
abbrev AlXT : Type := (Bool × Bool) × He.AlT
def obsXT (ex : List (Str × String)) (fa : List He.Fa) (fn : List He.DefD) (ts : List TabD) (K : PySem.W.Frag) : AlXT := ((extOk ex K, tabV ts K), He.obsT fa fn (tabT ts) K)
def SaysXT (ex : List (Str × String)) (fa : List He.Fa) (fn : List He.DefD) (ts : List TabD) (w : World) (K : PySem.W.Frag) : Prop := obsXT ex fa fn ts K = ((true, true), He.valT fn (tabT ts) w)
def obsXTG (n : Nat) (ex : List (Str × String)) (fa : List He.Fa) (fn : List He.DefD) (ts : List TabD) (g : Addr → Option Obj) : AlXT := obsXT ex fa fn ts (He.frG g (He.asD g n))
def hookXT (n : Nat) (ex : List (Str × String)) (fa : List He.Fa) (fn : List He.DefD) (ts : List TabD) : PySem.W.Hook where
  α := AlXT
  obs := fun s => obsXTG n ex fa fn ts s.heap.get?
  val := fun w => ((true, true), He.valT fn (tabT ts) w)
  says := fun w h => ∃ K : PySem.W.Frag, K.In h ∧ SaysXT ex fa fn ts w K
  of := fun _ _ e => ⟨_, He.frG_in, e⟩
  keeps := fun _ _ _ ⟨K, hK, c⟩ k => ⟨K, PySem.W.Frag.In.keeps hK k, c⟩
theorem obsXTG_eq {n : Nat} {ex : List (Str × String)} {fa : List He.Fa} {fn : List He.DefD} {ts : List TabD} {g : Addr → Option Obj} {s : Shared} (h : ∀ a, g a = s.heap.get? a) : obsXTG n ex fa fn ts g = (hookXT n ex fa fn ts).obs s := by
  have e : g = s.heap.get? := funext h
  rw [e]; rfl
section
variable {ex : List (Str × String)} {fa : List He.Fa} {fn : List He.DefD} {ts : List TabD} {K : PySem.W.Frag} {h : Heap} {mg : Str → Option Value} {w : World}
theorem SaysXT.x (c : SaysXT ex fa fn ts w K) : SaysX ex fa fn K := by
  have c1 : extOk ex K = true := congrArg (fun z : AlXT => z.1.1) c
  have c2 : He.SaysT fa fn (tabT ts) w K := congrArg (fun z : AlXT => z.2) c
  show (extOk ex K, He.obsD fa fn K) = (true, He.valD fn)
  rw [c1, show He.obsD fa fn K = He.valD fn from c2.d]
theorem SaysXT.tb (c : SaysXT ex fa fn ts w K) (X : K.In h) (G : h.Ns mainGlobals mg) (i j : Nat) {x : Str} {kvs : List (Str × Str)} (e : ts[i]? = some (x, kvs) := by rfl) (g : fa[j]? = some (.glo x) := by rfl)
    {names : List Str} {tab : List (Str × Nat)} (hn : ∀ q ∈ tab, (q.1, nth names q.2) ∈ kvs) (hg : ∀ q ∈ tab, mg (nth names q.2) = some (.ref (He.ga K (nth names q.2)))) : TabOk K w mg x names tab (He.ga K x) := by
  have c1 : tabV ts K = true := congrArg (fun z : AlXT => z.1.2) c
  have c2 : He.SaysT fa fn (tabT ts) w K := congrArg (fun z : AlXT => z.2) c
  have c3 := List.all_eq_true.mp c1 _ (List.mem_of_getElem? e)
  obtain ⟨es, n, hd⟩ := c2.tab i (t := (fun K => He.ga K x, kvs.map (·.1))) (by unfold tabT; rw [List.getElem?_map, e]; rfl)
  refine ⟨He.glo_ok X G (c.x.d.fact j g), fun q hq => ⟨_, hg q hq, ?_⟩⟩
  obtain ⟨u, hu, ru⟩ := He.valsB_ok c3 (q := (q.1, He.Dv.glo (nth names q.2))) (List.mem_map.mpr ⟨_, hn q hq, rfl⟩)
  exact ⟨es, n, u, hd.1, hd.2, hu, ru⟩
end
end TW

set_option maxRecDepth 100000
set_option maxHeartbeats 4000000
/-! ## 38. set(xs) of a list of ints, sorted(set(xs)) -/
namespace TW
open PySem PySem.Spec PyProof.Rows L2
/-- a set as it is made -/
abbrev nSet (w : World) : Obj := { cls := .type "set", dict := none, data := .set #[] 0 (.fresh 0 0 (!w.params.followText "set-order")) }
/-- what is told behind -/
abbrev SetTold (w : World) (s : Shared) (ns : List Int) (r : Value) (s2 : Shared) : Prop :=
  r = .none ∧ ∃ g tk k, s2 = { s with heap := g, toks := tk } ∧ SetR w g s.heap.objs.size (fun j => decide (j ∈ ns)) k ∧ k ≤ ns.length ∧ ∀ b o, s.heap.get? b = some o → g.get? b = some o
section
variable {P : Program} {w : World} {A : Around} {E : Value → Shared → Prop} {s : Shared}
set_option maxHeartbeats 8000000 in
theorem set_of_list {l : Addr} {xs : Array Value} (ns : List Int) {Q : Value → Shared → Prop} (hA : A.handled = none) (hl : s.heap.IsList l xs) (hi : IntsAre xs.toList ns) (hb : ns.length + 1 < scanBound)
    (h : ∀ (g : Heap) (tk k : Nat), SetR w g s.heap.objs.size (fun j => decide (j ∈ ns)) k → k ≤ ns.length → (∀ b o, s.heap.get? b = some o → g.get? b = some o) → Q (.ref s.heap.objs.size) { s with heap := g, toks := tk }) :
    wpAny (model P w) A (call (.type "set") [.ref l]) Q E s := by
  have xsz : xs.size = ns.length := by have := hi.length; rwa [Array.length_toList] at this
  obtain ⟨_, _, hmro⟩ := F.called_set.mro
  have a1 := F.called_set.made
  have a2 := F.called_set.sub
  refine wpAny_call (codeAny_of_tree ?_)
  show wpAny _ _ (callAny (.type "set") _) _ _ _
  refine wpAny_pure ⟨Code.quiet_builtin _ (by decide +kernel), codeAny_builtin F.entry_type_call ?_⟩
  rw [Around.under_plain (weight_type_call_type "set" [.ref l] []) rfl]
  have a3 := F.called_set.notType
  have a4 := F.called_set.canCreate
  have a5 := F.typeCall_set_1 (.ref l)
  repeat (any_goals (first | assumption | wp_step))
  refine codeAny_mono (code_set_led1 (.ref l) (E := E) (Q₁ := fun ob s1 => ob = .ref s.heap.objs.size ∧ s1 = { s with heap := s.heap.push (nSet w) }) ⟨rfl, rfl⟩) fun r s1 hr => ?_
  cases r with
  | error _ => exact hr
  | ok f1 =>
    cases f1 with
    | ret ob =>
      obtain ⟨rfl, rfl⟩ := hr
      have b1 : (s.heap.push (nSet w)).get? s.heap.objs.size = some (nSet w) := Heap.get?_push_size _ rfl
      have b2 : Shared.TypeIs { s with heap := s.heap.push (nSet w) } (.ref s.heap.objs.size) "set" := ⟨_, b1, rfl⟩
      have a6 := F.called_set.init.lookup
      have a7 := F.called_set.init.bind (.ref s.heap.objs.size)
      repeat (any_goals (first | assumption | wp_step))
      refine codeAny_mono (codeAny_call_builtin (R := wants (SetTold w s ns) E) F.called_set.init.plain F.entry_set_init (check_set_init_1 b2 ?_)) fun r2 s2 h2 => ?_
      · obtain ⟨o, ho, hc, n, hd⟩ := hl
        obtain ⟨oc, od, dt, sl⟩ := o
        simp only at hc hd
        subst hc; subst hd
        have c1 : (s.heap.push (nSet w)).get? l = some { cls := .type "list", dict := od, data := .seq xs n, slots := sl } := Heap.get?_push_of_some _ ho
        have c2 := F.sub_list_set
        have c3 := F.sub_list_frozenset
        have c4 : (Value.type "list" == Value.type "dict") = false := by decide
        have c5 : (s.heap.push (nSet w)).IsList l xs := ⟨_, c1, rfl, n, rfl⟩
        unfold Builtin.«set.__init__» noKeywords Builtin.Frozenset.updateFrom
        generalize hG : pyIter = G
        wp_walk
        subst hG
        refine wpAny_pyIter_list c5 ?_
        refine wpAny_bind (wpAny_runValue ?_)
        have l0 : l < s.heap.objs.size := Heap.lt_size ho
        have h3 : A.in1.in1.in1.handled = none := by simp [hA]
        have l1 : l ≠ (s.heap.push (nSet w)).objs.size := by rw [Heap.size_push]; exact Nat.ne_of_lt (Nat.lt_succ_of_lt l0)
        have l2 : s.heap.objs.size ∉ [(s.heap.push (nSet w)).objs.size, l] := by
          rw [Heap.size_push]
          simp only [List.mem_cons, List.mem_singleton, List.not_mem_nil, or_false, not_or]
          exact ⟨Nat.ne_of_lt (Nat.lt_succ_self _), Nat.ne_of_gt l0⟩
        have l3 : ∀ (i : Nat) (v : Value), xs[i]? = some v → ∃ k t, ns[i]? = some k ∧ v = .int k t := fun i v hv => by
          have z : i < ns.length := by rw [← xsz]; exact (Array.getElem?_eq_some_iff.mp hv).1
          obtain ⟨t, e⟩ := IntsAre.int_at hi i v (by rw [Array.getElem?_toList]; exact hv)
          exact ⟨ns[i], t, List.getElem?_eq_getElem z, by rw [e, List.getD_eq_getElem?_getD, List.getElem?_eq_getElem z]; rfl⟩
        refine set_update_ints ((Walks.list h3 _ l l1 xs).toS) s.heap.objs.size l2 ns xsz hb l3 (xs.size - 0) 0 _ (by omega) (Nat.zero_le _) ⟨⟨_, Heap.get?_push_size _ rfl, rfl, rfl⟩, (c5.push _)⟩ ⟨0, Nat.le_refl 0, setR_new_at (Heap.get?_push_of_some _ b1)⟩ ?_
        intro t k hm hk hS
        obtain ⟨g, q2, q3, q4, q5⟩ := t
        have e1 : q2 = s.gens := hm.gens
        have e2 : q3 = s.drawn := hm.drawn
        have e3 : q5 = s.os := hm.os
        subst e1; subst e2; subst e3
        show wpAny _ _ _ _ _ _
        refine wpAny_pure ?_
        show wpAny _ _ (ret Value.none) _ _ _
        rw [xsz] at hk
        refine wpAny_pure ⟨rfl, g, q4, k, rfl, hS, hk, fun b o e => ?_⟩
        have y0 : b < s.heap.objs.size := Heap.lt_size e
        refine hm.heap b o ?_ (Heap.get?_push_of_some _ (Heap.get?_push_of_some _ e))
        rw [Heap.size_push]
        simp only [List.mem_cons, List.mem_singleton, List.not_mem_nil, or_false, not_or]
        exact ⟨Nat.ne_of_lt y0, Nat.ne_of_lt (Nat.lt_succ_of_lt y0)⟩
      · cases r2 with
        | error _ => exact h2
        | ok f2 =>
          cases f2 with
          | ret r =>
            obtain ⟨rfl, g, tk, k, rfl, hS, hk, hg⟩ := h2
            repeat (any_goals (first | assumption | wp_step))
            exact h _ _ _ hS hk hg
          | _ => exact h2.elim
    | _ => exact hr.elim
end
/-- the members of a list, ascending, each once -/
def sins (x : Int) : List Int → List Int
  | [] => [x]
  | y :: ys => if x < y then x :: y :: ys else if x = y then y :: ys else y :: sins x ys
@[irreducible] def sset (xs : List Int) : List Int := xs.foldr sins []
theorem sins_mem (x z : Int) : ∀ ys : List Int, z ∈ sins x ys ↔ z = x ∨ z ∈ ys
  | [] => by simp [sins]
  | y :: ys => by
    unfold sins
    split
    · simp
    · split
      · rename_i e
        subst e
        simp
      · rw [List.mem_cons, sins_mem x z ys, List.mem_cons]
        constructor
        · rintro (h | h | h)
          · exact .inr (.inl h)
          · exact .inl h
          · exact .inr (.inr h)
        · rintro (h | h | h)
          · exact .inr (.inl h)
          · exact .inl h
          · exact .inr (.inr h)
theorem sins_up (x : Int) : ∀ {ys : List Int}, ys.Pairwise (· < ·) → (sins x ys).Pairwise (· < ·)
  | [], _ => by simp [sins]
  | y :: ys, h => by
    unfold sins
    rw [List.pairwise_cons] at h
    split
    · rename_i l
      rw [List.pairwise_cons, List.pairwise_cons]
      refine ⟨fun z hz => ?_, h⟩
      rcases List.mem_cons.mp hz with rfl | hz
      · exact l
      · have := h.1 z hz; omega
    · split
      · exact List.pairwise_cons.mpr h
      · rename_i l1 l2
        rw [List.pairwise_cons]
        refine ⟨fun z hz => ?_, sins_up x h.2⟩
        rcases (sins_mem x z ys).mp hz with rfl | hz
        · omega
        · exact h.1 z hz
theorem sset_eq (xs : List Int) : sset xs = xs.foldr sins [] := by unfold sset; rfl
theorem sset_mem {xs : List Int} {z : Int} : z ∈ sset xs ↔ z ∈ xs := by
  rw [sset_eq]
  induction xs with
  | nil => simp
  | cons x xs ih => rw [List.foldr_cons, sins_mem, ih, List.mem_cons]
theorem sset_up (xs : List Int) : (sset xs).Pairwise (· < ·) := by
  rw [sset_eq]
  induction xs with
  | nil => exact .nil
  | cons x xs ih => rw [List.foldr_cons]; exact sins_up x ih
theorem up_uniq : ∀ {xs ys : List Int}, xs.Pairwise (· < ·) → ys.Pairwise (· < ·) → (∀ z, z ∈ xs ↔ z ∈ ys) → xs = ys
  | [], [], _, _, _ => rfl
  | [], y :: ys, _, _, h => by have := (h y).mpr List.mem_cons_self; cases this
  | x :: xs, [], _, _, h => by have := (h x).mp List.mem_cons_self; cases this
  | x :: xs, y :: ys, hx, hy, h => by
    rw [List.pairwise_cons] at hx hy
    have e : x = y := by
      have h1 := (h x).mp List.mem_cons_self
      have h2 := (h y).mpr List.mem_cons_self
      rcases List.mem_cons.mp h1 with h1 | h1
      · exact h1
      · rcases List.mem_cons.mp h2 with h2 | h2
        · exact h2.symm
        · have := hx.1 y h2; have := hy.1 x h1; omega
    subst e
    congr 1
    refine up_uniq hx.2 hy.2 fun z => ?_
    constructor
    · intro hz
      have := (h z).mp (List.mem_cons_of_mem _ hz)
      rcases List.mem_cons.mp this with e | h'
      · have := hx.1 z hz; omega
      · exact h'
    · intro hz
      have := (h z).mpr (List.mem_cons_of_mem _ hz)
      rcases List.mem_cons.mp this with e | h'
      · have := hy.1 z hz; omega
      · exact h'
abbrev rSetL (K : PySem.W.Frag) (w : World) : List V → Hp → VK → Prop := fun xs H Q => ∃ (l : Addr) (ns : List Int), xs = [V.ref l] ∧ SqL K H l (ns.map V.int) ∧ ns.length + 1 < 4096 ∧ ∀ p k, H p = none → k ≤ ns.length → Q (.ref p) (upd H p (SetO w p (fun j => decide (j ∈ ns)) k))
theorem cr_setL {X : Cx} (hc : X.calm = true) : CallR X (.type "set") (rSetL X.K X.w) := by
  intro pins s σ H xs us Q I r h
  obtain ⟨l, ns, rfl, hq, hb, q⟩ := h
  rw [Vals.ref1 r]
  obtain ⟨its, rv, pl, hz⟩ := I.list hq
  refine set_of_list ns (I.ok.hd hc) pl.isList (by simpa using rv.ints) hb fun g tk k hS hk hg => ?_
  have hsz : s.heap.objs.size < g.objs.size := hS.lt
  exact ⟨.ref _, upd H s.heap.objs.size (SetO X.w s.heap.objs.size (fun j => decide (j ∈ ns)) k), I.laid (t' := tk) hg (Nat.le_refl _) (setO_new hS), rfl, q _ k (I.hok.fresh (Nat.le_refl _)) hk⟩
theorem int_vs : ∀ {vs : List V} {xs : List Int} {H : Hp}, Paired (rInt.r H) vs xs → vs = xs.map V.int
  | _, _, _, .nil => rfl
  | _, _, _, .cons h t => by rw [show _ = _ from h, int_vs t]; rfl
theorem int_pr (H : Hp) : ∀ xs : List Int, Paired (rInt.r H) (xs.map V.int) xs
  | [] => .nil
  | x :: xs => .cons rfl (int_pr H xs)
section
variable {c : Ctx} {m : Md} {K : PySem.W.Frag} {w : World} {te : TE}
theorem eo_srtSet {W : (List Int → Prop) → Prop} (h : EW c te m (rList rInt) W) : EO c (tCB (rSortedSet w) (tCons (tCB (rSetL K w) (tCons te tNil)) tNil)) (oList .n rInt) (fun P => W fun xs => xs.length < 64 ∧ P (sset xs)) :=
  fun P wp T σ H hd Q k => h _ wp T σ H hd _ fun xs v H1 px ⟨A, B, q⟩ => by
  obtain ⟨l, vs, e, h1, h2⟩ := (show (rList rInt).r (view _ A B m H1) v xs from q.hd)
  have hv := int_vs h2
  refine ⟨l, xs, by rw [e], by rw [← hv]; exact SqL.of (view_full _ _ h1), by have := px.1; omega, fun p kk hp hk => ?_⟩
  refine ⟨p, _, kk, rfl, upd_same, by have := px.1; omega, fun ns p2 hs hm hl hp2 => ?_⟩
  have en : ns = sset xs := up_uniq hs (sset_up xs) fun z => by rw [hm z, sset_mem]; simp
  rw [en]
  exact k (sset xs) _ _ px.2 ((q.tl.grow (Ext.new hp)).allocO (m := .n) (R := rInt) hp2 (int_pr _ _))
theorem eo_srtSetP {S : Prop} {xs : List Int} (h : EP c te m (rList rInt) S xs) : EOP c (tCB (rSortedSet w) (tCons (tCB (rSetL K w) (tCons te tNil)) tNil)) (oList .n rInt) (S ∧ xs.length < 64) (sset xs) := fun P wp T σ H hd Q k =>
  eo_srtSet h.w P ⟨wp.1.1, wp.1.2, wp.2⟩ T σ H hd Q k
end
end TW

set_option maxRecDepth 100000
set_option maxHeartbeats 4000000
/-! ## 39. reversed(a tuple, a list); keys put together -/
namespace TW
open PySem PySem.Spec PyProof.Rows L2
theorem walk_revT {K : PySem.W.Frag} {a : Addr} {xs : List V} : L2.Walk (RT.ItvT K a xs.length) xs.length (fun H => SqT K H a xs) (fun i H x H' => H' = H ∧ xs[xs.length - 1 - i]? = some x) :=
  ⟨fun i _ hi q => ⟨hi, xs, xs[xs.length - 1 - i]'(by omega), q, List.getElem?_eq_getElem (by omega)⟩, fun _ _ => Nat.le_refl _, fun _ _ _ _ _ q y => ⟨y.1, y.2 xs q⟩⟩
section
variable {β : Type} {c : Ctx} {m m1 m2 : Md} {Rb : Rp β} {K : PySem.W.Frag} {te ta tb : TE}
theorem iw_revT {W : (List β → Prop) → Prop} (h : EW c te m (rTup K Rb) W) : IW c (RT.iRevA K te) m Rb (fun P => W fun xs => P xs.reverse) := fun P w T σ H hd Kk k =>
  h _ w T σ H hd _ fun xs v H' pn ⟨A, B, q⟩ => by
    obtain ⟨l, vs, e, hl, hs, q2⟩ := q.asTup
    refine ⟨l, vs, e, .inr ⟨hs, k xs.reverse _ _ H' pn ?_ ⟨A, B, q2⟩⟩⟩
    refine itO_of (walk_revT (xs := vs)) (by rw [List.length_reverse]; exact hl) (fun t h => List.mem_cons_of_mem _ h) (fun hm n => nob_cons hm n) (fun F c T2 σ H s ⟨A, B, hd⟩ => (hd.pt (s _ (List.mem_cons_self))).1) fun F c T2 σ H s ⟨A, B, hd⟩ i hi x H' ⟨e1, e2⟩ => ?_
    subst e1
    rw [List.length_reverse] at hi
    have z := pget' (hd.pt (K := K) (s _ List.mem_cons_self)).2 (i := xs.length - 1 - i) (by omega) (by rw [← hl]; exact e2)
    refine HD.push hd (p := Rb.at _) ?_
    show Rb.r _ x (xs.reverse[i])
    rw [List.getElem_reverse]
    exact z
theorem iw_revTP {S : Prop} {xs : List β} (h : EP c te m (rTup K Rb) S xs) : IWP c (RT.iRevA K te) m Rb S xs.reverse := iw_revT h.w
theorem iw_revL {W : (List β → Prop) → Prop} (h : EW c te m (rList Rb) W) : IW c (RT.iRevA K te) m Rb (fun P => W fun xs => P xs.reverse) := fun P w T σ H hd Kk k =>
  h _ w T σ H hd _ fun xs v H' pn ⟨A, B, q⟩ => by
    obtain ⟨l, vs, e, hl, hs, q2⟩ := q.asList (K := K)
    refine ⟨l, vs, e, .inl ⟨hs, k xs.reverse _ _ H' pn ?_ ⟨A, B, q2⟩⟩⟩
    refine itO_of (walk_rev (xs := vs)) (by rw [List.length_reverse]; exact hl) (fun t h => List.mem_cons_of_mem _ h) (fun hm n => nob_cons hm n) (fun F c T2 σ H s ⟨A, B, hd⟩ => (hd.pl (s _ (List.mem_cons_self))).1) fun F c T2 σ H s ⟨A, B, hd⟩ i hi x H' ⟨e1, e2⟩ => ?_
    subst e1
    rw [List.length_reverse] at hi
    have z := pget' (hd.pl (K := K) (s _ List.mem_cons_self)).2 (i := xs.length - 1 - i) (by omega) (by rw [← hl]; exact e2)
    refine HD.push hd (p := Rb.at _) ?_
    show Rb.r _ x (xs.reverse[i])
    rw [List.getElem_reverse]
    exact z
theorem iw_revLP {S : Prop} {xs : List β} (h : EP c te m (rList Rb) S xs) : IWP c (RT.iRevA K te) m Rb S xs.reverse := iw_revL h.w
theorem ep_kcat {Sa Sb : Prop} {a b : List Int} (ha : EP c ta m1 (rKy (κ := List Int)) Sa a) (hb : EP c tb m2 (rKy (κ := List Int)) Sb b) : EP c (tOp (rCatA K) ta tb) .n (rKy (κ := List Int)) (Sa ∧ Sb ∧ a.length + b.length ≤ 100000) (a ++ b) := fun s T σ H hd Q k =>
  ha s.1 T σ H hd _ fun x H1 h1 => hb s.2.1 _ σ H1 h1 _ fun y H2 ⟨A, B, h2⟩ => by
    obtain ⟨l, ex, el⟩ := (show (rKy (κ := List Int)).r (view _ A B m1 H2) x a from h2.hd2)
    obtain ⟨l', ey, el'⟩ := (show (rKy (κ := List Int)).r (view _ A B m2 H2) y b from h2.hd)
    rw [Ky.kv] at el el'
    have vis : ∀ {l : Addr} {xs : List V}, H2 l = some (.tup xs) → view _ A B .n H2 l = some (.tup xs) := fun {l xs} z => view_some.mpr ⟨h2.vis (m := .n) (fun ⟨u, w, n⟩ => by rw [z] at w; cases w; exact n), z⟩
    refine ⟨l, l', _, _, ex, ey, SqT.of (view_full _ _ el), SqT.of (view_full _ _ el'), Nat.le_trans (by simp only [List.length_map, Ky.enc]; exact s.2.2) (by decide), fun z => k _ _ (HD.push h2.tl.tl (p := (rKy (κ := List Int)).at _) ⟨l', rfl, ?_⟩), fun _ z => k _ _ (HD.push h2.tl.tl (p := (rKy (κ := List Int)).at _) ⟨l, rfl, ?_⟩), fun _ _ p hp => k _ _ (HD.push (h2.tl.tl.alloc hp) (p := (rKy (κ := List Int)).at _) ⟨p, rfl, ?_⟩)⟩
    · have : a = [] := by simpa [Ky.enc] using z
      subst this
      rw [Ky.kv]; exact vis (view_full _ _ el')
    · have : b = [] := by simpa [Ky.enc] using z
      subst this
      rw [List.append_nil, Ky.kv]; exact vis (view_full _ _ el)
    · rw [h2.tl.tl.fresh hp, Ky.kv]
      simp [Ky.enc]
end
end TW

set_option maxRecDepth 100000
set_option maxHeartbeats 4000000
/-! ## 40. list(zip(xs, ys)) of two lists -/
namespace TW
open PySem PySem.Spec PyProof.Rows L2
theorem zip_no_len : typeLookup (.type "zip") "__len__" = pure none := by rw [typeLookup_type, builtinLookup_eq_fast]; kernel_rfl
theorem zip_no_hint : typeLookup (.type "zip") "__length_hint__" = pure none := by rw [typeLookup_type, builtinLookup_eq_fast]; kernel_rfl
def LsAt (h : Heap) (S : Addr) (acc : Array Value) (c : Nat) : Prop := h.get? S = some { cls := .type "list", dict := none, data := .seq acc c, slots := #[] }
section
variable {prog : Program} {w : World} {A : Around} {E : Value → Shared → Prop} {s : Shared}
/-- list(z): the loop that is left -/
theorem call_list_zip {z TI TO : Addr} {f0 : Value} {Q : Value → Shared → Prop} (hz : IsZip s.heap z TI TO f0)
    (hl : ∀ h2 c, LsAt h2 s.heap.objs.size #[] c → (∀ b o, s.heap.get? b = some o → h2.get? b = some o) →
      codeAny (model prog w) A.in1 (.builtin "list.extend.loop" ⟨[.ref s.heap.objs.size, .ref z, .none], []⟩) (wants (fun r s2 => r = .none ∧ Q (.ref s.heap.objs.size) s2) E) { s with heap := h2 }) :
    wpAny (model prog w) A (call (.type "list") [.ref z]) Q E s := by
  have zlt : z < s.heap.objs.size := Heap.lt_size hz
  refine callType_codes (Q₁ := fun obj s₁ => obj = .ref s.heap.objs.size ∧ s₁ = { s with heap := s.heap.push { cls := .type "list", data := .seq #[] } }) F.called_list (F.typeCall_list_1 _) F.entry_list_init
    (code_list_new _ ⟨rfl, rfl⟩) fun obj s₁ h₁ => ?_
  obtain ⟨rfl, rfl⟩ := h₁
  generalize hSS : s.heap.objs.size = S at *
  have hS : (s.heap.push { cls := .type "list", data := .seq #[] }).get? S = some { cls := .type "list", data := .seq #[] } := by rw [← hSS]; exact Heap.get?_push_size _ rfl
  have hz1 : IsZip (s.heap.push { cls := .type "list", data := .seq #[] }) z TI TO f0 := Heap.get?_push_of_some _ hz
  refine ⟨⟨_, hS, rfl⟩, F.args_list_init_2 _ _, ?_⟩
  have k1 : ∀ b o, s.heap.get? b = some o → (s.heap.push { cls := .type "list", data := .seq #[] }).get? b = some o := fun b o e => Heap.get?_push_of_some _ e
  generalize s.heap.push { cls := .type "list", data := .seq #[] } = g at hS hz1 k1 ⊢
  have ne : z ≠ S := Nat.ne_of_lt zlt
  show wpAny _ A.in1.in1 (do let old ← Builtin.List.listItems (.ref S); Builtin.List.listUpdate (.ref S) (fun _ => #[]); letGo old.toList.reverse; Builtin.List.listExtendWith (.ref S) (.ref z) .none) _ _ _
  refine wpAny_bind ?_
  unfold Builtin.List.listItems
  refine wpAny_bind (wpAny_seqItems hS rfl (wpAny_pure ?_))
  show wpAny _ A.in1.in1 (updateSeq S (fun _ => #[]) >>= fun _ => letGo (#[] : Array Value).toList.reverse >>= fun _ => Builtin.List.listExtendWith (.ref S) (.ref z) .none) _ _ _
  refine wpAny_bind (wpAny_updateSeq hS rfl ?_)
  have hS2 := Heap.get?_update_self (Obj.mapSeq (fun _ => (#[] : Array Value))) hS rfl
  have hz2 : IsZip (g.update S (Obj.mapSeq (fun _ => (#[] : Array Value)))) z TI TO f0 := (Heap.get?_update_other _ _ (Ne.symm ne)).trans hz1
  have k2 : ∀ b o, s.heap.get? b = some o → (g.update S (Obj.mapSeq (fun _ => (#[] : Array Value)))).get? b = some o := fun b o e => by
    have hb : S ≠ b := fun z => by
      have := Heap.lt_size e
      rw [← z, hSS] at this; exact absurd this (Nat.lt_irrefl _)
    exact (Heap.get?_update_other _ _ hb).trans (k1 b o e)
  generalize g.update S (Obj.mapSeq (fun _ => (#[] : Array Value))) = g2 at hS2 hz2 k2 ⊢
  refine wpAny_bind (wpAny_letGo ?_)
  unfold Builtin.List.listExtendWith
  have hT : ∀ g', IsZip g' z TI TO f0 → Shared.TypeIs { s with heap := g' } (.ref z) "zip" := fun g' h => ⟨_, h, rfl⟩
  refine wpAny_bind (wpAny_typeOf (hT _ hz2) ?_)
  have h1 : Builtin.List.listSameRef (.ref S) (.ref z) = false := by simp [Builtin.List.listSameRef, Ne.symm ne]
  have h2 : (Value.type "zip" == Value.type "list") = false := by decide
  have h3 : (Value.type "zip" == Value.type "tuple") = false := by decide
  simp only [h1, h2, h3, Bool.or_false, Bool.false_eq_true, if_false]
  refine wpAny_bind (wpAny_pyIter_zip hz2 ?_)
  refine wpAny_bind (wpAny_holding ?_)
  unfold Builtin.List.listLengthHint
  refine wpAny_bind (wpAny_specialOf (hT _ hz2) zip_no_len ?_)
  show wpAny _ A.in1.in1 (specialOf (Value.ref z) (Str.ofString "__length_hint__") >>= _) _ _ _
  refine wpAny_bind (wpAny_specialOf (hT _ hz2) zip_no_hint ?_)
  refine wpAny_pure ?_
  show wpAny _ A.in1.in1 (rule "list.extend.makes-room" >>= fun _ => Builtin.List.listTouch (.ref S) >>= fun _ =>
    again (.builtin "list.extend.loop" ⟨[.ref S, .ref z, .none], []⟩)) _ _ _
  refine wpAny_bind (wpAny_rule ?_)
  refine wpAny_bind ?_
  show wpAny _ A.in1.in1 (updateSeq S (·.push .none) >>= fun _ => updateSeq S (·.pop)) _ _ _
  refine wpAny_bind (wpAny_updateSeq hS2 rfl ?_)
  have hS3 := Heap.get?_update_self (Obj.mapSeq (·.push Value.none)) hS2 rfl
  refine wpAny_updateSeq (hz := by seq_fits) hS3 rfl ?_
  have hS4 := Heap.get?_update_self (Obj.mapSeq (·.pop)) hS3 rfl
  refine wpAny_pure ⟨plainId_quiet F.plain_extend_loop _, ?_⟩
  refine hl _ _ hS4 fun b o e => ?_
  have hb : S ≠ b := fun z => by
    have := Heap.lt_size e
    rw [← z, hSS] at this; exact absurd this (Nat.lt_irrefl _)
  exact (Heap.get?_update_other _ _ hb).trans ((Heap.get?_update_other _ _ hb).trans (k2 b o e))
end
def layZ : List (V × V) → Hp → (List V → Hp → Prop) → Prop
  | [], H, k => k [] H
  | z :: zs, H, k => ∀ t, H t = none → layZ zs (upd H t (.tup [z.1, z.2])) fun ts H2 => k (.ref t :: ts) H2
theorem layZ_mono : ∀ {zs : List (V × V)} {H : Hp} {k k' : List V → Hp → Prop}, (∀ ts H2, k ts H2 → k' ts H2) → layZ zs H k → layZ zs H k'
  | [], _, _, _, i, h => i _ _ h
  | _ :: zs, _, _, _, i, h => fun t ht => layZ_mono (fun ts H2 => i _ _) (h t ht)
theorem fp_new {X : Cx} {pins : List (Addr × Obj)} {H : Hp} {b T : Addr} {o : HO} (f : FpOk X pins H b) (h : b ≠ T) : FpOk X pins (upd H T o) b := ⟨by rw [upd_ne h]; exact f.1, f.2⟩
theorem zip_loop {X : Cx} {pins : List (Addr × Obj)} {σ : L2.St} {z TI TO i1 i2 l1 l2 S : Addr} (D : ZipApart z TI TO i1 i2 l1 l2) (nz : z ≠ S) (nI : TI ≠ S) (nO : TO ≠ S) (n1 : i1 ≠ S) (n2 : i2 ≠ S) {xs ys : List V} {Q : VK} {E : Value → Shared → Prop} {A : Around} (hh : A.handled = none) :
    ∀ (k i : Nat) (s : Shared) (H : Hp) (acc : Array Value) (c : Nat) (out : List V), min xs.length ys.length - i = k → i ≤ min xs.length ys.length → L2.Inv X pins σ H s → (∀ b ∈ [z, TO, i1, i2, S], FpOk X pins H b) → SqL X.K H l1 xs → SqL X.K H l2 ys →
    IsPair s.heap TI (.ref i1) (.ref i2) → s.heap.IsListIter i1 l1 i → s.heap.IsListIter i2 l2 i →
    ((IsZip s.heap z TI TO .none ∧ ∃ a b, IsPair s.heap TO a b) ∨ ∃ T f oT, IsZipHeld s.heap z TI TO T f ∧ s.heap.get? T = some oT ∧ T ≠ z ∧ T ≠ i1 ∧ T ≠ i2 ∧ T ≠ S) →
    (∃ o, s.heap.get? TO = some o) → LsAt s.heap S acc c → Vals out acc.toList → out.length = i → layZ ((xs.zip ys).drop i) H (fun ts H2 => ∀ p, H2 p = none → Q (.ref p) (upd H2 p (.lst (out ++ ts)))) →
    codeAny (model X.prog X.w) A (.builtin "list.extend.loop" ⟨[.ref S, .ref z, .none], []⟩) (wants (fun r s2 => r = .none ∧ L2.EP X pins σ Q (.ref S) s2) E) s := by
  intro k
  induction k with
  | zero =>
    intro i s H acc c out hk hi I hf hq1 hq2 hTI h1 h2 hz hO hS hv ho hl
    have hin : i = min xs.length ys.length := by omega
    obtain ⟨us, ru, pu, xl⟩ := I.list hq1
    obtain ⟨ts, rt, pt, yl⟩ := I.list hq2
    have e1 := ru.length
    have e2 := rt.length
    have hend : us.toArray[i]? = none ∨ ts.toArray[i]? = none := by
      rcases Nat.le_total xs.length ys.length with h | h
      · exact .inl (by simp; omega)
      · exact .inr (by simp; omega)
    have dn : (xs.zip ys).drop i = [] := List.drop_eq_nil_of_le (by rw [List.length_zip]; omega)
    rw [dn] at hl
    refine codeAny_builtin F.entry_extend_loop ?_
    rw [Around.under_plainId F.plain_extend_loop _]
    show wpAny _ A.in1 (pyNext (.ref z) >>= _) _ _ s
    have fin : ∀ h' : Heap, (∀ c o, c ≠ z → c ≠ TO → c ≠ i1 → c ≠ i2 → s.heap.get? c = some o → h'.get? c = some o) → L2.EP X pins σ Q (.ref S) { s with heap := h' } := fun h' hk' => by
      have J : L2.Inv X pins σ H { s with heap := h' } := I.turnedL (t' := s.toks) (ch := [z, TO, i1, i2]) (fun c o hb q =>
        hk' c o (fun q' => hb (by simp [q'])) (fun q' => hb (by simp [q'])) (fun q' => hb (by simp [q'])) (fun q' => hb (by simp [q'])) q) fun b hb => hf b (by simp only [List.mem_cons, List.not_mem_nil, or_false] at hb ⊢; rcases hb with g | g | g | g <;> simp [g])
      have hS' : LsAt h' S acc c := hk' _ _ nz.symm nO.symm n1.symm n2.symm hS
      have fS := hf S (by simp)
      have J2 : L2.Inv X pins σ (upd H S (.lst out)) { s with heap := h' } := J.take (h' := h') (t' := s.toks) (fun _ _ _ e => e) fS (show ObjOk X.prog X.w _ _ _ (.lst out) from ⟨by omega, acc.toList, c, hv, hS'⟩)
      have hq := hl S fS.1
      rw [List.append_nil] at hq
      exact ⟨.ref S, _, J2, rfl, hq⟩
    rcases hz with ⟨hz, a, b, hTO⟩ | ⟨T, f, oT, hz, hT, r1, r2, r3, r4⟩
    · refine wpAny_bind (wpAny_pyNext_zip_end hh D hz hTI hTO h1 h2 pu.isList pt.isList hend fun h' hk' => ?_)
      exact wpAny_pure ⟨rfl, fin h' hk'⟩
    · refine wpAny_bind (wpAny_pyNext_zip_end_held hh D hz hT hTI h1 h2 pu.isList pt.isList hend fun h' hk' => ?_)
      exact wpAny_pure ⟨rfl, fin h' fun c o c1 _ c3 c4 e => hk' c o c1 c3 c4 e⟩
  | succ k ih =>
    intro i s H acc c out hk hi I hf hq1 hq2 hTI h1 h2 hz hO hS hv ho hl
    have hlt : i < min xs.length ys.length := by omega
    have ix : i < xs.length := by omega
    have iy : i < ys.length := by omega
    obtain ⟨us, ru, pu, xl⟩ := I.list hq1
    obtain ⟨ts, rt, pt, yl⟩ := I.list hq2
    obtain ⟨u, hu, wu⟩ := ru.get (List.getElem?_eq_getElem ix)
    obtain ⟨t, ht, wt⟩ := rt.get (List.getElem?_eq_getElem iy)
    have hu' : us.toArray[i]? = some u := by simpa using hu
    have ht' : ts.toArray[i]? = some t := by simpa using ht
    have dn : (xs.zip ys).drop i = (xs[i], ys[i]) :: (xs.zip ys).drop (i + 1) := by
      rw [List.drop_eq_getElem_cons (by rw [List.length_zip]; omega), List.getElem_zip]
    rw [dn] at hl
    have hal : acc.size = i := by rw [← ho]; exact hv.length.symm
    have zl : z < s.heap.objs.size := by
      rcases hz with ⟨hz, _⟩ | ⟨T, f, oT, hz, _⟩
      · exact Heap.lt_size hz
      · exact Heap.lt_size hz
    have Sl : S < s.heap.objs.size := Heap.lt_size hS
    have l1' : i1 < s.heap.objs.size := let ⟨_, e, _⟩ := h1; Heap.lt_size e
    have l2' : i2 < s.heap.objs.size := let ⟨_, e, _⟩ := h2; Heap.lt_size e
    refine codeAny_builtin F.entry_extend_loop ?_
    rw [Around.under_plainId F.plain_extend_loop _]
    show wpAny _ A.in1 (pyNext (.ref z) >>= _) _ _ s
    have go : ∀ (h' : Heap) (f : Bool) (T : Addr) (oT : Obj), IsZipHeld h' z TI TO T f → h'.get? T = some oT → T ≠ z → T ≠ i1 → T ≠ i2 → T ≠ S → h'.IsListIter i1 l1 (i + 1) → h'.IsListIter i2 l2 (i + 1) → IsPair h' s.heap.objs.size u t → (∃ o, h'.get? TO = some o) →
        (∀ c o, c ≠ z → c ≠ TO → c ≠ i1 → c ≠ i2 → s.heap.get? c = some o → h'.get? c = some o) → ∀ acc' c', LsAt (h'.update S (Obj.mapSeq (·.push (.ref s.heap.objs.size)))) S acc' c' → acc' = acc.push (.ref s.heap.objs.size) →
        codeAny (model X.prog X.w) A (.builtin "list.extend.loop" ⟨[.ref S, .ref z, .none], []⟩) (wants (fun r s2 => r = .none ∧ L2.EP X pins σ Q (.ref S) s2) E) { s with heap := h'.update S (Obj.mapSeq (·.push (.ref s.heap.objs.size))) } := fun h' f T oT a1 a2 r1 r2 r3 r4 a3 a4 a5 ⟨oO, aO⟩ hk' acc' c' hS'' eacc => by
      have ot : ∀ c o, c ≠ S → h'.get? c = some o → (h'.update S (Obj.mapSeq (·.push (.ref s.heap.objs.size)))).get? c = some o := fun c o hc e => (Heap.get?_update_other _ _ (Ne.symm hc)).trans e
      generalize h'.update S (Obj.mapSeq (·.push (.ref s.heap.objs.size))) = h2' at hS'' ot ⊢
      have nTs : s.heap.objs.size ≠ S := Nat.ne_of_gt Sl
      have gT := ot _ _ nTs a5
      have J : L2.Inv X pins σ (upd H s.heap.objs.size (.tup [xs[i], ys[i]])) { s with heap := h2', toks := s.toks } :=
        I.turnedNew (ch := [z, TO, i1, i2, S]) (fun c o hb g => ot c o (fun g' => hb (by simp [g'])) (hk' c o (fun g' => hb (by simp [g'])) (fun g' => hb (by simp [g'])) (fun g' => hb (by simp [g'])) (fun g' => hb (by simp [g'])) g)) hf (Nat.le_refl _)
          ⟨by show 2 ≤ sizeLine; decide, [u, t], .cons wu (.cons wt .nil), ⟨_, gT, rfl, _, rfl⟩⟩
      have fresh : H s.heap.objs.size = none := I.hok.fresh (Nat.le_refl _)
      have ex : Ext H (upd H s.heap.objs.size (.tup [xs[i], ys[i]])) := Ext.new fresh
      refine ih (i + 1) _ _ acc' c' (out ++ [.ref s.heap.objs.size]) (by omega) hlt J (fun b hb => fp_new (hf b hb) ?_) (sqL_ext ex hq1) (sqL_ext ex hq2) (ot _ _ nI (hk' _ _ D.TIz D.TITO D.TIi1 D.TIi2 hTI))
        (a3.at fun o e => ot _ o n1 e) (a4.at fun o e => ot _ o n2 e) (.inr ⟨T, f, oT, ot _ _ nz a1, ot _ _ r4 a2, r1, r2, r3, r4⟩) ⟨oO, ot _ _ nO aO⟩ hS'' ?_ (by rw [List.length_append, ho]; rfl) ?_
      · simp only [List.mem_cons, List.not_mem_nil, or_false] at hb
        rcases hb with g | g | g | g | g <;> rw [g]
        · exact Nat.ne_of_lt zl
        · exact Nat.ne_of_lt (hO.elim fun o e => Heap.lt_size e)
        · exact Nat.ne_of_lt l1'
        · exact Nat.ne_of_lt l2'
        · exact Nat.ne_of_lt Sl
      · rw [eacc, Array.toList_push]
        exact hv.append (.cons rfl .nil)
      · refine layZ_mono (fun ts H2 hq p hp => ?_) (hl s.heap.objs.size fresh)
        rw [List.append_assoc]
        exact hq p hp
    rcases hz with ⟨hz, a, b, hTO⟩ | ⟨T, f, oT, hz, hT, r1, r2, r3, r4⟩
    · refine wpAny_bind (wpAny_pyNext_zip_item D hz hTI hTO h1 h2 pu.isList pt.isList hu' ht' fun h' a1 a2 a3 a4 a5 a6 hk' => ?_)
      have hS' : LsAt h' S acc c := hk' _ _ nz.symm nO.symm n1.symm n2.symm hS
      show wpAny _ A.in1 (updateSeq S (·.push (.ref s.heap.objs.size)) >>= _) _ _ _
      refine wpAny_bind ?_
      refine wpAny_updateSeq hS' rfl (wpAny_pure ⟨plainId_quiet F.plain_extend_loop _, ?_⟩) (by omega) (by show (acc.push _).size ≤ sizeLine + 1; rw [Array.size_push]; omega)
      exact go h' false _ _ a1 a5 (Nat.ne_of_gt zl) (Nat.ne_of_gt l1') (Nat.ne_of_gt l2') (Nat.ne_of_gt Sl) a3 a4 a5 ⟨_, a2⟩ hk' _ _ (Heap.get?_update_self _ hS' rfl) rfl
    · refine wpAny_bind (wpAny_pyNext_zip_item_held D hz hT hTI h1 h2 pu.isList pt.isList hu' ht' fun h' a1 a3 a4 a5 a6 hk' => ?_)
      have hS' : LsAt h' S acc c := hk' _ _ nz.symm n1.symm n2.symm hS
      show wpAny _ A.in1 (updateSeq S (·.push (.ref s.heap.objs.size)) >>= _) _ _ _
      refine wpAny_bind ?_
      refine wpAny_updateSeq hS' rfl (wpAny_pure ⟨plainId_quiet F.plain_extend_loop _, ?_⟩) (by omega) (by show (acc.push _).size ≤ sizeLine + 1; rw [Array.size_push]; omega)
      exact go h' true T oT a1 (hk' _ _ r1 r2 r3 hT) r1 r2 r3 r4 a3 a4 a5 (hO.elim fun o e => ⟨o, hk' _ _ D.TOz D.TOi1 D.TOi2 e⟩) (fun c o c1 _ c3 c4 e => hk' c o c1 c3 c4 e) _ _ (Heap.get?_update_self _ hS' rfl) rfl
def tListZip (K : PySem.W.Frag) (ta : TA) : TE := fun σ H Q => ta σ H fun vs H1 => ∃ a b xs ys, vs = [.ref a, .ref b] ∧ SqL K H1 a xs ∧ SqL K H1 b ys ∧ layZ (xs.zip ys) H1 fun ts H2 => ∀ p, H2 p = none → Q (.ref p) (upd H2 p (.lst ts))
theorem pe_listZip {X : Cx} {e1 e2 : Expr} {ta : TA} {p pos q qos : Pos} {K : PySem.W.Frag} (hK : X.K = K) (hc : X.calm = true) (hgl : Gl X "list") (hml : X.mg "list" = none) (hg : Gl X "zip") (hm : X.mg "zip" = none) (ha : PA X [e1, e2] ta)
    (hs : starEach [e1, e2] X.env = (false, eval e1 X.env) :: starEach [e2] X.env := by rfl) (hpl : (backTo qos (starEach [e2] X.env)).any (·.1) = false := by rfl)
    (na : starEach [.Call (.Name "zip" q) [e1, e2] [] qos] X.env = (false, eval (.Call (.Name "zip" q) [e1, e2] [] qos) X.env) :: starEach [] X.env := by rfl) :
    PE X (.Call (.Name "list" p) [.Call (.Name "zip" q) [e1, e2] [] qos] [] pos) (tListZip K ta) := by
  subst hK
  refine ⟨fun pins s σ H Q I h => ?_⟩
  refine Call_ (ld_blt I hgl hml boot_list (PyProof.Rows.callWith_type1 ?_ na rfl))
  rw [na]
  show wpAny _ _ (spliced ((false, eval (.Call (.Name "zip" q) [e1, e2] [] qos) X.env) :: backTo pos (starEach [] X.env))) _ _ s
  refine Calls.spliced_cons ?_
  refine Call_ (ld_blt I hg hm boot_zip (PyProof.Rows.callWith_type1 (thn (ha.run qos pins s σ H _ I h) fun us s1 ⟨vs, H1, I1, r1, q1⟩ => ?_) hs hpl))
  obtain ⟨a, b, xs, ys, ex, hqx, hqy, hq⟩ := q1
  subst ex
  cases r1 with
  | cons r rr =>
    cases rr with
    | cons r' rr =>
      cases rr
      cases r
      cases r'
      obtain ⟨its, rv, p1, xl⟩ := I1.list hqx
      obtain ⟨its2, rv2, p2, yl⟩ := I1.list hqy
      have la : a < s1.heap.objs.size := p1.lt
      have lb : b < s1.heap.objs.size := p2.lt
      refine call_zip_2 p1.isList p2.isList fun h' hz hTI hTO h1 h2 hsz hk => ?_
      refine Calls.spliced_nil ?_
      have I2 : L2.Inv X pins σ H1 { s1 with heap := h' } := I1.kept (t' := s1.toks) hk
      refine call_list_zip hz fun g c hS kS => ?_
      have I3 : L2.Inv X pins σ H1 { s1 with heap := g } := I2.kept (t' := s1.toks) kS
      have D := PySem.W.ktu_apart s1.heap.objs.size a b la lb
      show codeAny _ X.A.in1 (.builtin "list.extend.loop" ⟨[.ref h'.objs.size, _, .none], []⟩) _ _
      have hS : LsAt g h'.objs.size #[] c := hS
      rw [hsz] at hS ⊢
      have ne : ∀ j : Nat, j < 5 → (s1.heap.objs.size + j : Nat) ≠ s1.heap.objs.size + 5 := fun j hj => by omega
      refine zip_loop (A := X.A.in1) D (ne 4 (by decide)) (ne 2 (by decide)) (ne 3 (by decide)) (ne 0 (by decide)) (ne 1 (by decide)) (show X.A.in1.handled = none from I.ok.hd hc) _ 0 _ H1 #[] c [] rfl (Nat.zero_le _) I3 (fun d hd => ?_) hqx hqy (kS _ _ hTI) (h1.at fun o e => kS _ o e) (h2.at fun o e => kS _ o e) (.inl ⟨kS _ _ hz, _, _, kS _ _ hTO⟩) ⟨_, kS _ _ hTO⟩ hS .nil rfl hq
      have hle : s1.heap.objs.size ≤ d := by
        simp only [List.mem_cons, List.not_mem_nil, or_false] at hd
        rcases hd with z | z | z | z | z
        · rw [z]; exact Nat.le_add_right _ _
        · rw [z]; exact Nat.le_add_right _ _
        · rw [z]; exact Nat.le_refl _
        · rw [z]; exact Nat.le_add_right _ _
        · rw [z]; exact Nat.le_add_right _ _
      exact I1.fpOk hle (I1.hok.fresh hle)
section
variable {F : Fm} {c : Ctx} {T : List Tm} {σ : Sg} {H : Hp} {A : Nat → List Addr} {B : List Addr} {α β : Type} {R : Rp α} {Rb : Rp β} {m : Md} {ta tb : TE} {K : PySem.W.Frag}
theorem layZ_hd {Kk : List V → Hp → Prop} : ∀ (zs : List (V × V)) (ps : List (α × β)) (H : Hp), HdA F c T σ H A B → Paired (fun z p => R.r (view F A B m H) z.1 p.1 ∧ Rb.r (view F A B m H) z.2 p.2) zs ps →
    (∀ ts H2, HdA F c T σ H2 A B → Ext (view F A B m H) (view F A B m H2) → Paired ((rPair K R Rb).r (view F A B m H2)) ts ps → Kk ts H2) → layZ zs H Kk
  | [], ps, H, h, hp, k => by
    cases hp
    exact k [] H h (Ext.refl _) .nil
  | z :: zs, ps, H, h, hp, k => by
    cases hp with
    | cons h1 h2 =>
      intro t ht
      have e1 : Ext (view F A B m H) (view F A B m (upd H t (.tup [z.1, z.2]))) := HdA.vext ht
      refine layZ_hd zs _ _ (h.alloc ht) (Paired.mono (fun _ _ q => ⟨R.mono e1 q.1, Rb.mono e1 q.2⟩) h2) fun ts H2 hd2 e2 hp2 => k _ _ hd2 (e1.trans e2) (.cons ?_ hp2)
      exact ⟨t, z.1, z.2, rfl, SqT.of (e2 _ _ (h.fresh ht)), R.mono (e1.trans e2) h1.1, Rb.mono (e1.trans e2) h1.2⟩
theorem paired_zip {V1 V2 α β : Type} {P : V1 → α → Prop} {Q : V2 → β → Prop} : ∀ {vs : List V1} {xs : List α} {us : List V2} {ys : List β}, Paired P vs xs → Paired Q us ys → Paired (fun z p => P z.1 p.1 ∧ Q z.2 p.2) (vs.zip us) (xs.zip ys)
  | _, _, _, _, .nil, _ => by simp only [List.zip_nil_left]; exact .nil
  | _, _, _, _, .cons _ _, .nil => by simp only [List.zip_nil_right]; exact .nil
  | _, _, _, _, .cons a b, .cons c d => by simp only [List.zip_cons_cons]; exact .cons ⟨a, c⟩ (paired_zip b d)
theorem eo_listZip {W1 : (List α → Prop) → Prop} {W2 : List α → (List β → Prop) → Prop} (h1 : EW c ta m (rList R) W1) (h2 : ∀ xs, EW c tb m (rList Rb) (W2 xs)) : EO c (tListZip K (tCons ta (tCons tb tNil))) (oList m (rPair K R Rb)) (fun P => W1 fun xs => W2 xs fun ys => P (xs.zip ys)) := fun P w T σ H hd Kk k =>
  h1 _ w T σ H hd _ fun xs v H1 pn q1 => h2 xs _ pn _ σ H1 q1 _ fun ys u H2 pm ⟨A, B, q⟩ => by
    obtain ⟨l2, us, e2, hl2, hs2, q2⟩ := q.asList (K := K)
    have q3 : HdA _ c (⟨v, m, (rList R).at xs⟩ :: ⟨.non, m, pList Rb l2 us ys⟩ :: T) σ H2 A B := q2.sub fun t ht => by
      simp only [List.mem_cons] at ht ⊢
      rcases ht with z | z | z
      · exact .inr (.inl z)
      · exact .inl z
      · exact .inr (.inr z)
    obtain ⟨l1, vs, e1, hl1, hs1, q4⟩ := q3.asList (K := K)
    have p1 := (q4.pl (K := K) (List.mem_cons_self)).2
    have p2 := (q4.pl (K := K) (List.mem_cons_of_mem _ List.mem_cons_self)).2
    refine ⟨l1, l2, vs, us, by rw [e1, e2], hs1, hs2, layZ_hd (m := m) (R := R) (Rb := Rb) (K := K) _ _ _ q4.tl.tl (paired_zip p1 p2) fun ts H3 hd3 e3 hp3 p hp => ?_⟩
    exact k _ _ _ pm (hd3.allocO hp hp3)
theorem eo_listZipi [Im R] [Im Rb] {m1 m2 : Md} {W1 : (List α → Prop) → Prop} {W2 : List α → (List β → Prop) → Prop} (h1 : EW c ta m1 (rList R) W1) (h2 : ∀ xs, EW c tb m2 (rList Rb) (W2 xs)) : EO c (tListZip K (tCons ta (tCons tb tNil))) (oList .n (rPair K R Rb)) (fun P => W1 fun xs => W2 xs fun ys => P (xs.zip ys)) := fun P w T σ H hd Kk k =>
  h1 _ w T σ H hd _ fun xs v H1 pn q1 => h2 xs _ pn _ σ H1 q1 _ fun ys u H2 pm ⟨A, B, q⟩ => by
    obtain ⟨l2, us, e2, hl2, hs2, q2⟩ := q.asList (K := K)
    have q3 : HdA _ c (⟨v, m1, (rList R).at xs⟩ :: ⟨.non, m2, pList Rb l2 us ys⟩ :: T) σ H2 A B := q2.sub fun t ht => by
      simp only [List.mem_cons] at ht ⊢
      rcases ht with z | z | z
      · exact .inr (.inl z)
      · exact .inl z
      · exact .inr (.inr z)
    obtain ⟨l1, vs, e1, hl1, hs1, q4⟩ := q3.asList (K := K)
    have p1 := (q4.pl (K := K) (List.mem_cons_self)).2
    have p2 := (q4.pl (K := K) (List.mem_cons_of_mem _ List.mem_cons_self)).2
    refine ⟨l1, l2, vs, us, by rw [e1, e2], hs1, hs2, layZ_hd (m := .n) (R := R) (Rb := Rb) (K := K) _ _ _ q4.tl.tl (paired_zip (q4.imAll p1) (q4.imAll p2)) fun ts H3 hd3 e3 hp3 p hp => ?_⟩
    exact k _ _ _ pm (hd3.allocO hp hp3)
theorem eo_listZipP {S1 S2 : Prop} {xs : List α} {ys : List β} (h1 : EP c ta m (rList R) S1 xs) (h2 : EP c tb m (rList Rb) S2 ys) : EOP c (tListZip K (tCons ta (tCons tb tNil))) (oList m (rPair K R Rb)) (S1 ∧ S2) (xs.zip ys) := fun P w T σ H hd Kk k => eo_listZip h1.w (fun _ => h2.w) P ⟨w.1.1, w.1.2, w.2⟩ T σ H hd Kk k
theorem eo_listZipiP [Im R] [Im Rb] {m1 m2 : Md} {S1 S2 : Prop} {xs : List α} {ys : List β} (h1 : EP c ta m1 (rList R) S1 xs) (h2 : EP c tb m2 (rList Rb) S2 ys) : EOP c (tListZip K (tCons ta (tCons tb tNil))) (oList .n (rPair K R Rb)) (S1 ∧ S2) (xs.zip ys) := fun P w T σ H hd Kk k => eo_listZipi h1.w (fun _ => h2.w) P ⟨w.1.1, w.1.2, w.2⟩ T σ H hd Kk k
end
end TW

set_option maxRecDepth 100000
set_option maxHeartbeats 4000000
/-! ## 41. tuples of four -/
namespace TW
open PySem PySem.Spec PyProof.Rows L2
def rQuad (K : PySem.W.Frag) {α β γ δ : Type} (R : Rp α) (S : Rp β) (U : Rp γ) (V' : Rp δ) : Rp (α × β × γ × δ) := ⟨fun H v p => ∃ a x y z u, v = .ref a ∧ SqT K H a [x, y, z, u] ∧ R.r H x p.1 ∧ S.r H y p.2.1 ∧ U.r H z p.2.2.1 ∧ V'.r H u p.2.2.2,
  fun e ⟨a, x, y, z, u, h1, h2, h3, h4, h5, h6⟩ => ⟨a, x, y, z, u, h1, SqT.extT e h2, R.monoT e h3, S.monoT e h4, U.monoT e h5, V'.monoT e h6⟩⟩
instance {K : PySem.W.Frag} {α β γ δ : Type} (R : Rp α) (S : Rp β) (U : Rp γ) (V' : Rp δ) [Im R] [Im S] [Im U] [Im V'] : Im (rQuad K R S U V') := ⟨fun ⟨a, x, y, z, u, h1, h2, h3, h4, h5, h6⟩ => ⟨a, x, y, z, u, h1, SqT.im h2, Im.im h3, Im.im h4, Im.im h5, Im.im h6⟩⟩
instance {K : PySem.W.Frag} {α β γ δ : Type} (R : Rp α) (S : Rp β) (U : Rp γ) (V' : Rp δ) : NN (rQuad K R S U V') := ⟨fun ⟨_, _, _, _, _, h, _⟩ => by rw [h]; simp⟩
section
variable {F : Fm} {c : Ctx} {T : List Tm} {σ : Sg} {H : Hp} {A : Nat → List Addr} {B : List Addr} {α β γ δ : Type} {R : Rp α} {Rb : Rp β} {Rc : Rp γ} {Rd : Rp δ} {m : Md} {ta tb tc td : TE} {K : PySem.W.Frag}
theorem ep_quad {Sa Sb Sc Sd : Prop} {a : α} {b : β} {d : γ} {e : δ} (ha : EP c ta m R Sa a) (hb : EP c tb m Rb Sb b) (hc : EP c tc m Rc Sc d) (hd' : EP c td m Rd Sd e) : EP c (tTup (tCons ta (tCons tb (tCons tc (tCons td tNil))))) m (rQuad K R Rb Rc Rd) (Sa ∧ Sb ∧ Sc ∧ Sd) (a, b, d, e) := fun s T σ H hd Q k =>
  ha s.1 T σ H hd _ fun x H1 h1 => hb s.2.1 _ σ H1 h1 _ fun y H2 h2 => hc s.2.2.1 _ σ H2 h2 _ fun z H3 h3 => hd' s.2.2.2 _ σ H3 h3 _ fun u H4 ⟨A, B, h4⟩ => ⟨(by show 4 ≤ sizeLine; decide), fun p hp => k _ _ (h4.tl.tl.tl.tl.newTup (p := (rQuad K R Rb Rc Rd).at (a, b, d, e)) hp fun H5 e' hs => ⟨p, x, y, z, u, rfl, hs, R.mono e' h4.tl.tl.hd2, Rb.mono e' h4.tl.hd2, Rc.mono e' h4.hd2, Rd.mono e' h4.hd⟩)⟩
theorem ew_quad {Wa : (α → Prop) → Prop} {Wb : α → (β → Prop) → Prop} {Wc : α → β → (γ → Prop) → Prop} {Wd : α → β → γ → (δ → Prop) → Prop} (ha : EW c ta m R Wa) (hb : ∀ a, EW c tb m Rb (Wb a)) (hc : ∀ a b, EW c tc m Rc (Wc a b)) (hd' : ∀ a b d, EW c td m Rd (Wd a b d)) :
    EW c (tTup (tCons ta (tCons tb (tCons tc (tCons td tNil))))) m (rQuad K R Rb Rc Rd) (fun P => Wa fun a => Wb a fun b => Wc a b fun d => Wd a b d fun e => P (a, b, d, e)) := fun P w T σ H hd Q k =>
  ha _ w T σ H hd _ fun a x H1 pa h1 => hb a _ pa _ σ H1 h1 _ fun b y H2 pb h2 => hc a b _ pb _ σ H2 h2 _ fun d z H3 pc h3 => hd' a b d _ pc _ σ H3 h3 _ fun e u H4 pd ⟨A, B, h4⟩ => ⟨(by show 4 ≤ sizeLine; decide), fun p hp => k _ _ _ pd (h4.tl.tl.tl.tl.newTup (p := (rQuad K R Rb Rc Rd).at (a, b, d, e)) hp fun H5 e' hs => ⟨p, x, y, z, u, rfl, hs, R.mono e' h4.tl.tl.hd2, Rb.mono e' h4.tl.hd2, Rc.mono e' h4.hd2, Rd.mono e' h4.hd⟩)⟩
theorem gp_quad {R1 : Rp α} {R2 : Rp β} {R3 : Rp γ} {R4 : Rp δ} {g1 g2 g3 g4 : TG} {c1 : α → Ctx} {c2 : α → β → Ctx} {c3 : α → β → γ → Ctx} {c4 : α → β → γ → δ → Ctx} {js ks ls ms : List Nat} (h1 : GP c g1 m R1 c1 js) (h2 : ∀ a, GP (c1 a) g2 m R2 (c2 a) ks) (h3 : ∀ a b, GP (c2 a b) g3 m R3 (c3 a b) ls) (h4 : ∀ a b d, GP (c3 a b d) g4 m R4 (c4 a b d) ms) :
    GP c (gTup K 4 (gCons g1 (gCons g2 (gCons g3 (gCons g4 gNil))))) m (rQuad K R1 R2 R3 R4) (fun p => c4 p.1 p.2.1 p.2.2.1 p.2.2.2) (js ++ (ks ++ (ls ++ ms))) := fun b x T σ H ⟨A, B, hd⟩ Q k => by
  obtain ⟨a, x1, x2, x3, x4, e, hs, r1, r2, r3, r4⟩ := (show (rQuad K R1 R2 R3 R4).r (view _ A B m H) x b from hd.hd)
  refine ⟨a, [x1, x2, x3, x4], e, SqT.ext view_full hs, rfl, x1, [x2, x3, x4], rfl, ?_⟩
  have hd2 := hd.tl.puts [⟨x1, m, R1.at b.1⟩, ⟨x2, m, R2.at b.2.1⟩, ⟨x3, m, R3.at b.2.2.1⟩, ⟨x4, m, R4.at b.2.2.2⟩] (fun t ht => by
    simp only [List.mem_cons, List.not_mem_nil, or_false] at ht
    rcases ht with z | z | z | z <;> subst z
    · exact r1
    · exact r2
    · exact r3
    · exact r4)
  exact h1 _ _ _ σ H hd2 _ fun σ1 H1 q1 o1 => ⟨x2, [x3, x4], rfl, h2 _ _ _ _ σ1 H1 q1 _ fun σ2 H2 q2 o2 => ⟨x3, [x4], rfl, h3 _ _ _ _ _ σ2 H2 q2 _ fun σ3 H3 q3 o3 => ⟨x4, [], rfl, h4 _ _ _ _ _ _ σ3 H3 q3 _ fun σ4 H4 q4 o4 => ⟨rfl, k σ4 H4 q4 (o1.trans (o2.trans (o3.trans o4)))⟩⟩⟩⟩
end
end TW

set_option maxRecDepth 100000
set_option maxHeartbeats 4000000
/-! ## 42. place.remove(x) of data -/
namespace TW
open PySem PySem.Spec PyProof.Rows L2
def rRemD (K : PySem.W.Frag) : V → List V → Hp → VK → Prop := fun x xs H Q => ∃ (a : Addr) (vs : List V) (y : V) (d : PyData) (ds : List PyData) (j : Nat) (z : PyData), x = V.ref a ∧ xs = [y] ∧ H a = some (.lst vs) ∧ DpAll K H vs ds ∧ Dp K H y d ∧
  SeqAt.shaped (.list ds) = true ∧ SeqAt.shaped d = true ∧ ds[j]? = some z ∧ PyData.eqv z d = true ∧ (∀ (m : Nat) (z' : PyData), m < j → ds[m]? = some z' → PyData.eqv z' d = false) ∧ Q .non (upd H a (.lst (vs.eraseIdx j)))
theorem mt_removeD {X : Cx} (hu : X.A.units + 65 < cLine) : MtR X "list.remove" (rRemD X.K) := by
  intro pins s σ H x xs v us Q I rx rxs h
  obtain ⟨a, vs, y, d, ds, j, z, rfl, rfl, hH, ha, hy, sl, sd, hz, hzj, hno, q⟩ := h
  cases rx
  cases rxs with
  | cons ry rt =>
    rename_i uy ut
    cases rt
    obtain ⟨bs, r1⟩ := Dp.reads I d y uy hy ry
    have hxs : PyData.canLayAll0 ds = true := SeqAt.canLay_of_shaped sl
    have hroom : X.A.units + 1 + min (PyData.depthAll ds) d.depth < cLine := room_in_shaped sd hu
    obtain ⟨hlen, its, n, rv, hl, ho⟩ := I.lstM hH
    obtain ⟨as, h4⟩ := Dp.readsAll I ds _ its ha rv
    have hn : its.length = ds.length := SeqAt.ReadsAll.length ds its as h4
    have hmap : its.map (SeqAt.readOf s.heap) = ds := SeqAt.readsAll_map ds its as hxs h4
    obtain ⟨hjd, _⟩ := List.getElem?_eq_some_iff.mp hz
    have hjl : j < its.length := by omega
    have hj : j < its.toArray.size := by simpa using hjl
    have at_ : ∀ (m : Nat) (hm : m < its.toArray.size) (z' : PyData), ds[m]? = some z' → SeqAt.readOf s.heap its.toArray[m] = z' := by
      intro m hm z' hz'
      have hml : m < its.length := by simpa using hm
      rw [← hmap, List.getElem?_map, List.getElem?_eq_getElem hml] at hz'
      have e1 : SeqAt.readOf s.heap its[m] = z' := Option.some.inj (show some (SeqAt.readOf s.heap its[m]) = some z' from hz')
      simpa using e1
    refine call_meets PySem.F.slot_list_remove ⟨_, ho, rfl⟩ PySem.F.entry_list_remove (PySem.F.args_list_remove_2 _ _)
      (SeqAt.list_removeAt a its.toArray n none #[] uy (fun u => PyData.eqv (SeqAt.readOf s.heap u) d) j hj ?_ ?_ (by rw [List.size_toArray]; omega)) ⟨ho, SeqAt.items_eqAt (vs := its.toArray) (show ReadsAll s.heap its.toArray.toList ds as from h4) r1 hxs (SeqAt.canLay_of_shaped sd) hroom, ?_⟩
    · show PyData.eqv (SeqAt.readOf s.heap its.toArray[j]) d = true
      rw [at_ j hj z hz]
      exact hzj
    · intro m hm hmj
      have hmd : m < ds.length := by omega
      have hz' : ds[m]? = some ds[m] := List.getElem?_eq_getElem hmd
      show PyData.eqv (SeqAt.readOf s.heap its.toArray[m]) d = false
      rw [at_ m hm _ hz']
      exact hno m _ hmj hz'
    · refine ⟨.non, _, I.lset (its' := its.eraseIdx j) hH ho ?_ (rv.eraseIdx j) ?_, rfl, q⟩
      · show its.toArray.eraseIdxIfInBounds j = (its.eraseIdx j).toArray
        rw [List.eraseIdxIfInBounds_toArray]
      · have := List.length_eraseIdx_le vs j
        omega
theorem mt_removeDK {X : Cx} {K : PySem.W.Frag} (hK : X.K = K) (hu : X.A.units + 65 < cLine) : MtR X "list.remove" (rRemD K) := by subst hK; exact mt_removeD hu
theorem paired_eraseIdx {β γ : Type} {G : β → γ → Prop} : ∀ {xs : List β} {ys : List γ} (j : Nat), Paired G xs ys → Paired G (xs.eraseIdx j) (ys.eraseIdx j)
  | _, _, _, .nil => .nil
  | _ :: _, _ :: _, 0, .cons _ t => t
  | _ :: _, _ :: _, j + 1, .cons h t => .cons h (paired_eraseIdx j t)
section
variable {F : Fm} {c : Ctx} {T : List Tm} {σ : Sg} {H : Hp} {A : Nat → List Addr} {B : List Addr} {D : Ends} {α β : Type} {R : Rp α} {m m2 : Md} {te to : TE} {tr : TS} {K : PySem.W.Frag}
theorem dpAll_of [Dt K R] {V0 H : Hp} (e : Ext V0 H) {vs : List V} {xs : List α} (h : Paired (R.r V0) vs xs) : DpAll K H vs (xs.map (Dt.d K R)) := DpAll_of (Paired.mono (fun _ _ q => R.mono e q) h)
theorem sw_remD [DecidableEq α] [Dt K R] {i : Nat} {S : Prop} {xs : List α} {up : List α → OP} {We : (α → Prop) → Prop} {Wr : α → List α → Prop} (lv : LV c to i S m (oList m R) xs up) (he : EW c te m2 R We) (k : ∀ x v, SW F (c.set i (.ow (up v))) T tr D (Wr x v)) (hnb : ctxNB c = true := by rfl) (hm : m ≠ .b := by decide) (hd : Dt.dep K R ≤ 60 := by exact Nat.le_of_ble_eq_true rfl) :
    SW F c T (tSeq (tDrop (tBM K "list" (rRemD K) to (tCons te tNil))) tr) D (S ∧ We fun x => x ∈ xs ∧ ∀ v, v = xs.erase x → Wr x v) := fun nT w σ H hdd => lv.ev T σ H w.1 hdd _ fun v X H1 ⟨A, B, h1⟩ inv => by
  obtain ⟨l, vs, ev, hH, _⟩ := lv.at w.1 nT hnb hm inv (fun t ht => List.mem_append_left _ ht) h1 (fun t ht => List.mem_append_right _ ht)
  refine ⟨by rw [ev]; exact .inl ⟨rfl, vs, SqL.of hH⟩, he _ w.2 _ σ H1 ⟨A, B, h1⟩ _ fun x y H2 px ⟨A, B, h2⟩ => ?_⟩
  obtain ⟨l', vs', ev', hH', hp', go⟩ := lv.at w.1 nT hnb hm inv (fun t ht => List.mem_cons_of_mem _ (List.mem_append_left _ ht)) h2 (fun t ht => List.mem_cons_of_mem _ (List.mem_append_right _ ht))
  obtain ⟨z, z1, z2, z3⟩ := idx_at (K := K) (R := R) px.1
  refine ⟨l', vs', y, Dt.d K R x, xs.map (Dt.d K R), xs.idxOf x, z, ev', rfl, hH', dpAll_of view_full hp', view_sq view_full (Dt.ok h2.hd), shaped_L hd xs, shaped_d (by omega) x, z1, z2, z3, ?_⟩
  refine k x _ nT (px.2 _ rfl) _ _ ⟨A, B, go _ (xs.erase x) [] (by simp) (fun t ht => by simp at ht) ?_⟩
  rw [List.erase_eq_eraseIdx_of_idxOf rfl]
  exact paired_eraseIdx _ hp'
/-! ### is, is not of bools -/
theorem o2_isB {m1 m2 : Md} : O2 c rIsB m1 rBool m2 rBool .n rBool (fun _ _ => True) (fun a b => decide (a = b)) := fun a b _ T σ H x y ⟨A, B, h⟩ Q k =>
  ⟨a, b, h.hd2, h.hd, k _ H (HD.push h.tl.tl (p := rBool.at (decide (a = b))) rfl)⟩
theorem o2_notB {m1 m2 : Md} : O2 c rNotB m1 rBool m2 rBool .n rBool (fun _ _ => True) (fun a b => !decide (a = b)) := fun a b _ T σ H x y ⟨A, B, h⟩ Q k =>
  ⟨a, b, h.hd2, h.hd, k _ H (HD.push h.tl.tl (p := rBool.at (!decide (a = b))) rfl)⟩
/-! ### an optional value that is there -/
theorem ew_unopt [Inhabited α] {W : (Option α → Prop) → Prop} (h : EW c te m (rOpt R) W) : EW c te m R (fun P => W fun o => o.isSome = true ∧ P (o.getD default)) := fun P w T σ H hd Q k => h _ w T σ H hd _ fun o v H' ⟨so, po⟩ ⟨A, B, q⟩ => k (o.getD default) v H' po ⟨A, B, q.re (p' := R.at (o.getD default)) (by
  have q1 : (rOpt R).r (view _ A B m H') v o := q.hd
  cases o with
  | none => simp at so
  | some a => exact q1.2)⟩
end
end TW

set_option maxRecDepth 100000
set_option maxHeartbeats 8000000
/-! ## 43. set(xs) of a list of truth values, its length -/
namespace TW
open PySem PySem.Spec PyProof.Rows L2
abbrev SetToldB (w : World) (s : Shared) (ns : List Bool) (r : Value) (s2 : Shared) : Prop :=
  r = .none ∧ ∃ g tk k, s2 = { s with heap := g, toks := tk } ∧ PpSet.SetB w g s.heap.objs.size (fun j => decide (j ∈ ns)) k ∧ ∀ b o, s.heap.get? b = some o → g.get? b = some o
theorem setB_new_at {w : World} {h : Heap} {a : Addr} (e : h.get? a = some (nSet w)) : PpSet.SetB w h a (fun j => decide (j ∈ ([] : List Bool))) 0 :=
  ⟨_, #[], 0, _, e, ⟨rfl, rfl, rfl⟩, rfl, (fun e he => by simp at he), (by simp), (fun k => by simp), (by decide), (by rfl), rfl, List.Pairwise.nil, by
    show _ ∨ (!w.params.followText "set-order") = true
    cases w.params.followText "set-order"
    · exact .inr rfl
    · exact .inl rfl⟩
section
variable {P : Program} {w : World} {A : Around} {E : Value → Shared → Prop} {s : Shared}
theorem set_update_bools {I : Addr} {fp wr : List Addr} {G : Array GenState → Array GenState → Prop} {n : Nat} {Pv : Nat → Value → Prop} {St : Nat → Shared → Prop} {R : Result → Shared → Prop}
    (W : WalksS P w A.in1 I fp wr G n Pv St) (S : Addr) (hSf : S ∉ fp) (ns : List Bool) (hn : n = ns.length) (hb : ns.length + 1 < scanBound) (hval : ∀ i v, Pv i v → ∃ k, ns[i]? = some k ∧ v = .bool k) :
    ∀ (k i : Nat) (s : Shared), n - i = k → i ≤ n → St i s → (∃ c, c ≤ i ∧ PpSet.SetB w s.heap S (fun j => decide (j ∈ ns.take i)) c) →
      (∀ s' c, Moved (S :: wr) G s s' → PpSet.SetB w s'.heap S (fun j => decide (j ∈ ns)) c → R (.ok (.ret .none)) s') →
      codeAny (model P w) A (.builtin "set.update.loop" ⟨[.ref S, .ref I], []⟩) R s := by
  have hSw : S ∉ wr := fun h => hSf (W.sub _ h)
  have hsub : ∀ b ∈ wr, b ∈ S :: wr := fun b hb => List.mem_cons_of_mem _ hb
  intro k
  induction k with
  | zero =>
    intro i s hk' hi hst ⟨c, hc, hS⟩ hR
    have hin : i = n := by omega
    subst hin
    refine codeAny_builtin F.entry_set_update_loop ?_
    rw [Around.under_plainId F.plain_set_update_loop _]
    show wpAny _ A.in1 (pyNext (.ref I) >>= _) _ _ s
    refine wpAny_bind (W.done s _ _ hst fun s' hm => ?_)
    show wpAny _ A.in1 (ret Value.none) _ _ s'
    have e : ns.take i = ns := List.take_of_length_le (by omega)
    rw [e] at hS
    exact wpAny_pure (hR s' c (hm.mono hsub) (hS.at fun o e => hm.heap S o hSw e))
  | succ k ih =>
    intro i s hk' hi hst ⟨c, hc, hS⟩ hR
    have hlt : i < n := by omega
    refine codeAny_builtin F.entry_set_update_loop ?_
    rw [Around.under_plainId F.plain_set_update_loop _]
    show wpAny _ A.in1 (pyNext (.ref I) >>= _) _ _ s
    refine wpAny_bind (W.item i s _ _ hlt hst fun v s' hP hst' hm => ?_)
    obtain ⟨z, hz, rfl⟩ := hval i v hP
    have hS' : PpSet.SetB w s'.heap S (fun j => decide (j ∈ ns.take i)) c := hS.at fun o e => hm.heap S o hSw e
    show wpAny _ A.in1 (holding [Value.bool z] (setAdd S (.bool z)) >>= _) _ _ s'
    refine wpAny_bind (wpAny_holding ?_)
    unfold setAdd
    refine wpAny_holding ?_
    refine wpAny_bind ((PpSet.boolK P w).pyHash (PpSet.boolK_is P w z) ?_)
    refine PpSet.setB_add_hashed (s := { s' with toks := s'.toks + 1 }) hS' (by omega) fun h' hsb hS2 => ?_
    have hS3 : PpSet.SetB w h' S (fun j => decide (j ∈ ns.take (i + 1))) (if decide (z ∈ ns.take i) = true then c else c + 1) := hS2.congr fun j => by
      rw [List.take_add_one, hz]
      simp [List.mem_append]
    have hc3 : (if decide (z ∈ ns.take i) = true then c else c + 1) ≤ i + 1 := by
      split <;> omega
    refine wpAny_pure ⟨plainId_quiet F.plain_set_update_loop _, ih (i + 1) _ (by omega) hlt (W.frame _ s' _ _ hst' (Nat.le_succ _) fun b hb o e => ?_) ⟨_, hc3, hS3⟩ fun s'' c2 hm'' hS'' => ?_⟩
    · rw [hsb.2 b (fun h : b = S => hSf (by rw [← h]; exact hb))]; exact e
    · refine hR s'' c2 (Moved.trans W.gtrans ((hm.mono hsub).then_heap (Nat.le_succ _) fun b o hb e => ?_) hm'') hS''
      rw [hsb.2 b (fun h : b = S => hb (by rw [h]; exact List.mem_cons_self))]; exact e
theorem set_of_bools {l : Addr} {xs : Array Value} (ns : List Bool) {Q : Value → Shared → Prop} (hA : A.handled = none) (hl : s.heap.IsList l xs) (hxl : xs.size = ns.length) (hi : ∀ (i : Nat) (v : Value), xs[i]? = some v → ∃ k, ns[i]? = some k ∧ v = Value.bool k) (hb : ns.length + 1 < scanBound)
    (h : ∀ (g : Heap) (tk k : Nat), PpSet.SetB w g s.heap.objs.size (fun j => decide (j ∈ ns)) k → (∀ b o, s.heap.get? b = some o → g.get? b = some o) → Q (.ref s.heap.objs.size) { s with heap := g, toks := tk }) :
    wpAny (model P w) A (call (.type "set") [.ref l]) Q E s := by
  have xsz := hxl
  obtain ⟨_, _, hmro⟩ := F.called_set.mro
  have a1 := F.called_set.made
  have a2 := F.called_set.sub
  refine wpAny_call (codeAny_of_tree ?_)
  show wpAny _ _ (callAny (.type "set") _) _ _ _
  refine wpAny_pure ⟨Code.quiet_builtin _ (by decide +kernel), codeAny_builtin F.entry_type_call ?_⟩
  rw [Around.under_plain (weight_type_call_type "set" [.ref l] []) rfl]
  have a3 := F.called_set.notType
  have a4 := F.called_set.canCreate
  have a5 := F.typeCall_set_1 (.ref l)
  repeat (any_goals (first | assumption | wp_step))
  refine codeAny_mono (code_set_led1 (.ref l) (E := E) (Q₁ := fun ob s1 => ob = .ref s.heap.objs.size ∧ s1 = { s with heap := s.heap.push (nSet w) }) ⟨rfl, rfl⟩) fun r s1 hr => ?_
  cases r with
  | error _ => exact hr
  | ok f1 =>
    cases f1 with
    | ret ob =>
      obtain ⟨rfl, rfl⟩ := hr
      have b1 : (s.heap.push (nSet w)).get? s.heap.objs.size = some (nSet w) := Heap.get?_push_size _ rfl
      have b2 : Shared.TypeIs { s with heap := s.heap.push (nSet w) } (.ref s.heap.objs.size) "set" := ⟨_, b1, rfl⟩
      have a6 := F.called_set.init.lookup
      have a7 := F.called_set.init.bind (.ref s.heap.objs.size)
      repeat (any_goals (first | assumption | wp_step))
      refine codeAny_mono (codeAny_call_builtin (R := wants (SetToldB w s ns) E) F.called_set.init.plain F.entry_set_init (check_set_init_1 b2 ?_)) fun r2 s2 h2 => ?_
      · obtain ⟨o, ho, hc, n, hd⟩ := hl
        obtain ⟨oc, od, dt, sl⟩ := o
        simp only at hc hd
        subst hc; subst hd
        have c1 : (s.heap.push (nSet w)).get? l = some { cls := .type "list", dict := od, data := .seq xs n, slots := sl } := Heap.get?_push_of_some _ ho
        have c2 := F.sub_list_set
        have c3 := F.sub_list_frozenset
        have c4 : (Value.type "list" == Value.type "dict") = false := by decide
        have c5 : (s.heap.push (nSet w)).IsList l xs := ⟨_, c1, rfl, n, rfl⟩
        unfold Builtin.«set.__init__» noKeywords Builtin.Frozenset.updateFrom
        generalize hG : pyIter = G
        wp_walk
        subst hG
        refine wpAny_pyIter_list c5 ?_
        refine wpAny_bind (wpAny_runValue ?_)
        have l0 : l < s.heap.objs.size := Heap.lt_size ho
        have h3 : A.in1.in1.in1.handled = none := by simp [hA]
        have l1 : l ≠ (s.heap.push (nSet w)).objs.size := by rw [Heap.size_push]; exact Nat.ne_of_lt (Nat.lt_succ_of_lt l0)
        have l2 : s.heap.objs.size ∉ [(s.heap.push (nSet w)).objs.size, l] := by
          rw [Heap.size_push]
          simp only [List.mem_cons, List.mem_singleton, List.not_mem_nil, or_false, not_or]
          exact ⟨Nat.ne_of_lt (Nat.lt_succ_self _), Nat.ne_of_gt l0⟩
        refine set_update_bools ((Walks.list h3 _ l l1 xs).toS) s.heap.objs.size l2 ns xsz hb hi (xs.size - 0) 0 _ (by omega) (Nat.zero_le _) ⟨⟨_, Heap.get?_push_size _ rfl, rfl, rfl⟩, (c5.push _)⟩ ⟨0, Nat.le_refl 0, setB_new_at (Heap.get?_push_of_some _ b1)⟩ ?_
        intro t k hm hS
        obtain ⟨g, q2, q3, q4, q5⟩ := t
        have e1 : q2 = s.gens := hm.gens
        have e2 : q3 = s.drawn := hm.drawn
        have e3 : q5 = s.os := hm.os
        subst e1; subst e2; subst e3
        show wpAny _ _ _ _ _ _
        refine wpAny_pure ?_
        show wpAny _ _ (ret Value.none) _ _ _
        refine wpAny_pure ⟨rfl, g, q4, k, rfl, hS, fun b o e => ?_⟩
        have y0 : b < s.heap.objs.size := Heap.lt_size e
        refine hm.heap b o ?_ (Heap.get?_push_of_some _ (Heap.get?_push_of_some _ e))
        rw [Heap.size_push]
        simp only [List.mem_cons, List.mem_singleton, List.not_mem_nil, or_false, not_or]
        exact ⟨Nat.ne_of_lt y0, Nat.ne_of_lt (Nat.lt_succ_of_lt y0)⟩
      · cases r2 with
        | error _ => exact h2
        | ok f2 =>
          cases f2 with
          | ret r =>
            obtain ⟨rfl, g, tk, k, rfl, hS, hg⟩ := h2
            repeat (any_goals (first | assumption | wp_step))
            exact h _ _ _ hS hg
          | _ => exact h2.elim
    | _ => exact hr.elim
/-- how many unlike ones -/
def cardB (bs : List Bool) : Nat := (if true ∈ bs then 1 else 0) + if false ∈ bs then 1 else 0
theorem setB_card {h : Heap} {a : Addr} {bs : List Bool} {n : Nat} (R : PpSet.SetB w h a (fun j => decide (j ∈ bs)) n) : n = cardB bs := by
  obtain ⟨o, es, ep, t, ho, hex, hd, g, nd, hm, hb, hf, hn, hr⟩ := R
  have hl : (es.toList.map PpSet.keyB).length = n := by rw [List.length_map, Array.length_toList]; exact hn
  generalize es.toList.map PpSet.keyB = ks at nd hm hl
  have m1 : true ∈ ks ↔ true ∈ bs := by rw [← hm]; simp
  have m2 : false ∈ ks ↔ false ∈ bs := by rw [← hm]; simp
  have key : ∀ ks : List Bool, ks.Nodup → ks.length = (if true ∈ ks then 1 else 0) + if false ∈ ks then 1 else 0 := by
    intro ks nd
    match ks, nd with
    | [], _ => rfl
    | [x], _ => cases x <;> rfl
    | [x, y], nd => cases x <;> cases y <;> simp_all
    | x :: y :: z :: r, nd => cases x <;> cases y <;> cases z <;> simp_all
  rw [← hl, key ks nd]
  unfold cardB
  simp only [m1, m2]
end
def tLenSetB (K : PySem.W.Frag) (ta : TE) : TE := fun σ H Q => ta σ H fun x H1 => ∃ (l : Addr) (bs : List Bool), x = .ref l ∧ SqL K H1 l (bs.map V.bl) ∧ bs.length ≤ 4000 ∧ Q (.int (cardB bs : Nat)) H1
theorem bools_at : ∀ {its : List Value} {bs : List Bool}, Vals (bs.map V.bl) its → ∀ (i : Nat) (v : Value), its[i]? = some v → ∃ k, bs[i]? = some k ∧ v = Value.bool k
  | _, [], r, i, v, h => by
    cases r
    simp at h
  | _, b :: bs, r, i, v, h => by
    cases r with
    | cons r1 r2 =>
      cases i with
      | zero =>
        have : _ = v := Option.some.inj h
        subst this
        exact ⟨b, rfl, r1⟩
      | succ i => exact bools_at r2 i v h
theorem pe_lenSetB {X : Cx} {K : PySem.W.Frag} {a : Expr} {ta : TE} {p p2 q pos : Pos} (hK : X.K = K) (hc : X.calm = true) (hg : Gl X "len") (hm : X.mg "len" = none) (hg2 : Gl X "set") (hm2 : X.mg "set" = none) (ha : PE X a ta)
    (na : starEach [a] X.env = (false, eval a X.env) :: starEach [] X.env := by rfl) : PE X (.Call (.Name "len" p) [.Call (.Name "set" p2) [a] [] q] [] pos) (tLenSetB K ta) := by
  subst hK
  refine ⟨fun pins s σ H Q I h => ?_⟩
  refine Call_ (ld_blt I hg hm boot_len ?_)
  refine PyProof.Rows.callWith_builtin1 (PyProof.Rows.args_cons ?_ rfl) rfl rfl
  refine Call_ (ld_blt I hg2 hm2 boot_set ?_)
  refine PyProof.Rows.callWith_type1 (PyProof.Rows.args_cons (thn (ha.run pins s σ H _ I h) fun v s1 ⟨x, H1, I1, r1, q1⟩ => PyProof.Rows.args_nil ?_) na) na rfl
  obtain ⟨l, bs, rfl, hq, hl, q1⟩ := q1
  cases r1
  obtain ⟨its, r, pl, hz⟩ := I1.list hq
  have hlen : its.toArray.size = bs.length := by rw [List.size_toArray, ← r.length, List.length_map]
  refine set_of_bools bs (I1.ok.hd hc) pl.isList hlen (fun i v hv => bools_at r i v (by simpa using hv)) (by unfold scanBound; omega) fun g tk k hS hk => ?_
  refine PyProof.Rows.args_nil ?_
  have hk2 := setB_card hS
  have hk3 : k ≤ 2 := by
    rw [hk2]
    unfold cardB
    split <;> split <;> decide
  obtain ⟨o, es, ep, t, ho, hex, hd, _, _, _, hb, hf, hn, _⟩ := hS
  have I2 : L2.Inv X pins σ H1 { s1 with heap := g, toks := tk } := I1.kept fun b o e => hk b o e
  rw [← hk2] at q1
  exact call_len_set ho hex hd hf (by omega) ⟨.int k, H1, I2.tok _, ⟨_, by rw [hn]⟩, q1⟩
section
variable {c : Ctx} {m : Md} {K : PySem.W.Frag} {te : TE}
theorem bool_vs : ∀ {vs : List V} {xs : List Bool} {H : Hp}, Paired (rBool.r H) vs xs → vs = xs.map V.bl
  | _, _, _, .nil => rfl
  | _, _, _, .cons h t => by rw [show _ = _ from h, bool_vs t]; rfl
theorem ew_lenSetB {W : (List Bool → Prop) → Prop} (h : EW c te m (rList rBool) W) : EW c (tLenSetB K te) .n rInt (fun P => W fun xs => xs.length ≤ 4000 ∧ P (cardB xs : Nat)) := fun P wp T σ H hd Q k => h _ wp T σ H hd _ fun xs v H1 px ⟨A, B, q⟩ => by
  obtain ⟨l, vs, e, h1, h2⟩ := (show (rList rBool).r (view _ A B m H1) v xs from q.hd)
  have hv := bool_vs h2
  exact ⟨l, xs, e, by rw [← hv]; exact SqL.of (view_full _ _ h1), px.1, k _ _ H1 px.2 (HD.push q.tl (p := rInt.at _) rfl)⟩
theorem ep_lenSetB {S : Prop} {xs : List Bool} (h : EP c te m (rList rBool) S xs) : EP c (tLenSetB K te) .n rInt (S ∧ xs.length ≤ 4000) (cardB xs : Nat) := fun s T σ H hd Q k => h s.1 T σ H hd _ fun v H1 ⟨A, B, q⟩ => by
  obtain ⟨l, vs, e, h1, h2⟩ := (show (rList rBool).r (view _ A B m H1) v xs from q.hd)
  have hv := bool_vs h2
  exact ⟨l, xs, e, by rw [← hv]; exact SqL.of (view_full _ _ h1), s.2, k _ H1 (HD.push q.tl (p := rInt.at _) rfl)⟩
end
end TW

set_option maxRecDepth 100000
/-! ## 44. // by any number but 0 -/
namespace TW
open PySem PySem.Spec PyProof.Rows L2
def CDivG (_ j : Int) : Prop := j ≠ 0 ∧ j.natAbs.log2 < 9000
theorem op_fdivG {X : Cx} : OpR X (binaryOp .FloorDiv) (rI CDivG fun i j => .int (i.fdiv j)) := by
  intro pins s σ H x y v u Q I rx ry h
  obtain ⟨i, j, ex, ey, hc, q⟩ := h
  subst ex ey
  obtain ⟨t, rfl⟩ := (show ∃ t, v = Value.int i t from rx)
  obtain ⟨t2, rfl⟩ := (show ∃ t, u = Value.int j t from ry)
  exact floordiv_int hc.1 ⟨.int (i.fdiv j), H, I.tok _, ⟨_, rfl⟩, q⟩ (.inl (PyProof.noPylong_of_log2 hc.2))
end TW

set_option maxRecDepth 100000
/-! ## 45. not xs of a list, as a value -/
namespace TW
open PySem PySem.Spec PyProof.Rows L2
section
variable {c : Ctx} {m : Md} {K : PySem.W.Frag} {te : TE} {α : Type} {R : Rp α}
theorem pe_notTK {X : Cx} {K : PySem.W.Frag} {a : Expr} {ta : TE} {pos : Pos} (hK : X.K = K) (ha : PE X a ta) : PE X (.UnaryOp .Not a pos) (tNotT K ta) := by subst hK; exact pe_notT ha
theorem ep_notL {S : Prop} {a : List α} (h : EP c te m (rList R) S a) : EP c (tNotT K te) .n rBool S a.isEmpty := fun s T σ H hd Q k => h s T σ H hd _ fun v H' ⟨A, B, q⟩ => by
  obtain ⟨l, us, e, h1, h2⟩ := (show (rList R).r (view _ A B m H') v a from q.hd)
  refine ⟨!us.isEmpty, by rw [e]; exact .inl ⟨us, SqL.of (view_full _ _ h1), rfl⟩, ?_⟩
  rw [Bool.not_not, emp_of h2]
  exact k _ H' (HD.push q.tl (p := rBool.at _) rfl)
theorem ew_notL {W : (List α → Prop) → Prop} (h : EW c te m (rList R) W) : EW c (tNotT K te) .n rBool (fun P => W fun a => P a.isEmpty) := fun P w T σ H hd Q k => h _ w T σ H hd _ fun a v H' pa ⟨A, B, q⟩ => by
  obtain ⟨l, us, e, h1, h2⟩ := (show (rList R).r (view _ A B m H') v a from q.hd)
  refine ⟨!us.isEmpty, by rw [e]; exact .inl ⟨us, SqL.of (view_full _ _ h1), rfl⟩, ?_⟩
  rw [Bool.not_not, emp_of h2]
  exact k _ _ H' pa (HD.push q.tl (p := rBool.at _) rfl)
end
end TW

set_option maxRecDepth 100000
set_option maxHeartbeats 4000000
/-! ## 41. generator expressions in any, all: the frame -/
namespace GnX
open PySem PySem.Spec PyProof.Rows L2 GenW GxR
theorem over_gstart {A : Around} {elt tg iter : Expr} {ifs : List Expr} {scope : Scope} {pos : Pos} {it : Value} {env : Env} :
    A.over (.compStart (.GeneratorExp elt [⟨tg, iter, ifs, 0⟩] scope pos) 0 it .none env) [] = A.deeper env := by
  first
    | rfl
    | (obtain ⟨hd, d, fr, gs, u⟩ := A; simp [Around.over, Around.deeper, marksOver, frameCount, unitsOf, envsOf, guardsOf, pushEnvs, pushGuards, Code.envs, Code.env?, Code.isFrame, Code.guards, Code.isGuard, Code.weight, Code.frames, Code.isCreation, Code.isCaller, Code.cUnits])
theorem over_gloop {A : Around} {elt tg iter : Expr} {ifs : List Expr} {scope : Scope} {pos : Pos} {it : Value} {env : Env} :
    A.over (.compLoop (.GeneratorExp elt [⟨tg, iter, ifs, 0⟩] scope pos) 0 it .none env) [] = A.deeper env := by
  first
    | rfl
    | (obtain ⟨hd, d, fr, gs, u⟩ := A; simp [Around.over, Around.deeper, marksOver, frameCount, unitsOf, envsOf, guardsOf, pushEnvs, pushGuards, Code.envs, Code.env?, Code.isFrame, Code.guards, Code.isGuard, Code.weight, Code.frames, Code.isCreation, Code.isCaller, Code.cUnits])
/-- the generator's frame -/
abbrev gCx (X : Cx) (A : Around) (s : Shared) (H : Hp) (N : List Str) (cenv : Env) (fp : List Addr) (pn : List (Addr × Obj)) : Cx :=
  { X with A := A, N := N, s_0 := s, H_0 := H, env := cenv, outer := X.stack, stack := cenv :: X.stack, ex := fp, fn := fun _ => false, calm := true, pn := pn, xe := fun _ _ => False }
/-- N: the targets (t of them), then the names caught; caps: where these stand in the def -/
structure GblkOk (NX : List Str) (sc scope : Scope) (N : List Str) (t : Nat) (caps : List Nat) : Prop where
  kind : scope.kind = .function
  co : scope.isCoroutine = false
  cell : ∀ y ∈ scope.names, y.2 ≠ .cell
  dot : scope.names.lookup (".0" : Str) = some NameKind.local
  free : ∀ y ∈ scope.names, y.2 = .free → sc.names.lookup y.1 = some .cell ∨ sc.names.lookup y.1 = some .free
  nd : N.Nodup
  len : N.length = t + caps.length
  cap : ∀ (j i : Nat), caps[j]? = some i → ∃ y, N[t + j]? = some y ∧ NX[i]? = some y ∧ scope.names.lookup y = some .free
def gblkC (NX : List Str) (sc scope : Scope) (N : List Str) (t : Nat) (caps : List Nat) : Bool :=
  decide (scope.kind = .function) && (!scope.isCoroutine && (decide (∀ y ∈ scope.names, y.2 ≠ .cell) && (decide (scope.names.lookup (".0" : Str) = some NameKind.local) && (decide (∀ y ∈ scope.names, y.2 = .free → sc.names.lookup y.1 = some .cell ∨ sc.names.lookup y.1 = some .free) &&
  (decide N.Nodup && (decide (N.length = t + caps.length) && (List.range caps.length).all fun j => match caps[j]?, N[t + j]? with
    | some i, some y => decide (NX[i]? = some y) && decide (scope.names.lookup y = some .free)
    | _, _ => false))))))
theorem gblkOk_by {NX : List Str} {sc scope : Scope} {N : List Str} {t : Nat} {caps : List Nat} (h : gblkC NX sc scope N t caps = true) : GblkOk NX sc scope N t caps := by
  unfold gblkC at h
  simp only [Bool.and_eq_true, decide_eq_true_eq, Bool.not_eq_true', List.all_eq_true, List.mem_range] at h
  obtain ⟨h1, h2, h3, h4, h5, h6, h7, h8⟩ := h
  refine ⟨h1, h2, h3, h4, h5, h6, h7, fun j i e => ?_⟩
  have hj : j < caps.length := (List.getElem?_eq_some_iff.mp e).1
  have q := h8 j hj
  rw [e] at q
  cases e2 : N[t + j]? with
  | none => rw [e2] at q; cases q
  | some y =>
    rw [e2] at q
    simp only [Bool.and_eq_true, decide_eq_true_eq] at q
    exact ⟨y, rfl, q.1, q.2⟩
/-- the slots at the generator's entry -/
def gS (σ : L2.St) (t : Nat) (caps : List Nat) : L2.St := List.replicate t none ++ caps.map fun i => (σ[i]?).join
theorem gS_length {σ : L2.St} {t : Nat} {caps : List Nat} : (gS σ t caps).length = t + caps.length := by simp [gS]
theorem gS_some {σ : L2.St} {t : Nat} {caps : List Nat} {i : Nat} {v : V} (h : (gS σ t caps)[i]? = some (some v)) : ∃ j k, i = t + j ∧ caps[j]? = some k ∧ σ[k]? = some (some v) := by
  unfold gS at h
  by_cases hi : i < t
  · rw [List.getElem?_append_left (by simpa using hi), List.getElem?_replicate] at h
    split at h <;> cases h
  · rw [List.getElem?_append_right (by simpa using hi)] at h
    simp only [List.length_replicate, List.getElem?_map] at h
    cases e : caps[i - t]? with
    | none => rw [e] at h; cases h
    | some k =>
      rw [e] at h
      refine ⟨i - t, k, by omega, e, ?_⟩
      simp only [Option.map_some, Option.some.injEq] at h
      cases q : σ[k]? with
      | none => rw [q] at h; cases h
      | some x => rw [q] at h; simp only [Option.join_some] at h; rw [h]
section
variable {X : Cx} {pins : List (Addr × Obj)} {σ : L2.St} {H : Hp} {s : Shared}
theorem gen_start {scope : Scope} {N : List Str} {t : Nat} {caps : List Nat} {fp : List Addr} (I : Inv X pins σ H s) (ok : GblkOk X.N X.env.scope scope N t caps) (hfp : ∀ b ∈ fp, FpOk X pins H b ∧ b < s.heap.objs.size)
    {cenv : Env} {code : Value} (hce : cenv = genEnv scope (cloFrom X.env.cells scope.names []) s.heap.objs.size code builtinsNs X.env) {h' : Heap} {m : Str → Option Value} {fo go : Obj} (hn : h'.Ns s.heap.objs.size m) (hs : Heap.SameBut s.heap.objs.size (s.heap.push fo) h')
    {A : Around} (hA : A.handled = none) (hfr : A.frames = some (cenv :: X.stack)) (hgo : ∀ v, go.data ≠ .cell v) {s5 : Shared} (hk : ∀ b o, (h'.push go).get? b = some o → s5.heap.get? b = some o) (hpush : (h'.push go).get? h'.objs.size = some go) (hos : s5.os = s.os) (hb : AllBare s5.gens) :
    Inv (gCx X A s H N cenv fp [(h'.objs.size, go)]) [] (gS σ t caps) H s5 := by
  have hfree : ∀ y ∈ scope.names, y.2 = .free → ∃ c, X.env.cells.lookup y.1 = some c := fun y hy e => by
    rcases ok.free y hy e with k | k
    · exact I.ok.has _ (.inl k)
    · exact I.ok.has _ (.inr k)
  have hsz : h'.objs.size = s.heap.objs.size + 1 := by rw [hs.1, Heap.size_push]
  have kp : ∀ b o, s.heap.get? b = some o → s5.heap.get? b = some o := fun b o e => hk b o (Heap.get?_push_of_some _ (hs.extBut b o (Nat.ne_of_lt (Heap.lt_size e)) (Heap.get?_push_of_some _ e)))
  have hL : cenv.locals = s.heap.objs.size := by rw [hce]; rfl
  have hcl : cenv.cells = cloFrom X.env.cells scope.names [] := by rw [hce]; rfl
  have hsc : cenv.scope = scope := by rw [hce]; rfl
  have cm : ∀ {y c}, cenv.cells.lookup y = some c → X.env.cells.lookup y = some c ∧ c < s.heap.objs.size := fun {y c} e => by
    rw [hcl] at e
    rcases cloFrom_mem (PySem.mem_of_lookup e) with hm | ⟨h1, rfl⟩
    · cases hm
    · obtain ⟨c, hc⟩ := hfree _ h1 rfl
      rw [hc]
      obtain ⟨w, z⟩ := I.cell _ _ hc
      exact ⟨rfl, z.lt⟩
  have look : ∀ {y}, scope.names.lookup y = some .free → ∃ c, cenv.cells.lookup y = some c ∧ X.env.cells.lookup y = some c := fun {y} hl => by
    have hy : (y, NameKind.free) ∈ scope.names := PySem.mem_of_lookup hl
    obtain ⟨c', e'⟩ := mem_lookup (cloFrom_has (cells := X.env.cells) (acc := []) hy)
    rw [← hcl] at e'
    exact ⟨c', e', (cm e').1⟩
  have okB : (gCx X A s H N cenv fp [(h'.objs.size, go)]).Ok := by
    refine ⟨I.ok.mod, by show cenv.scope.kind = _; rw [hsc]; exact ok.kind, by show cenv.globals = _; rw [hce]; exact I.ok.glob, by show cenv.builtins = _; rw [hce]; rfl, by show s.heap.objs.size ≤ cenv.locals; rw [hL]; exact Nat.le_refl _,
      fun y z c e1 e2 => I.ok.inj y z c (cm e1).1 (cm e2).1, fun y hy => ?_, fun y c z e => absurd (show false = true from z) (by decide), fun _ => hA, hfr, .inr ⟨rfl, by show cenv.frame = some cenv.locals; rw [hce]; rfl⟩,
      fun b hb => ⟨?_, fun y c e z => ?_⟩, I.bs, Nat.le_trans I.ok.bsz I.sz, fun b o e hb => ?_, fun b hb z => ?_, I.stack, I.stkFree⟩
    · have hy : cenv.scope.names.lookup y = some .cell ∨ cenv.scope.names.lookup y = some .free := hy
      rw [hsc] at hy
      rcases hy with hy | hy
      · exact absurd rfl (ok.cell _ (PySem.mem_of_lookup hy))
      · obtain ⟨c, h1, _⟩ := look hy
        exact ⟨c, h1⟩
    · show b ≠ cenv.locals
      rw [hL]; exact Nat.ne_of_lt (hfp b hb).2
    · exact (hfp b hb).1.2.2.2.2.1 y c (cm (show cenv.cells.lookup y = some c from e)).1 z
    · rcases (hfp b hb).1.2.2.2.1 with z | z
      · exact I.ok.noex b o e z
      · exact absurd (Nat.lt_of_lt_of_le (Heap.lt_size e) (Nat.le_trans I.ok.bsz z)) (Nat.lt_irrefl _)
    · rcases List.mem_cons.mp (I.stkSub b z) with z | z
      · exact (hfp b hb).1.2.1 z
      · exact (hfp b hb).1.2.2.1 z
  refine ⟨okB, hos, hb, Un.kept kp, ⟨m, ?_, fun i y av e1 e2 e3 => ?_⟩, fun y c e => ?_, ?_, fun y c e => ?_, fun p hp => ?_, I.hok.kept kp, by rw [gS_length]; exact ok.len.symm⟩
  · show Heap.Ns _ cenv.locals _
    rw [hL]
    exact (hn.push go).keeps hk
  · obtain ⟨j, k, rfl, hj, hσ⟩ := gS_some e2
    obtain ⟨y', h1, h2, h3⟩ := ok.cap j k hj
    have e1 : N[t + j]? = some y := e1
    rw [h1] at e1
    cases e1
    have hvis : Vis X.env.scope y := (ok.free _ (PySem.mem_of_lookup h3) rfl).elim (fun k => .inr (.inl k)) (fun k => .inr (.inr k))
    obtain ⟨m0, hn0, hl⟩ := I.loc
    obtain ⟨w, r, q⟩ := hl k y av h2 hσ hvis
    refine ⟨w, r, .inr ⟨.inr (by show cenv.scope.names.lookup y = _; rw [hsc]; exact h3), ?_⟩⟩
    obtain ⟨c, g1, g2⟩ := look h3
    rcases q with ⟨kk, _⟩ | ⟨_, c', e', z⟩
    · have kk : X.env.scope.names.lookup y = some .local := kk
      rcases ok.free _ (PySem.mem_of_lookup h3) rfl with k' | k' <;> rw [show X.env.scope.names.lookup y = _ from k'] at kk <;> cases kk
    · rw [g2] at e'; cases e'
      exact ⟨c, g1, z.keeps kp⟩
  · obtain ⟨h1, _⟩ := cm (show cenv.cells.lookup y = some c from e)
    obtain ⟨w, z⟩ := I.cell y c h1
    exact ⟨w, z.keeps kp⟩
  · show H cenv.locals = none
    rw [hL]; exact I.hok.fresh (Nat.le_refl _)
  · obtain ⟨h1, _⟩ := cm (show cenv.cells.lookup y = some c from e)
    exact I.freeC y c h1
  · have hp : p ∈ [(h'.objs.size, go)] ++ [] := hp
    rw [List.append_nil, List.mem_singleton] at hp
    subst hp
    refine ⟨hk _ _ hpush, I.hok.fresh (by rw [hsz]; exact Nat.le_succ _), ?_, fun z => ?_, hgo⟩
    · show h'.objs.size ≠ cenv.locals
      rw [hL, hsz]; exact Nat.succ_ne_self _
    · rcases List.mem_cons.mp (I.stkSub _ z) with z | z
      · have h1 := I.lt
        rw [← show h'.objs.size = X.env.locals from z, hsz] at h1
        exact absurd h1 (Nat.not_lt.mpr (Nat.le_succ _))
      · exact I.nofs (a := h'.objs.size) (by rw [hsz]; exact Nat.le_succ _) z
end
end GnX

set_option maxRecDepth 100000
set_option maxHeartbeats 4000000
/-! ## 42. generator expressions: the turns, any and all -/
namespace GnX
open PySem PySem.Spec PyProof.Rows L2 GenW GxR
def GEnd (Xg : Cx) (Q0 : Hp → Prop) : GenEnd := fun n s₀ r s1 => ((r = .ok (.ret .none) ∨ r = .ok .next) ∧ ∃ σ' H', Inv Xg [] σ' H' s1 ∧ Q0 H') ∨ ∃ e, r = .error e ∧ False
def GItem (Xg : Cx) (stop : Bool) (Qs : Hp → Prop) : Protocol := fun n s₀ v s1 kap => ∃ b σ' H', v = .bool b ∧ Inv Xg [] σ' H' s1 ∧ (b = stop → Qs H') ∧
  (b ≠ stop → ∀ s', (∀ b o, s1.heap.get? b = some o → s'.heap.get? b = some o) → s'.os = s1.os → AllBare s'.gens → kap (.send .none) s')
theorem inv_ext {X : Cx} {pins : List (Addr × Obj)} {σ : L2.St} {H : Hp} {s s' : Shared} (I : Inv X pins σ H s) (hk : ∀ b o, s.heap.get? b = some o → s'.heap.get? b = some o) (ho : s'.os = s.os) (hb : AllBare s'.gens) : Inv X pins σ H s' :=
  I.call' (ch := []) ho (Un.kept hk) (I.hok.kept hk) hb fun b z => absurd z (by simp)
def GTurn (J : It) (stop : Bool) (Qs : Bool → Hp → Prop) (g : TG) (te : TE) (σ0 : L2.St) (vs : List Nat) (W : Nat → Nat → Hp → Prop) : Prop := ∀ i m H, W i m H →
  (J.stop i H ∧ Qs (!stop) H) ∨ (J.go i H ∧ ∃ Nx : Hp → Prop, (∀ H', Nx H' → ∃ m', m' < m ∧ W (i + 1) m' H') ∧ ∀ x H', J.yld i H x H' → g x σ0 H' fun σ2 H3 => wipe σ2 vs = wipe σ0 vs ∧ te σ2 H3 fun y H4 => ∃ b, y = .bl b ∧ if b = stop then Qs stop H4 else Nx H4)
theorem gseg {Xg : Cx} {A : Around} {elt tg iter : Expr} {scope : Scope} {pos : Pos} {it : Addr} {fp : List Addr} {tn : Nat → Heap → Prop} {J : It} {g : TG} {te : TE} {σ0 : L2.St} {vs : List Nat} {stop : Bool} {Qs : Bool → Hp → Prop} {W : Nat → Nat → Hp → Prop}
    (eA : Xg.A = A.deeper Xg.env) (hxe : Xg.xe = fun _ _ => False) (hcalm : Xg.calm = true) (T : Turn Xg.prog Xg.w Xg.K tg J fp it tn) (hco : Xg.env.scope.isCoroutine = false) (pg : PG Xg tg g) (pe : PE Xg elt te)
    (stat : ∀ {σ' : L2.St} {H' : Hp} {s' : Shared}, Inv Xg [] σ' H' s' → (∀ b ∈ fp, H' b = none) → ∀ b ∈ fp, FpOk Xg [] H' b) (hw0 : wipe σ0 vs = σ0) (turn : GTurn J stop Qs g te σ0 vs W) :
    ∀ (m n i : Nat) (H : Hp) (s₀ s : Shared), m < n → W i m H → Inv Xg [] σ0 H s → tn i s.heap → (∀ b ∈ fp, H b = none) →
      Seg (model Xg.prog Xg.w) A (GEnd Xg (Qs (!stop))) (GItem Xg stop (Qs stop)) n s₀ (.compLoop (.GeneratorExp elt [⟨tg, iter, [], 0⟩] scope pos) 0 (.ref it) .none Xg.env)
        ((model Xg.prog Xg.w).den (.compLoop (.GeneratorExp elt [⟨tg, iter, [], 0⟩] scope pos) 0 (.ref it) .none Xg.env)) [] s := by
  intro m
  induction m using Nat.strongRecOn with
  | _ m ih =>
  intro n i H s₀ s hmn w5 I5 st5 n5
  obtain ⟨n, rfl⟩ : ∃ k, n = k + 1 := ⟨n - 1, by omega⟩
  have oA : A.over (.compLoop (.GeneratorExp elt [⟨tg, iter, [], 0⟩] scope pos) 0 (.ref it) .none Xg.env) [] = Xg.A := by rw [over_gloop, eA]
  show Seg _ A _ _ _ s₀ _ ((compTurn (.GeneratorExp elt [⟨tg, iter, [], 0⟩] scope pos) 0 (.ref it) .none Xg.env).onRaise (leaving Xg.env)) [] s
  rw [compTurn_gen, Sem.onRaise_eq_wrap]
  refine seg_bind_wrap (wpAny_standAt ?_)
  rcases turn i m H w5 with ⟨stp, qq⟩ | ⟨go, Nx, hNx, step⟩
  · refine seg_bind_wrap ?_
    rw [oA]
    refine thnF (T.done Xg rfl rfl rfl hcalm i [] s _ H (fun _ _ => False) I5 (stat I5 n5) st5 stp) fun r s6 ⟨hr, I6⟩ => ?_
    subst hr
    exact seg_end (.ok .next) (.inl ⟨.inr rfl, _, H, I6, qq⟩)
  · refine seg_bind_wrap ?_
    rw [oA]
    refine thnF (T.item Xg rfl rfl rfl hcalm i [] s _ H (fun _ _ => False) I5 (stat I5 n5) st5 go) fun r s6 ⟨u, hr, h6⟩ => ?_
    subst hr
    refine seg_bind_wrap ?_
    rw [oA]
    refine thnF h6 fun _ s7 ⟨x, H7, I7, r7, y7, st7, n7⟩ => ?_
    have I7' := I7.pinned (stat I7 n7) (T.obj _ _ st7)
    have pgr := pg.run _ s7 _ H7 x u _ I7' r7 (step x H7 y7)
    rw [hxe] at pgr
    refine seg_bind_wrap ?_
    rw [oA]
    refine thnF pgr fun _ s8 ⟨σ8, H8, I8, hw8, q8⟩ => ?_
    refine seg_bind_wrap ?_
    rw [oA]
    refine wpAny_tests_nil ?_
    simp only [if_true]
    have hy : ∀ v, yieldOut Xg.env v = yieldValue v := fun v => by simp only [yieldOut, hco, Bool.false_eq_true, if_false]
    simp only [hy]
    rw [Sem.bind_eq_wrap', Sem.bind_eq_wrap', Sem.wrap_wrap, Sem.wrap_wrap]
    refine seg_wrap ?_
    rw [oA]
    have per := pe.run _ s8 σ8 H8 _ I8 q8
    rw [hxe] at per
    refine thnF per fun z s10 ⟨yv, H10, I10, r10, b, eb, nx⟩ => ?_
    subst eb
    have ez : z = .bool b := r10
    subst ez
    refine seg_at (seg_yield rfl rfl rfl ⟨b, σ8, H10, rfl, I10.unpinned (pins := []), fun e => ?_, fun e s' hk ho hb => ?_⟩)
    · rw [if_pos e] at nx
      exact nx
    · rw [if_neg e] at nx
      obtain ⟨m', hm, w'⟩ := hNx H10 nx
      have I11 := inv_ext I10 hk ho hb
      have pin' : ∀ b ∈ fp, ∀ o, s7.heap.get? b = some o → s'.heap.get? b = some o ∧ H10 b = none := fun b hb o e =>
        let z := I11.pin (b, o) (List.mem_append_right _ (List.mem_append_right _ (mem_pinsAt hb e)))
        ⟨z.1, z.2.1⟩
      have hl : σ0.length = σ8.length := by
        have := congrArg List.length hw8
        rw [wipe_length, wipe_length] at this
        exact this.symm
      refine seg_again rfl (ih m' hm n (i + 1) H10 s' s' (by omega) w' ((I11.unpinned (pins := [])).weak hl (fun j v e => ?_)) (T.keep _ _ _ st7 fun b hb o e => (pin' b hb o e).1) fun b hb => ?_)
      · rw [← hw0, ← hw8] at e
        exact (wipe_some e).1
      · obtain ⟨o, e, _⟩ := T.obj _ _ st7 b hb
        exact (pin' b hb o e).2
theorem gsegStart {Xg : Cx} {A : Around} {elt tg iter : Expr} {scope : Scope} {pos : Pos} {it : Addr} {fp : List Addr} {tn : Nat → Heap → Prop} {J : It} {g : TG} {te : TE} {σ0 : L2.St} {vs : List Nat} {stop : Bool} {Qs : Bool → Hp → Prop} {W : Nat → Nat → Hp → Prop}
    (eA : Xg.A = A.deeper Xg.env) (hxe : Xg.xe = fun _ _ => False) (hcalm : Xg.calm = true) (T : Turn Xg.prog Xg.w Xg.K tg J fp it tn) (hco : Xg.env.scope.isCoroutine = false) (pg : PG Xg tg g) (pe : PE Xg elt te)
    (stat : ∀ {σ' : L2.St} {H' : Hp} {s' : Shared}, Inv Xg [] σ' H' s' → (∀ b ∈ fp, H' b = none) → ∀ b ∈ fp, FpOk Xg [] H' b) (hw0 : wipe σ0 vs = σ0) (turn : GTurn J stop Qs g te σ0 vs W)
    {m : Nat} {H : Hp} {s₀ s : Shared} (w5 : W 0 m H) (I5 : Inv Xg [] σ0 H s) (st5 : tn 0 s.heap) (n5 : ∀ b ∈ fp, H b = none) :
    Seg (model Xg.prog Xg.w) A (GEnd Xg (Qs (!stop))) (GItem Xg stop (Qs stop)) (m + 1) s₀ (.compStart (.GeneratorExp elt [⟨tg, iter, [], 0⟩] scope pos) 0 (.ref it) .none Xg.env)
        ((model Xg.prog Xg.w).den (.compStart (.GeneratorExp elt [⟨tg, iter, [], 0⟩] scope pos) 0 (.ref it) .none Xg.env)) [] s := by
  have loop := gseg (iter := iter) (scope := scope) (pos := pos) eA hxe hcalm T hco pg pe stat hw0 turn m (m + 1) 0 H s₀ s (Nat.lt_succ_self _) w5 I5 st5 n5
  show Seg _ A _ _ _ s₀ _ ((compStart (.GeneratorExp elt [⟨tg, iter, [], 0⟩] scope pos) 0 (.ref it) .none Xg.env).onRaise (leaving Xg.env)) [] s
  unfold compStart
  rw [Sem.onRaise_eq_wrap]
  show Seg _ A _ _ _ s₀ _ ((ask >>= _).wrap _ _ _ _) [] s
  refine seg_bind_wrap (wpAny_askSetting ?_)
  split
  · exact seg_again rfl loop
  · first
      | exact seg_bind_wrap (wpAny_rule (seg_bind_wrap (wpAny_standAt (seg_bind_wrap (T.self _ 0 s _ _ st5 (seg_again rfl loop))))))
      | (refine seg_bind_wrap (wpAny_rule ?_); show Seg _ A _ _ _ s₀ _ ((standAt iter.pos >>= _).wrap _ _ _ _) [] s; exact seg_bind_wrap (wpAny_standAt (seg_bind_wrap (T.self _ 0 s _ _ st5 (seg_again rfl loop)))))
section
variable {Xg : Cx} {A : Around} {R : Result → Shared → Prop} {a : Addr} {gn : Nat} {go : Obj} {Qs : Bool → Hp → Prop}
theorem any_loop (hh : A.handled = none) (hd : A.depth < recursionLimit) (hpn : Xg.pn = [(a, go)]) (hgen : ∀ h : Heap, h.get? a = some go → h.IsGen a gn)
    (hR : ∀ b s' σ' H', Inv Xg [] σ' H' s' → Qs b H' → R (.ok (.ret (.bool b))) s') :
    ∀ (n : Nat) (s : Shared), s.heap.IsGen a gn → s.heap.NoLimit →
      (∃ gs, s.gens[gn]? = some gs ∧ gs.Goes (model Xg.prog Xg.w) A.in1.in1 (GEnd Xg (Qs (!true))) (GItem Xg true (Qs true)) n (.send .none) (s.setGen gn .running)) →
      codeAny (model Xg.prog Xg.w) A (.builtin "any.loop" ⟨[.ref a], []⟩) R s := by
  have pinned : ∀ {σ' : L2.St} {H' : Hp} {s' : Shared}, Inv Xg [] σ' H' s' → s'.heap.IsGen a gn := fun {σ' H' s'} I => hgen _ (I.pin (a, go) (by rw [hpn]; simp)).1
  intro n
  induction n with
  | zero =>
    intro s hg hl ⟨gs, hgs, hgo⟩
    refine codeAny_builtin F.entry_any_loop ?_
    rw [Around.under_plainId F.plain_any_loop _]
    show wpAny _ A.in1 (pyNext (.ref a) >>= _) _ _ s
    refine wpAny_bind (next_genG (A := A.in1) hh hl hd hg hgs hgo (fun v s₁ gs' hbare hv => ?_) (fun s₁ hp h' hk => ?_) fun e s₁ he => he.elim)
    · obtain ⟨b, σ', H', rfl, I, q1, q2⟩ := hv
      refine wpAny_bind (wpAny_holding (wpAny_truthy_bool ?_))
      refine wpAny_bind (wpAny_letGo ?_)
      cases b with
      | true =>
        simp only [if_true]
        refine wpAny_bind (wpAny_rule (wpAny_pure ?_))
        exact hR true _ _ _ (inv_ext I (fun _ _ e => e) rfl (allBare_setGen I.bare hbare)) (q1 rfl)
      | false => exact (q2 (by decide) s₁ (fun _ _ e => e) rfl I.bare).elim
    · obtain ⟨σ', H', I, q⟩ := hp
      refine wpAny_bind (wpAny_rule (wpAny_pure ?_))
      exact hR false _ _ _ (inv_ext (s' := { s₁.setGen gn .finished with heap := h' }) I hk rfl (allBare_setGen I.bare rfl)) q
  | succ n ih =>
    intro s hg hl ⟨gs, hgs, hgo⟩
    have hgl : gn < s.gens.size := (Array.getElem?_eq_some_iff.mp hgs).1
    refine codeAny_builtin F.entry_any_loop ?_
    rw [Around.under_plainId F.plain_any_loop _]
    show wpAny _ A.in1 (pyNext (.ref a) >>= _) _ _ s
    refine wpAny_bind (wpAny_gsz (n := gn + 1) hgl (next_genG (A := A.in1) hh hl hd hg hgs hgo (fun v s₁ gs' hbare hv => ?_) (fun s₁ hp h' hk => ?_) fun e s₁ he => he.elim))
    · intro hsz
      obtain ⟨b, σ', H', rfl, I, q1, q2⟩ := hv
      refine wpAny_bind (wpAny_holding (wpAny_truthy_bool ?_))
      refine wpAny_bind (wpAny_letGo ?_)
      have hsz1 : gn < s₁.gens.size := by
        have q : (s₁.setGen gn gs').gens.size = s₁.gens.size := setGen_size _ _ _
        have hsz' : gn + 1 ≤ (s₁.setGen gn gs').gens.size := hsz
        omega
      cases b with
      | true =>
        simp only [if_true]
        refine wpAny_bind (wpAny_rule (wpAny_pure ?_))
        exact hR true _ _ _ (inv_ext I (fun _ _ e => e) rfl (allBare_setGen I.bare hbare)) (q1 rfl)
      | false =>
        simp only [Bool.false_eq_true, if_false]
        refine wpAny_pure ⟨plainId_quiet F.plain_any_loop _, ih (s₁.setGen gn gs') (show s₁.heap.IsGen a gn from pinned I) (show s₁.heap.NoLimit from I.nolimit) ⟨gs', setGen_at hsz1, ?_⟩⟩
        exact q2 (by decide) _ (fun _ _ e => e) rfl (allBare_setGen (allBare_setGen I.bare hbare) rfl)
    · intro hsz
      obtain ⟨σ', H', I, q⟩ := hp
      refine wpAny_bind (wpAny_rule (wpAny_pure ?_))
      exact hR false _ _ _ (inv_ext (s' := { s₁.setGen gn .finished with heap := h' }) I hk rfl (allBare_setGen I.bare rfl)) q
theorem all_loop (hh : A.handled = none) (hd : A.depth < recursionLimit) (hpn : Xg.pn = [(a, go)]) (hgen : ∀ h : Heap, h.get? a = some go → h.IsGen a gn)
    (hR : ∀ b s' σ' H', Inv Xg [] σ' H' s' → Qs b H' → R (.ok (.ret (.bool b))) s') :
    ∀ (n : Nat) (s : Shared), s.heap.IsGen a gn → s.heap.NoLimit →
      (∃ gs, s.gens[gn]? = some gs ∧ gs.Goes (model Xg.prog Xg.w) A.in1.in1 (GEnd Xg (Qs (!false))) (GItem Xg false (Qs false)) n (.send .none) (s.setGen gn .running)) →
      codeAny (model Xg.prog Xg.w) A (.builtin "all.loop" ⟨[.ref a], []⟩) R s := by
  have pinned : ∀ {σ' : L2.St} {H' : Hp} {s' : Shared}, Inv Xg [] σ' H' s' → s'.heap.IsGen a gn := fun {σ' H' s'} I => hgen _ (I.pin (a, go) (by rw [hpn]; simp)).1
  intro n
  induction n with
  | zero =>
    intro s hg hl ⟨gs, hgs, hgo⟩
    refine codeAny_builtin F.entry_all_loop ?_
    rw [Around.under_plainId F.plain_all_loop _]
    show wpAny _ A.in1 (pyNext (.ref a) >>= _) _ _ s
    refine wpAny_bind (next_genG (A := A.in1) hh hl hd hg hgs hgo (fun v s₁ gs' hbare hv => ?_) (fun s₁ hp h' hk => ?_) fun e s₁ he => he.elim)
    · obtain ⟨b, σ', H', rfl, I, q1, q2⟩ := hv
      refine wpAny_bind (wpAny_holding (wpAny_truthy_bool ?_))
      refine wpAny_bind (wpAny_letGo ?_)
      cases b with
      | false =>
        simp only [Bool.false_eq_true, if_false]
        refine wpAny_bind (wpAny_rule (wpAny_pure ?_))
        exact hR false _ _ _ (inv_ext I (fun _ _ e => e) rfl (allBare_setGen I.bare hbare)) (q1 rfl)
      | true => exact (q2 (by decide) s₁ (fun _ _ e => e) rfl I.bare).elim
    · obtain ⟨σ', H', I, q⟩ := hp
      refine wpAny_bind (wpAny_rule (wpAny_pure ?_))
      exact hR true _ _ _ (inv_ext (s' := { s₁.setGen gn .finished with heap := h' }) I hk rfl (allBare_setGen I.bare rfl)) q
  | succ n ih =>
    intro s hg hl ⟨gs, hgs, hgo⟩
    have hgl : gn < s.gens.size := (Array.getElem?_eq_some_iff.mp hgs).1
    refine codeAny_builtin F.entry_all_loop ?_
    rw [Around.under_plainId F.plain_all_loop _]
    show wpAny _ A.in1 (pyNext (.ref a) >>= _) _ _ s
    refine wpAny_bind (wpAny_gsz (n := gn + 1) hgl (next_genG (A := A.in1) hh hl hd hg hgs hgo (fun v s₁ gs' hbare hv => ?_) (fun s₁ hp h' hk => ?_) fun e s₁ he => he.elim))
    · intro hsz
      obtain ⟨b, σ', H', rfl, I, q1, q2⟩ := hv
      refine wpAny_bind (wpAny_holding (wpAny_truthy_bool ?_))
      refine wpAny_bind (wpAny_letGo ?_)
      have hsz1 : gn < s₁.gens.size := by
        have q : (s₁.setGen gn gs').gens.size = s₁.gens.size := setGen_size _ _ _
        have hsz' : gn + 1 ≤ (s₁.setGen gn gs').gens.size := hsz
        omega
      cases b with
      | false =>
        simp only [Bool.false_eq_true, if_false]
        refine wpAny_bind (wpAny_rule (wpAny_pure ?_))
        exact hR false _ _ _ (inv_ext I (fun _ _ e => e) rfl (allBare_setGen I.bare hbare)) (q1 rfl)
      | true =>
        simp only [if_true]
        refine wpAny_pure ⟨plainId_quiet F.plain_all_loop _, ih (s₁.setGen gn gs') (show s₁.heap.IsGen a gn from pinned I) (show s₁.heap.NoLimit from I.nolimit) ⟨gs', setGen_at hsz1, ?_⟩⟩
        exact q2 (by decide) _ (fun _ _ e => e) rfl (allBare_setGen (allBare_setGen I.bare hbare) rfl)
    · intro hsz
      obtain ⟨σ', H', I, q⟩ := hp
      refine wpAny_bind (wpAny_rule (wpAny_pure ?_))
      exact hR true _ _ _ (inv_ext (s' := { s₁.setGen gn .finished with heap := h' }) I hk rfl (allBare_setGen I.bare rfl)) q
end
end GnX

set_option maxRecDepth 100000
set_option maxHeartbeats 4000000
/-! ## 43. any(.. for ..), all(.. for ..) as expressions -/
namespace GnX
open PySem PySem.Spec PyProof.Rows L2 GenW GxR
def tGen (stop : Bool) (P : Addr) (t : Nat) (caps : List Nat) (wi : TI) (g : TG) (te : TE) : TE := fun σ H Q => wi σ H fun J H1 => TabG H1 P ∧ ∀ H2, Tabbed P H1 H2 →
  ∃ W : Nat → Nat → Hp → Prop, (∃ m, W 0 m H2) ∧ GTurn J stop (fun b H => Q (.bl b) H) g te (gS σ t caps) (List.range t) W
theorem wipe_none {σ : L2.St} : ∀ {vs : List Nat}, (∀ i ∈ vs, i < σ.length → σ[i]? = some none) → wipe σ vs = σ
  | [], _ => rfl
  | v :: vs, h => by
    unfold wipe
    rw [wipe_none (vs := vs) fun i hi => h i (List.mem_cons_of_mem _ hi)]
    apply List.ext_getElem?
    intro j
    by_cases e : v = j
    · subst e
      by_cases hl : v < σ.length
      · rw [List.getElem?_set_self hl, h v List.mem_cons_self hl]
      · rw [List.getElem?_eq_none (by simpa using hl), List.getElem?_eq_none (by simpa using hl)]
    · rw [List.getElem?_set_ne e]
theorem gS_wipe {σ : L2.St} {t : Nat} {caps : List Nat} : wipe (gS σ t caps) (List.range t) = gS σ t caps := wipe_none fun i hi _ => by
  have hi := List.mem_range.mp hi
  unfold gS
  rw [List.getElem?_append_left (by simpa using hi), List.getElem?_replicate, if_pos hi]
/-- a generator that waits to be walked -/
def GRdy (X : Cx) (pins : List (Addr × Obj)) (σ : L2.St) (stop : Bool) (Q : VK) (u : Value) (s5 : Shared) : Prop :=
  ∃ (a : Addr) (gn n : Nat) (Xg : Cx) (go : Obj) (gs : GenState), u = .ref a ∧ Xg.prog = X.prog ∧ Xg.w = X.w ∧ Xg.pn = [(a, go)] ∧ (∀ h : Heap, h.get? a = some go → h.IsGen a gn) ∧ s5.heap.IsGen a gn ∧ s5.heap.NoLimit ∧ s5.gens[gn]? = some gs ∧
    gs.Goes (model Xg.prog Xg.w) X.A.in1.in1 (GEnd Xg (fun H => Q (.bl (!stop)) H)) (GItem Xg stop (fun H => Q (.bl stop) H)) n (.send .none) (s5.setGen gn .running) ∧ (∀ s' σ' H', Inv Xg [] σ' H' s' → Inv X pins σ H' s')
section
variable {X : Cx} {pins : List (Addr × Obj)} {σ : L2.St} {H : Hp} {s : Shared} {c P : Addr} {elt tg iter : Expr} {scope : Scope} {gpos pos p : Pos} {N : List Str} {t : Nat} {caps : List Nat} {wi : TI} {g : TG} {te : TE} {stop : Bool} {k : Nat}
theorem gen_core {Q : VK} (hr : Room (k + 1) X.A) (TB : TabB X.base X.mg c P) (hcode : X.env.code = .ref c) (ok : GblkOk X.N X.env.scope scope N t caps) (hi : PI X tg iter wi)
    (hg : ∀ (A : Around) (s : Shared) (H : Hp) (cl : List (Str × Addr)) (C : Addr) (code : Value) (fp : List Addr) (pn : List (Addr × Obj)), Room k A → PG (gCx X A s H N (genEnv scope cl C code builtinsNs X.env) fp pn) tg g)
    (he : ∀ (A : Around) (s : Shared) (H : Hp) (cl : List (Str × Addr)) (C : Addr) (code : Value) (fp : List Addr) (pn : List (Addr × Obj)), Room k A → PE (gCx X A s H N (genEnv scope cl C code builtinsNs X.env) fp pn) elt te)
    (hs : ∀ v, genFold iter X.env v = pure v) (I : Inv X pins σ H s) (h : tGen stop P t caps wi g te σ H Q) :
    wpAny (model X.prog X.w) X.A (eval (.GeneratorExp elt [⟨tg, iter, [], 0⟩] scope gpos) X.env) (GRdy X pins σ stop Q) X.xe s := by
  have hfree : ∀ y ∈ scope.names, y.2 = .free → ∃ c, X.env.cells.lookup y.1 = some c := fun y hy e => by
    rcases ok.free y hy e with k | k
    · exact I.ok.has _ (.inl k)
    · exact I.ok.has _ (.inr k)
  refine wpAny_GeneratorExp_make ok.co (closure_ok hfree) ok.cell ok.dot ok.kind (by have := hr.dp; omega) ?_ hs
  refine thn (hi.run pins s σ H _ I h) fun xv s1 h1 => thn h1 fun itv s2 h2 => ?_
  obtain ⟨it, fp, tn, J, H2, e, I2, T, st2, f2, ⟨ps, hP, ht⟩, q⟩ := h2
  subst e
  have hPs : s2.heap.get? P = some { cls := .none, data := .fields ps } := I2.hok P _ hP
  have cd : PySem.W.CodeHd s2.heap c P := TB.code.keeps fun b u e => I2.bk b u e
  have hcP : cStatics ≠ P := fun e => by
    obtain ⟨_, hns, _⟩ := I2.nolimit
    obtain ⟨o', es, ep, ho, hd, _⟩ := hns
    rw [e, hPs] at ho
    cases ho
    cases hd
  refine ⟨I2.nolimit, ?_⟩
  have cont : ∀ (code : Value) (h3 : Heap) (tk : Nat) (ps' : Array Value), Heap.ExtBut P s2.heap h3 → s2.heap.objs.size ≤ h3.objs.size → h3.get? P = some { cls := .none, data := .fields ps' } → (∃ more, ps' = ps ++ more) → TriplesOk ps'.toList →
      wpAny (model X.prog X.w) X.A (builtinsFor X.env.globals X.env.builtins) (fun bi s₄ => ∀ h', h'.Ns s₄.heap.objs.size (fun y => if y = ".0" then some (.ref it) else none) → Heap.SameBut s₄.heap.objs.size (s₄.heap.push { cls := .type "frame", data := .dict #[] }) h' →
          GRdy X pins σ stop Q (.ref h'.objs.size) { s₄ with
            gens := s₄.gens.push (.fresh (.compStart (.GeneratorExp elt [⟨tg, iter, [], 0⟩] scope gpos) 0 (.ref it) .none (genEnv scope (cloFrom X.env.cells scope.names []) s₄.heap.objs.size code bi X.env))),
            toks := s₄.toks + 1 + 1 + 1,
            heap := h'.push { cls := .type "generator", data := .fields #[.int s₄.gens.size 0, .str "<genexpr>" (s₄.toks + 1), .str (X.env.qual ++ "<genexpr>") (s₄.toks + 1 + 1)] } }) X.xe { s2 with heap := h3, toks := tk } := by
    intro code h3 tk ps' hx hsz hP3 hmore ht3
    obtain ⟨bm, ob, e1, e2, e3, e4, e5, e6, e7, e8⟩ := TB.bm
    have keep3 : ∀ b u, b ≠ P → s2.heap.get? b = some u → h3.get? b = some u := fun b u hb e => hx b u hb e
    refine wpAny_builtinsFor (m := X.mg) (by rw [I2.ok.glob]; exact (I2.mod.glob.keeps I2.bk).extBut hx TB.gP) e1 e2 (keep3 _ _ e4 (I2.bk _ _ e5)) e6 e7 e8 ?_
    obtain ⟨more, rfl⟩ := hmore
    have I4 : Inv X pins σ (upd H2 P (.tbl (ps ++ more))) { s2 with heap := h3, toks := tk } := inv_tab (g' := s2.gens) (d' := s2.drawn) I2 hP keep3 hP3 I2.bare
    have tabbed : Tabbed P H2 (upd H2 P (.tbl (ps ++ more))) := ⟨⟨_, upd_same, ht3⟩, fun b hb => upd_ne hb⟩
    generalize hs4 : ({ s2 with heap := h3, toks := tk } : Shared) = s4 at I4 ⊢
    have h4 : s4.heap = h3 := by rw [← hs4]
    intro h' hn' hs'
    obtain ⟨W, ⟨m0, w0⟩, turn⟩ := q _ tabbed
    generalize hH4 : upd H2 P (.tbl (ps ++ more)) = H4 at I4 tabbed w0
    have nP : ∀ b ∈ fp, b ≠ P := fun b hb z => by
      have := (f2 b hb).1
      rw [z, hP] at this
      cases this
    have f4 : ∀ b ∈ fp, FpOk X pins H4 b ∧ b < s4.heap.objs.size := fun b hb => by
      obtain ⟨o, e, _⟩ := T.obj _ _ st2 b hb
      refine ⟨⟨?_, (f2 b hb).2⟩, by rw [h4]; exact Nat.lt_of_lt_of_le (Heap.lt_size e) hsz⟩
      rw [tabbed.2 b (nP b hb)]
      exact (f2 b hb).1
    have hsz' : h'.objs.size = s4.heap.objs.size + 1 := by rw [hs'.1, Heap.size_push]
    have keep' : ∀ b o, s4.heap.get? b = some o → h'.get? b = some o := fun b o e => hs'.extBut b o (Nat.ne_of_lt (Heap.lt_size e)) (Heap.get?_push_of_some _ e)
    have keepF : ∀ b ∈ fp, ∀ o, s2.heap.get? b = some o → h'.get? b = some o := fun b hb o e => keep' b o (by rw [h4]; exact keep3 b o (nP b hb) e)
    have main : ∀ (go : Obj) (nm qn : Value) (tk2 : Nat), go.cls = .type "generator" → go.data = .fields #[.int s4.gens.size 0, nm, qn] → go.slots = #[] → (∀ h : Heap, (h.push go).get? h.objs.size = some go) →
        GRdy X pins σ stop Q (.ref h'.objs.size) { s4 with
            gens := s4.gens.push (.fresh (.compStart (.GeneratorExp elt [⟨tg, iter, [], 0⟩] scope gpos) 0 (.ref it) .none (genEnv scope (cloFrom X.env.cells scope.names []) s4.heap.objs.size code builtinsNs X.env))),
            toks := tk2, heap := h'.push go } := by
      intro go nm qn tk2 hgc hgd0 hgs hgp
      have hgen : ∀ h : Heap, h.get? h'.objs.size = some go → h.IsGen h'.objs.size s4.gens.size := fun h e => ⟨go, nm, qn, e, hgc, hgd0, hgs⟩
      generalize hce : genEnv scope (cloFrom X.env.cells scope.names []) s4.heap.objs.size code builtinsNs X.env = cenv
      have hA : (X.A.in1.in1.deeper cenv).handled = none := hr.hd
      have hrA : Room k (X.A.in1.in1.deeper cenv) := ⟨hr.hd, by have := hr.dp; show X.A.depth + 1 + 3 * k + 5 < _; omega, by have := hr.un; show X.A.units + 1 + 1 + 3 + 16 * k + 200 < _; omega⟩
      have hfr : (X.A.in1.in1.deeper cenv).frames = some (cenv :: X.stack) := Around.frames_deeper I.ok.frames
      have hb5 : AllBare (s4.gens.push (.fresh (.compStart (.GeneratorExp elt [⟨tg, iter, [], 0⟩] scope gpos) 0 (.ref it) .none cenv))) := I4.bare.push rfl
      have I5 := gen_start (code := code) (s5 := (({ s4 with gens := s4.gens.push (.fresh (.compStart (.GeneratorExp elt [⟨tg, iter, [], 0⟩] scope gpos) 0 (.ref it) .none cenv)), toks := tk2, heap := h'.push go } : Shared).setGen s4.gens.size .running)) I4 ok f4 hce.symm hn' hs' hA hfr
        (go := go) (fun v z => by rw [hgd0] at z; cases z) (fun b o e => e) (hgp _) rfl (allBare_setGen hb5 rfl)
      have pg := hg (X.A.in1.in1.deeper cenv) s4 H4 (cloFrom X.env.cells scope.names []) s4.heap.objs.size code fp [(h'.objs.size, go)] hrA
      have pe := he (X.A.in1.in1.deeper cenv) s4 H4 (cloFrom X.env.cells scope.names []) s4.heap.objs.size code fp [(h'.objs.size, go)] hrA
      rw [hce] at pg pe
      have hco : cenv.scope.isCoroutine = false := by rw [← hce]; exact ok.co
      have hst : tn 0 (h'.push go) := T.keep _ _ _ st2 fun b hb o e => Heap.get?_push_of_some _ (keepF b hb o e)
      refine ⟨h'.objs.size, s4.gens.size, m0 + 1, gCx X (X.A.in1.in1.deeper cenv) s4 H4 N cenv fp [(h'.objs.size, go)], go, _, rfl, rfl, rfl, rfl, hgen, hgen _ (hgp _), ?_, Array.getElem?_push_size .., ⟨rfl, ?_⟩, fun s' σ' H' I' => ?_⟩
      · exact I4.nolimit.keeps fun b o e => Heap.get?_push_of_some _ (keep' b o e)
      · refine gsegStart (Xg := gCx X (X.A.in1.in1.deeper cenv) s4 H4 N cenv fp [(h'.objs.size, go)]) (Qs := fun b H => Q (.bl b) H) (m := m0) (H := H4) rfl rfl rfl T hco pg pe (fun {σ' H' s'} I' hn b hb => ?_) gS_wipe turn w0 I5 hst fun b hb => (f4 b hb).1.1
        refine ⟨hn b hb, (I'.ok.exf b hb).1, I'.ok.exfs b hb, .inl hb, fun x c e => (I'.ok.exf b hb).2 x c e, fun p hp => ?_⟩
        have hp : p ∈ [(h'.objs.size, go)] ++ [] := hp
        rw [List.append_nil, List.mem_singleton] at hp
        subst hp
        have hlt := (f4 b hb).2
        show h'.objs.size ≠ b
        rw [hsz']
        exact Nat.ne_of_gt (Nat.lt_succ_of_lt hlt)
      · exact I4.call' (ch := fp) I'.os I'.base I'.hok I'.bare fun b hb => ⟨(f4 b hb).1.2.2.2.1, (f4 b hb).1.2.1, (f4 b hb).1.2.2.2.2.1, (f4 b hb).1.2.2.2.2.2⟩
    exact main _ _ _ _ rfl rfl rfl fun h => Heap.get?_push_size _ rfl
  cases hf : codeAmong gpos ps.toList with
  | none =>
    refine wpAny_genexprCodeX hcode (cd.code hPs ht) (cd.tab hPs) hf fun c' h' tk hx hge hlt hco' _ htab' _ => ?_
    obtain ⟨o1, vs, f1, tf, fl, tg, inF, tx, tt, op, _, _, _, _, _, _, _, _, _, htr, _⟩ := hco'
    exact cont _ h' tk _ hx (Nat.le_trans hge (Nat.le_of_lt hlt)) htab'.2 ⟨_, rfl⟩ htr
  | some cv =>
    refine wpAny_genexprCode_hit hcode (cd.code hPs ht) hf ?_
    exact cont cv s2.heap s2.toks ps (Heap.ExtBut.refl _ _) (Nat.le_refl _) hPs ⟨#[], by simp⟩ ht
theorem call_anyG {Q : VK} {u : Value} {s5 : Shared} {E : Value → Shared → Prop} (hr : Room (k + 1) X.A) (h : GRdy X pins σ true Q u s5) : wpAny (model X.prog X.w) X.A (call (.builtin "any") [u]) (L2.EP X pins σ Q) E s5 := by
  obtain ⟨a, gn, n, Xg, go, gs, rfl, eP, ew, hpn, hgen, hg, hl, hgs, hgo, back⟩ := h
  refine call_function_tree F.kind_any F.plain_any F.entry_any (F.args_any1 _) ?_
  unfold Builtin.«any»
  refine wpAny_bind (m := oneArg "any" _) (wpAny_pure ?_)
  refine wpAny_bind (wpAny_pyIter_gen hg ?_)
  refine wpAny_pure ⟨plainId_quiet F.plain_any_loop _, ?_⟩
  rw [← eP, ← ew]
  exact any_loop (A := X.A) (Qs := fun b H => Q (.bl b) H) hr.hd (by have := hr.dp; omega) hpn hgen (fun b s' σ' H' I q => ⟨.bl b, H', back s' σ' H' I, rfl, q⟩) n s5 hg hl ⟨gs, hgs, hgo⟩
theorem call_allG {Q : VK} {u : Value} {s5 : Shared} {E : Value → Shared → Prop} (hr : Room (k + 1) X.A) (h : GRdy X pins σ false Q u s5) : wpAny (model X.prog X.w) X.A (call (.builtin "all") [u]) (L2.EP X pins σ Q) E s5 := by
  obtain ⟨a, gn, n, Xg, go, gs, rfl, eP, ew, hpn, hgen, hg, hl, hgs, hgo, back⟩ := h
  refine call_function_tree F.kind_all F.plain_all F.entry_all (F.args_all1 _) ?_
  unfold Builtin.«all»
  refine wpAny_bind (m := oneArg "all" _) (wpAny_pure ?_)
  refine wpAny_bind (wpAny_pyIter_gen hg ?_)
  refine wpAny_pure ⟨plainId_quiet F.plain_all_loop _, ?_⟩
  rw [← eP, ← ew]
  exact all_loop (A := X.A) (Qs := fun b H => Q (.bl b) H) hr.hd (by have := hr.dp; omega) hpn hgen (fun b s' σ' H' I q => ⟨.bl b, H', back s' σ' H' I, rfl, q⟩) n s5 hg hl ⟨gs, hgs, hgo⟩
theorem pe_anyG (hr : Room (k + 1) X.A) (hgl : Gl X "any") (hm : X.mg "any" = none) (TB : TabB X.base X.mg c P) (hcode : X.env.code = .ref c) (ok : GblkOk X.N X.env.scope scope N t caps) (hi : PI X tg iter wi)
    (hg : ∀ (A : Around) (s : Shared) (H : Hp) (cl : List (Str × Addr)) (C : Addr) (code : Value) (fp : List Addr) (pn : List (Addr × Obj)), Room k A → PG (gCx X A s H N (genEnv scope cl C code builtinsNs X.env) fp pn) tg g)
    (he0 : ∀ (A : Around) (s : Shared) (H : Hp) (cl : List (Str × Addr)) (C : Addr) (code : Value) (fp : List Addr) (pn : List (Addr × Obj)), Room k A → PE (gCx X A s H N (genEnv scope cl C code builtinsNs X.env) fp pn) elt te)
    (hs : ∀ v, genFold iter X.env v = pure v := by intro _; rfl)
    (he : starEach [.GeneratorExp elt [⟨tg, iter, [], 0⟩] scope gpos] X.env = (false, eval (.GeneratorExp elt [⟨tg, iter, [], 0⟩] scope gpos) X.env) :: starEach [] X.env := by rfl) :
    PE X (.Call (.Name "any" p) [.GeneratorExp elt [⟨tg, iter, [], 0⟩] scope gpos] [] pos) (tGen true P t caps wi g te) := by
  refine ⟨fun pins s σ H Q I h => ?_⟩
  refine wpAny_Call_Name_kw (ld_blt I hgl hm boot_any ?_)
  refine PyProof.Rows.callWith_builtin1 ?_ he (by rfl)
  rw [he]
  show wpAny _ _ (spliced ((false, eval (.GeneratorExp elt [⟨tg, iter, [], 0⟩] scope gpos) X.env) :: backTo pos (starEach [] X.env))) _ _ s
  refine Calls.spliced_cons (thn (gen_core hr TB hcode ok hi hg he0 hs I h) fun u s5 hG => ?_)
  refine Calls.spliced_nil ?_
  exact call_anyG hr hG
theorem pe_allG (hr : Room (k + 1) X.A) (hgl : Gl X "all") (hm : X.mg "all" = none) (TB : TabB X.base X.mg c P) (hcode : X.env.code = .ref c) (ok : GblkOk X.N X.env.scope scope N t caps) (hi : PI X tg iter wi)
    (hg : ∀ (A : Around) (s : Shared) (H : Hp) (cl : List (Str × Addr)) (C : Addr) (code : Value) (fp : List Addr) (pn : List (Addr × Obj)), Room k A → PG (gCx X A s H N (genEnv scope cl C code builtinsNs X.env) fp pn) tg g)
    (he0 : ∀ (A : Around) (s : Shared) (H : Hp) (cl : List (Str × Addr)) (C : Addr) (code : Value) (fp : List Addr) (pn : List (Addr × Obj)), Room k A → PE (gCx X A s H N (genEnv scope cl C code builtinsNs X.env) fp pn) elt te)
    (hs : ∀ v, genFold iter X.env v = pure v := by intro _; rfl)
    (he : starEach [.GeneratorExp elt [⟨tg, iter, [], 0⟩] scope gpos] X.env = (false, eval (.GeneratorExp elt [⟨tg, iter, [], 0⟩] scope gpos) X.env) :: starEach [] X.env := by rfl) :
    PE X (.Call (.Name "all" p) [.GeneratorExp elt [⟨tg, iter, [], 0⟩] scope gpos] [] pos) (tGen false P t caps wi g te) := by
  refine ⟨fun pins s σ H Q I h => ?_⟩
  refine wpAny_Call_Name_kw (ld_blt I hgl hm boot_all ?_)
  refine PyProof.Rows.callWith_builtin1 ?_ he (by rfl)
  rw [he]
  show wpAny _ _ (spliced ((false, eval (.GeneratorExp elt [⟨tg, iter, [], 0⟩] scope gpos) X.env) :: backTo pos (starEach [] X.env))) _ _ s
  refine Calls.spliced_cons (thn (gen_core hr TB hcode ok hi hg he0 hs I h) fun u s5 hG => ?_)
  refine Calls.spliced_nil ?_
  exact call_allG hr hG
end
end GnX

set_option maxRecDepth 100000
set_option maxHeartbeats 4000000
/-! ## 44. codes' tables as owned things; any, all of generator expressions -/
namespace TW
open PySem PySem.Spec PyProof.Rows L2 GxR GnX
def oTab (P : Addr) : OP where
  md := .s
  P := fun A H V0 v => A = [P] ∧ TabG H P ∧ v = .non
  frameT := fun e1 _ ⟨h1, ⟨ps, h2, h3⟩, h4⟩ => ⟨h1, ⟨ps, by rw [e1 P (by rw [h1]; simp)]; exact h2, h3⟩, h4⟩
  obj := fun ⟨h1, ⟨ps, h2, _⟩, _⟩ a ha => by
    rw [h1] at ha; simp at ha; subst ha
    exact ⟨_, h2, trivial⟩
def HasTab (c : Ctx) (P : Addr) : Prop := ∃ i : Nat, c[i]? = some (Sl.ow (oTab P))
section
variable {F : Fm} {c : Ctx} {T : List Tm} {σ : Sg} {H H' : Hp} {A : Nat → List Addr} {B : List Addr} {D : Ends} {α β ι ρ : Type} {R : Rp α} {Rb : Rp β} {m m1 : Md} {te : TE} {tr : TS} {K : PySem.W.Frag}
theorem HdA.tabAt {P : Addr} {i : Nat} (h : HdA F c T σ H A B) (hi : c[i]? = some (.ow (oTab P))) : A i = [P] ∧ TabG H P := by
  have q := h.sl i
  unfold slOk at q
  rw [hi] at q
  obtain ⟨v, _, h1, h2, _⟩ := q
  exact ⟨h1, h2⟩
/-- tables that the context owns may grow, and the heap -/
theorem HdA.tabs {Ps : List Addr} (h : HdA F c T σ H A B) (ht : ∀ P ∈ Ps, HasTab c P) (e : ∀ a o, a ∉ Ps → H a = some o → H' a = some o) (g : ∀ P ∈ Ps, TabG H' P) : HdA F c T σ H' A B := by
  have hv : ∀ m, ExtT (view F A B m H) (view F A B m H') := fun m => ⟨fun a o n q => by
    obtain ⟨q1, q2⟩ := view_some.mp q
    refine view_some.mpr ⟨q1, e a o (fun z => ?_) q2⟩
    obtain ⟨i, hi⟩ := ht a z
    obtain ⟨_, ps, q3, _⟩ := h.tabAt hi
    rw [q3] at q2; cases q2; exact n⟩
  have nP : ∀ P ∈ Ps, ∃ i, P ∈ A i := fun P hP => by
    obtain ⟨i, hi⟩ := ht P hP
    exact ⟨i, by rw [(h.tabAt hi).1]; simp⟩
  have keep : ∀ a o, H a = some o → (∀ i, a ∉ A i) → H' a = some o := fun a o q n => e a o (fun z => by obtain ⟨i, hi⟩ := nP a z; exact n i hi) q
  refine ⟨h.len, fun j => ?_, fun t ht => SP.monoT _ (hv _) (h.tm t ht), h.dj, h.db, h.iq, fun a o q r => ?_, h.ni, ?_, h.gb, fun p hp => ⟨keep _ _ (h.gh p hp).1 fun i hi => h.db i p.1 hi (.inr ⟨p.2, hp⟩), (h.gh p hp).2⟩⟩
  · have q := h.sl j
    unfold slOk at q ⊢
    cases ec : c[j]? with
    | none => rw [ec] at q; exact q
    | some s =>
      rw [ec] at q
      cases s with
      | un => exact q
      | sh m p => obtain ⟨a, v, hv1, hp1⟩ := q; exact ⟨a, v, hv1, SP.monoT _ (hv _) hp1⟩
      | ow p =>
        obtain ⟨v, hv1, hp1⟩ := q
        refine ⟨v, hv1, ?_⟩
        by_cases hx : ∃ P ∈ Ps, P ∈ A j
        · obtain ⟨P, hP, hPj⟩ := hx
          obtain ⟨i, hi⟩ := ht P hP
          have hA := (h.tabAt hi).1
          have : i = j := h.dj i j P (by rw [hA]; simp) hPj
          subst this
          rw [hi] at ec
          cases ec
          obtain ⟨h1, _, h3⟩ := hp1
          exact ⟨h1, g P hP, h3⟩
        · refine OP.frameT _ (fun a ha => ?_) (hv _) hp1
          obtain ⟨o, ho, _⟩ := OP.obj _ hp1 a ha
          rw [ho]
          exact e a o (fun z => hx ⟨a, z, ha⟩) ho
      | io => exact q
  · refine keep a o (h.fr a o q r) fun i hi => ?_
    have := h.ni a (.inr ⟨i, hi⟩) r
    rw [q] at this; cases this
  · rcases h.st with q | q
    · exact .inl q
    · refine .inr (q.frame fun a ha => ?_)
      obtain ⟨o, ho, _⟩ := q.obj a ha
      rw [ho]
      exact keep a o ho fun i hi => h.db i a hi (.inl ha)
/-- all that a heap holds but tables -/
def pAll (H0 : Hp) : SP := ⟨fun V0 _ => ∀ a o, NT o → H0 a = some o → V0 a = some o, fun e h a o n q => e.on a o n (h a o n q)⟩
def FgH (H : Hp) : Hp := fun a => match H a with | some (.tbl ps) => some (.tbl ps) | _ => none
theorem FgH_tab {a : Addr} {ps : Array Value} (h : H a = some (.tbl ps)) : FgH H a = some (.tbl ps) := by unfold FgH; rw [h]
theorem FgH_some {a : Addr} {o : HO} (h : FgH H a = some o) : H a = some o ∧ ¬ NT o := by
  unfold FgH at h
  split at h
  · rename_i ps e; cases h; exact ⟨e, fun z => z⟩
  · cases h
abbrev Fg (H : Hp) : Fm := ⟨FgH H, [], []⟩
theorem view_Fg {a : Addr} {o : HO} {H0 : Hp} (n : NT o) (h : H a = some o) (hk : ∀ a ps, FgH H0 a = some (.tbl ps) → H a = some (.tbl ps)) : view (Fg H0) (fun _ => []) [] m H a = some o := by
  have no : ¬ hB (Fg H0) [] a := fun z => by
    rcases z with z | ⟨o, z⟩
    · simp at z
    · simp at z
  refine view_some.mpr ⟨fun z => ?_, h⟩
  cases m
  · rcases z with (z | ⟨i, z⟩) | ⟨o', z, _⟩
    · exact no z
    · simp at z
    · obtain ⟨e, n'⟩ := FgH_some z
      have : ∃ ps, o' = .tbl ps := by
        cases o' with
        | tbl ps => exact ⟨ps, rfl⟩
        | _ => exact absurd trivial n'
      obtain ⟨ps, rfl⟩ := this
      have q := hk a ps z
      rw [h] at q; cases q; exact n
  · rcases z with z | ⟨i, z⟩
    · exact no z
    · simp at z
  · exact no z
/-- the generator's slots -/
def cgen (c : Ctx) (t : Nat) (caps : List Nat) : Ctx := List.replicate t .un ++ caps.map fun j => (c[j]?).getD .un
def isSh (c : Ctx) (j : Nat) : Bool := match c[j]? with | some (.sh _ _) => true | _ => false
theorem HdA.toGen {t : Nat} {caps : List Nat} (h : HdA F c T σ H A B) (hc : ∀ j ∈ caps, isSh c j = true) : HD (Fg H) (cgen c t caps) (⟨.non, .s, pAll H⟩ :: T) (gS σ t caps) H := by
  have full : ∀ m m', ExtT (view F A B m' H) (view (Fg H) (fun _ => []) [] m H) := fun m m' => ⟨fun a o n q => view_Fg n (view_some.mp q).2 fun a ps z => (FgH_some z).1⟩
  refine ⟨fun _ => [], [], ?_, fun k => ?_, fun t ht => ?_, by simp, by simp, .inl rfl, fun a o q _ => (FgH_some q).1, fun a q _ => ?_, .inl rfl, fun a ⟨o, z⟩ => by simp at z, by simp⟩
  · unfold cgen gS; simp
  · unfold slOk
    by_cases hk : k < t
    · have e : (cgen c t caps)[k]? = some .un := by unfold cgen; rw [List.getElem?_append_left (by simpa using hk), List.getElem?_replicate, if_pos hk]
      rw [e]
    · have e1 : (cgen c t caps)[k]? = (caps[k - t]?).map fun j => (c[j]?).getD .un := by
        unfold cgen; rw [List.getElem?_append_right (by simpa using hk)]; simp
      have e2 : (gS σ t caps)[k]? = (caps[k - t]?).map fun j => (σ[j]?).join := by
        unfold gS; rw [List.getElem?_append_right (by simpa using hk)]; simp
      rw [e1, e2]
      cases ec : caps[k - t]? with
      | none => rfl
      | some j =>
        have hj := hc j (List.mem_of_getElem? ec)
        have q := h.sl j
        unfold slOk at q
        unfold isSh at hj
        simp only [Option.map_some]
        cases es : c[j]? with
        | none => rw [es] at hj; cases hj
        | some s =>
          rw [es] at q hj
          cases s with
          | sh m p =>
            obtain ⟨_, v, hv, hp⟩ := q
            refine ⟨by trivial, v, ?_, SP.monoT _ (full _ _) hp⟩
            rw [hv]; rfl
          | _ => cases hj
  · rcases List.mem_cons.mp ht with z | z
    · subst z
      exact fun a o n q => view_Fg n q fun a ps z => (FgH_some z).1
    · exact SP.monoT _ (full _ _) (h.tm t z)
  · rcases q with (q | ⟨o, q⟩) | ⟨i, q⟩
    · simp at q
    · simp at q
    · simp at q
/-- .. and back -/
theorem HD.fromGen {H0 : Hp} {c1 : Ctx} {σ1 : Sg} {T1 : List Tm} (h : HD (Fg H0) c1 T1 σ1 H) (ht : (⟨.non, .s, pAll H0⟩ : Tm) ∈ T1) : Ext H0 H := by
  obtain ⟨A, B, h⟩ := h
  intro a o q
  by_cases n : NT o
  · exact view_full _ _ ((h.tm _ ht) a o n q)
  · have : ∃ ps, o = .tbl ps := by
      cases o with
      | tbl ps => exact ⟨ps, rfl⟩
      | _ => exact absurd trivial n
    obtain ⟨ps, rfl⟩ := this
    exact h.fr a _ (FgH_tab q) (by simp)
def anyR (stop : Bool) (xs : List β) (f : β → Bool) : Bool := if stop then xs.any f else xs.all f
theorem anyR_stop {stop : Bool} {xs : List β} {f : β → Bool} {x : β} (h : x ∈ xs) (e : f x = stop) : anyR stop xs f = stop := by
  unfold anyR
  cases stop with
  | true => rw [if_pos rfl]; exact List.any_eq_true.mpr ⟨x, h, e⟩
  | false => rw [if_neg (by decide)]; exact List.all_eq_false.mpr ⟨x, h, by rw [e]; simp⟩
theorem anyR_end {stop : Bool} {xs : List β} {f : β → Bool} (h : ∀ x ∈ xs, f x ≠ stop) : anyR stop xs f = !stop := by
  unfold anyR
  cases stop with
  | true => rw [if_pos rfl]; exact List.any_eq_false.mpr fun x hx => h x hx
  | false =>
    rw [if_neg (by decide)]
    exact List.all_eq_true.mpr fun x hx => by
      have := h x hx
      cases e : f x
      · exact absurd e this
      · rfl
theorem ew_gen {stop : Bool} {P : Addr} {t : Nat} {caps : List Nat} {wi : TI} {g : TG} {cg : β → Ctx} {js : List Nat} {Wi : (List β → Prop) → Prop} {Se : β → Prop} {fe : β → Bool} (hP : HasTab c P) (hcap : ∀ j ∈ caps, isSh c j = true)
    (hi : IW c wi m Rb Wi) (hg : GP (cgen c t caps) g m Rb cg js) (he : ∀ x, EP (cg x) te m1 rBool (Se x) (fe x)) (hj : ∀ j ∈ js, j ∈ List.range t) (hcg : ∀ x, wipeC (cg x) (List.range t) = cgen c t caps) (hcu : ∀ x, ∀ i ∈ List.range t, isUS (cg x) i = true) :
    EW c (tGen stop P t caps wi g te) .n rBool (fun Q => Wi fun xs => (∀ x ∈ xs, Se x) ∧ Q (anyR stop xs fe)) := fun {F} Q' w T σ H hd Q k =>
  hi _ w T σ H hd _ fun xs J T' H1 px io ⟨A, B, h1⟩ => by
    obtain ⟨i, hi⟩ := id hP
    refine ⟨(h1.tabAt hi).2, fun H2 tb => ?_⟩
    have h2 : HdA F c T' σ H2 A B := h1.tabs (Ps := [P]) (fun P' hP' => by rw [List.mem_singleton] at hP'; subst hP'; exact hP) (fun a o na q => by rw [tb.2 a (by simpa using na)]; exact q) (fun P' hP' => by rw [List.mem_singleton] at hP'; subst hP'; exact tb.1)
    have h3 := h2.toGen (t := t) hcap
    have back : ∀ {c1 : Ctx} {σ1 : Sg} {T1 : List Tm} {H' : Hp} {b : Bool}, HD (Fg H2) c1 T1 σ1 H' → (∀ t ∈ (⟨.non, .s, pAll H2⟩ :: T' : List Tm), t ∈ T1) → Q' b → Q (.bl b) H' := fun {c1 σ1 T1 H' b} h s q => by
      have h4 : HdA F c T σ H' A B := (h2.sub io.sub).grow (h.fromGen (s _ List.mem_cons_self))
      exact k b (.bl b) H' q (HD.push (p := rBool.at b) h4 rfl)
    have sT : ∀ t ∈ T', t ∈ (⟨.non, .s, pAll H2⟩ :: T' : List Tm) := fun t z => List.mem_cons_of_mem _ z
    refine ⟨fun i k H => k = xs.length - i ∧ i ≤ xs.length ∧ (∀ j (hj : j < xs.length), j < i → fe xs[j] ≠ stop) ∧ HD (Fg H2) (cgen c t caps) (⟨.non, .s, pAll H2⟩ :: T') (gS σ t caps) H, ⟨xs.length, by simp, Nat.zero_le _, fun j _ hj => absurd hj (Nat.not_lt_zero _), h3⟩, ?_⟩
    rintro i k2 H5 ⟨rfl, hile, hno, h5⟩
    by_cases hlt : i < xs.length
    · refine .inr ⟨io.go _ _ _ _ _ sT h5 i hlt, fun H' => (∀ j (hj : j < xs.length), j < i + 1 → fe xs[j] ≠ stop) ∧ HD (Fg H2) (cgen c t caps) (⟨.non, .s, pAll H2⟩ :: T') (gS σ t caps) H', fun H' z => ⟨xs.length - (i + 1), by omega, rfl, hlt, z⟩, fun x H6 y => ?_⟩
      have h6 := io.yld _ _ _ _ _ sT h5 i hlt x H6 y
      refine hg _ _ _ _ _ h6 _ fun σ7 H7 h7 off => ?_
      have off' : Off js (L2.wipe (gS σ t caps) (List.range t)) σ7 := by rw [gS_wipe]; exact off
      have hw := wipe_off off' hj
      rw [gS_wipe] at hw
      refine ⟨by rw [hw, gS_wipe], ?_⟩
      refine he xs[i] (px.1 _ (List.getElem_mem hlt)) _ σ7 H7 h7 _ fun v H8 h8 => ?_
      have ev : v = .bl (fe xs[i]) := by
        obtain ⟨A8, B8, h8⟩ := h8
        exact h8.hd
      refine ⟨fe xs[i], ev, ?_⟩
      by_cases es : fe xs[i] = stop
      · rw [if_pos es]
        refine back h8 (fun t z => List.mem_cons_of_mem _ z) ?_
        have := px.2
        rw [anyR_stop (List.getElem_mem hlt) es] at this
        exact this
      · rw [if_neg es]
        refine ⟨fun j hj hji => ?_, ?_⟩
        · by_cases e : j = i
          · subst e; exact es
          · exact hno j hj (by omega)
        · have h9 := (h8.pop).wipe (vs := List.range t) fun j hj => isUS_free (hcu _ j hj)
          rw [hcg, hw] at h9
          exact h9
    · have e : i = xs.length := by omega
      subst e
      refine .inl ⟨io.stop _ _ _ _ _ sT h5, back h5 (fun t z => z) ?_⟩
      have := px.2
      rw [anyR_end fun x hx => by
        obtain ⟨j, hj, ej⟩ := List.getElem_of_mem hx
        rw [← ej]
        exact hno j hj hj] at this
      exact this
theorem ep_gen {stop : Bool} {P : Addr} {t : Nat} {caps : List Nat} {wi : TI} {g : TG} {cg : β → Ctx} {js : List Nat} {S : Prop} {xs : List β} {Se : β → Prop} {fe : β → Bool} (hP : HasTab c P) (hcap : ∀ j ∈ caps, isSh c j = true)
    (hi : IWP c wi m Rb S xs) (hg : GP (cgen c t caps) g m Rb cg js) (he : ∀ x, EP (cg x) te m1 rBool (Se x) (fe x)) (hj : ∀ j ∈ js, j ∈ List.range t) (hcg : ∀ x, wipeC (cg x) (List.range t) = cgen c t caps) (hcu : ∀ x, ∀ i ∈ List.range t, isUS (cg x) i = true) :
    EP c (tGen stop P t caps wi g te) .n rBool (S ∧ ∀ x ∈ xs, Se x) (anyR stop xs fe) := fun s T σ H hd Q k =>
  ew_gen hP hcap hi.w hg he hj hcg hcu (fun b => b = anyR stop xs fe) ⟨s.1, s.2, rfl⟩ T σ H hd Q fun b v H' e q => by
    subst e; exact k v H' q
/-! ### defs with tables -/
def hideL (Ps : List Addr) (H : Hp) : Hp := fun a => if a ∈ Ps then none else H a
abbrev hideF (Ps : List Addr) (H : Hp) (B : List Addr) : Fm := ⟨hideL Ps H, B, []⟩
def spG (Ps : List Addr) (keep stt : Bool) {ι : Type} (L : ι → List Pm) {ρ : Type} (Rr : Rp ρ) (spec : ι → (ρ → Prop) → Prop) : Sp := fun vs H Q _ =>
  ∃ (i : ι) (B : List Addr) (Post : ρ → Prop), argsOk stt (L i) B vs H ∧ Ps.Nodup ∧ (∀ P ∈ Ps, TabG H P) ∧ spec i Post ∧ ∀ a v H', Post a → RetOk (hideF Ps H B) Rr a v H' → (keep = true → ∀ P ∈ Ps, TabG H' P) → Q v H'
abbrev spFG (Ps : List Addr) {ι : Type} (L : ι → List Pm) {ρ : Type} (Rr : Rp ρ) (pre : ι → Prop) (f : ι → ρ) : Sp := spG Ps true false L Rr fun i P => pre i ∧ P (f i)
def RtOkT (Ps : List Addr) (keep : Bool) (F : Fm) {α : Type} (R : Rp α) (Post : α → Prop) (rt : VK) : Prop := ∀ a v H', Post a → RetOk F R a v H' → (keep = true → ∀ P ∈ Ps, TabG H' P) → rt v H'
theorem sw_retT {Ps : List Addr} {keep : Bool} {We : (α → Prop) → Prop} {Post : α → Prop} (hR : RtOkT Ps keep F R Post D.rt) (ht : ∀ P ∈ Ps, HasTab c P) (he : EW c te .n R We) : SW F c T (tSeq (tRet te) tr) D (We Post) :=
  fun nb w σ H hd => he _ w T σ H hd _ fun a v H' pa ⟨A, B, h'⟩ => hR a v H' pa h'.ret fun _ P hP => by
    obtain ⟨i, hi⟩ := ht P hP
    exact (h'.tabAt hi).2
/-- behind a call of a def with tables -/
theorem HdA.calledG {Ps : List Addr} {v : V} {a : α} (h : HdA F c T σ H A B) (ht : ∀ P ∈ Ps, HasTab c P) (r : RetOk (hideF Ps H []) R a v H') (g : ∀ P ∈ Ps, TabG H' P) : HD F c (⟨v, .n, R.at a⟩ :: T) σ H' := by
  have h2 : HdA F c T σ H' A B := h.tabs ht (fun x o nx q => r.fr x o (by show (if x ∈ Ps then none else H x) = some o; rw [if_neg nx]; exact q) (by simp)) g
  refine HD.push h2 (show R.r (view F A B .n H') v a from R.monoT ⟨fun x o n q => ?_⟩ r.rp)
  obtain ⟨q1, q2⟩ := hid_some.mp q
  refine view_some.mpr ⟨fun z => q1 (.inr ?_), q2⟩
  have nx : x ∉ Ps := fun hx => by
    obtain ⟨ps, e, _⟩ := g x hx
    rw [q2] at e; cases e; exact n
  have hm : mutAt H x := by
    rcases z with z | z
    · exact h.own x z
    · exact h.mut0 x z
  obtain ⟨u, e, nt⟩ := hm
  exact ⟨u, by show (if x ∈ Ps then none else H x) = some u; rw [if_neg nx]; exact e, nt⟩
theorem ew_callTb {Ps : List Addr} {L : ι → List Pm} {Rr : Rp ρ} {spec : ι → (ρ → Prop) → Prop} {E : XK} {t : TA} {La : ι → AL} {W : (ι → Prop) → Prop} (hn : Ps.Nodup) (ht : ∀ P ∈ Ps, HasTab c P) (ha : AW' c t La W) (e : ∀ i, (La i).map Prod.snd = (L i).map Pm.p := by intro _; rfl) :
    EW c (tCall (spG Ps true false L Rr spec) [] E t) .n Rr (fun P => W fun i => spec i P) := fun P w T σ H hd Q k =>
  ha _ w T σ H hd _ fun i vs H1 pi el ⟨A, B, h1⟩ => by
    rw [List.append_nil]
    refine ⟨i, [], P, ⟨rfl, ?_⟩, hn, fun P' hP' => ?_, pi, fun a v H' pa r g => k a v H' pa (HdA.calledG (h1.sub fun t z => List.mem_append_right _ z) ht r (g rfl))⟩
    · exact zipT_paired (G := fun m => view _ A B m H1) el (e i) (fun t ht => h1.tm t (List.mem_append_left _ ht)) fun m => view_full
    · obtain ⟨j, hj⟩ := ht P' hP'
      exact (h1.tabAt hj).2
theorem ep_callTb {Ps : List Addr} {L : ι → List Pm} {Rr : Rp ρ} {pre : ι → Prop} {f : ι → ρ} {E : XK} {t : TA} {La : AL} {S : Prop} (hn : Ps.Nodup) (ht : ∀ P ∈ Ps, HasTab c P) (i : ι) (ha : AP' c t S La) (e : La.map Prod.snd = (L i).map Pm.p := by rfl) :
    EP c (tCall (spFG Ps L Rr pre f) [] E t) .n Rr (S ∧ pre i) (f i) := fun s T σ H hd Q k =>
  ha s.1 T σ H hd _ fun vs H1 el ⟨A, B, h1⟩ => by
    rw [List.append_nil]
    refine ⟨i, [], fun x => x = f i, ⟨rfl, ?_⟩, hn, fun P' hP' => ?_, ⟨s.2, rfl⟩, fun a v H' pa r g => by
      subst pa
      exact k v H' (HdA.calledG (h1.sub fun t z => List.mem_append_right _ z) ht r (g rfl))⟩
    · exact zipT_paired (G := fun m => view _ A B m H1) el e (fun t ht => h1.tm t (List.mem_append_left _ ht)) fun m => view_full
    · obtain ⟨j, hj⟩ := ht P' hP'
      exact (h1.tabAt hj).2
end
end TW

set_option maxRecDepth 100000
set_option maxHeartbeats 4000000
/-! ## 45. defs with tables; the head with tables -/
namespace TW
open PySem PySem.Spec PyProof.Rows L2 GxR GnX
section
variable {X : Cx} {pins : List (Addr × Obj)} {σ σ' : L2.St} {H : Hp} {s : Shared}
theorem inv_fill (I : L2.Inv X pins σ H s) (hl : σ'.length = σ.length) (w : ∀ (i : Nat) v x, X.N[i]? = some x → σ'[i]? = some (some v) → σ[i]? = some (some v) ∨ ¬ Vis X.env.scope x) : L2.Inv X pins σ' H s :=
  ⟨I.ok, I.os, I.bare, I.base, let ⟨m, hn, hl'⟩ := I.loc; ⟨m, hn, fun i x v e1 e2 e3 => hl' i x v e1 ((w i v x e1 e2).resolve_right (fun z => z e3)) e3⟩, I.cell, I.free, I.freeC, I.pin, I.hok, hl.trans I.len⟩
def tFill (n0 k : Nat) (t : TS) : TS := fun D σ H => t D (σ.take n0 ++ List.replicate k (some .non)) H
theorem pss_fill {N0 Dn : List Str} {st : List Stmt} {t : TS} (h : PSs X st t) (hN : X.N = N0 ++ Dn) (hD : ∀ y ∈ Dn, ¬ Vis X.env.scope y) : PSs X st (tFill N0.length Dn.length t) := by
  refine ⟨fun pins s σ H D I q => h.run pins s _ H D (inv_fill I ?_ fun i v x e1 e2 => ?_) q⟩
  · have := I.len
    rw [hN, List.length_append] at this
    simp only [List.length_append, List.length_take, List.length_replicate]
    omega
  · have hlen := I.len
    rw [hN, List.length_append] at hlen
    by_cases hi : i < N0.length
    · left
      rw [List.getElem?_append_left (by simp only [List.length_take]; omega), List.getElem?_take_of_lt hi] at e2
      exact e2
    · right
      rw [hN, List.getElem?_append_right (by omega)] at e1
      exact hD x (List.mem_of_getElem? e1)
end
theorem nd_ix {α : Type} {N : List α} (hN : N.Nodup) {i j : Nat} {x : α} (a : N[i]? = some x) (b : N[j]? = some x) : i = j := by
  obtain ⟨h1, e1⟩ := List.getElem?_eq_some_iff.mp a
  obtain ⟨h2, e2⟩ := List.getElem?_eq_some_iff.mp b
  exact (List.getElem_inj hN).mp (e1.trans e2.symm)
section
variable {F : Fm} {c : Ctx} {T : List Tm} {σ : Sg} {H H' : Hp} {A : Nat → List Addr} {B : List Addr}
theorem HD.addTabs {Ps : List Addr} (h : HD ⟨H, B, []⟩ c [] σ H) (nd : Ps.Nodup) (tg : ∀ P ∈ Ps, TabG H P) (hno : ∀ (i : Nat) p, c[i]? ≠ some (Sl.ow p)) :
    HD (hideF Ps H B) (c ++ Ps.map fun P => Sl.ow (oTab P)) [] (σ ++ List.replicate Ps.length (some .non)) H := by
  obtain ⟨A, B', h⟩ := h
  have hA : ∀ i, A i = [] := fun i => by
    have q := h.sl i
    unfold slOk at q
    cases e : c[i]? with
    | none => rw [e] at q; exact q
    | some s =>
      rw [e] at q
      cases s with
      | un => exact q
      | sh m p => exact q.1
      | ow p => exact absurd e (hno i p)
      | io => exact q.1
  have hBn : ∀ P ∈ Ps, ¬ hB (⟨H, B, []⟩ : Fm) B' P := fun P hP z => by
    obtain ⟨ps, e, _⟩ := tg P hP
    rcases z with z | ⟨o, z⟩
    · rcases h.st with q | ⟨a, c', ns, sd, e0, _, h1, h2⟩
      · rw [q] at z; simp at z
      · rw [e0] at z
        simp only [List.mem_cons, List.not_mem_nil, or_false] at z
        rcases z with z | z
        · rw [z, h1] at e; cases e
        · rw [z, h2] at e; cases e
    · simp at z
  let A2 : Nat → List Addr := fun i => if c.length ≤ i then ((Ps[i - c.length]?).map fun P => [P]).getD [] else []
  have mem : ∀ {i a}, a ∈ A2 i → c.length ≤ i ∧ Ps[i - c.length]? = some a := fun {i a} ha => by
    by_cases hi : c.length ≤ i
    · have ha : a ∈ (if c.length ≤ i then ((Ps[i - c.length]?).map fun P => [P]).getD [] else []) := ha
      rw [if_pos hi] at ha
      cases e : Ps[i - c.length]? with
      | none => rw [e] at ha; simp at ha
      | some P => rw [e] at ha; simp at ha; subst ha; exact ⟨hi, rfl⟩
    · have ha : a ∈ (if c.length ≤ i then ((Ps[i - c.length]?).map fun P => [P]).getD [] else []) := ha
      rw [if_neg hi] at ha; simp at ha
  have hv : ∀ m, ExtT (view ⟨H, B, []⟩ A B' m H) (view (hideF Ps H B) A2 B' m H) := fun m => ⟨fun a o n q => by
    obtain ⟨q1, q2⟩ := view_some.mp q
    have nP : ∀ i, a ∉ A2 i := fun i z => by
      obtain ⟨ps, e, _⟩ := tg a (List.mem_of_getElem? (mem z).2)
      rw [q2] at e; cases e; exact n
    have hbb : hB (hideF Ps H B) B' a → hB (⟨H, B, []⟩ : Fm) B' a := fun z => z
    have hm : mutAt (hideL Ps H) a → mutAt H a := fun ⟨u, e, z⟩ => by
      have e : (if a ∈ Ps then none else H a) = some u := e
      split at e
      · cases e
      · exact ⟨u, e, z⟩
    refine view_some.mpr ⟨fun z => q1 ?_, q2⟩
    cases m
    · rcases z with (z | ⟨i, z⟩) | z
      · exact .inl (.inl (hbb z))
      · exact absurd z (nP i)
      · exact .inr (hm z)
    · rcases z with z | ⟨i, z⟩
      · exact .inl (hbb z)
      · exact absurd z (nP i)
    · exact hbb z⟩
  refine ⟨A2, B', ?_, fun j => ?_, by simp, fun i j a hi hj => ?_, fun i a hi z => hBn a (List.mem_of_getElem? (mem hi).2) z, h.iq, fun a o q r => ?_, fun a q r => ?_, h.st, fun a ⟨o, z⟩ => by simp at z, by simp⟩
  · have := h.len
    simp [this]
  · unfold slOk
    by_cases hj : c.length ≤ j
    · have e1 : (c ++ Ps.map fun P => Sl.ow (oTab P))[j]? = (Ps[j - c.length]?).map fun P => Sl.ow (oTab P) := by
        rw [List.getElem?_append_right hj, List.getElem?_map]
      rw [e1]
      have e3 : A2 j = ((Ps[j - c.length]?).map fun P => [P]).getD [] := if_pos hj
      cases e : Ps[j - c.length]? with
      | none =>
        rw [e] at e3
        exact e3
      | some P =>
        rw [e] at e3
        refine ⟨.non, ?_, e3, tg P (List.mem_of_getElem? e), rfl⟩
        have hl := (List.getElem?_eq_some_iff.mp e).1
        have hcl := h.len
        rw [List.getElem?_append_right (by omega), List.getElem?_replicate, if_pos (by omega)]
    · have hlt : j < c.length := by omega
      rw [List.getElem?_append_left hlt]
      have q := h.sl j
      unfold slOk at q
      have e3 : A2 j = [] := if_neg hj
      have hσ : (σ ++ List.replicate Ps.length (some V.non))[j]? = σ[j]? := List.getElem?_append_left (by have := h.len; omega)
      cases e : c[j]? with
      | none => exact e3
      | some s =>
        rw [e] at q
        cases s with
        | un => exact e3
        | sh m p =>
          obtain ⟨_, v, hv1, hp1⟩ := q
          exact ⟨e3, v, by rw [hσ]; exact hv1, SP.monoT _ (hv _) hp1⟩
        | ow p => exact absurd e (hno j p)
        | io =>
          obtain ⟨_, a, r, h1, h2⟩ := q
          exact ⟨e3, a, r, by rw [hσ]; exact h1, h2⟩
  · obtain ⟨h1, e1⟩ := mem hi
    obtain ⟨h2, e2⟩ := mem hj
    have q := nd_ix nd e1 e2
    omega
  · have q : (if a ∈ Ps then none else H a) = some o := q
    split at q
    · cases q
    · exact h.fr a o q r
  · show (if a ∈ Ps then none else H a) = none
    split
    · rfl
    · rename_i hn
      rcases q with q | ⟨i, q⟩
      · exact h.ni a (.inl q) r
      · exact absurd (List.mem_of_getElem? (mem q).2) hn
end
section
variable {P : Program} {w : World} {K : PySem.W.Frag} {mg : Str → Option Value} {base : Heap}
theorem c0_now {stt : Bool} {L : List Pm} {n : Nat} : ∀ (i : Nat) p, (c0 stt L n)[i]? ≠ some (Sl.ow p) := fun i p h => by
  have hm := List.mem_of_getElem? h
  unfold c0 at hm
  rcases List.mem_append.mp hm with hm | hm
  · rcases List.mem_append.mp hm with hm | hm
    · cases stt <;> simp at hm
    · simp at hm
  · simp at hm
theorem spG_len {Ps : List Addr} {keep stt : Bool} {ι ρ : Type} {L : ι → List Pm} {Rr : Rp ρ} {spec : ι → (ρ → Prop) → Prop} {vs : List V} {H : Hp} {Q : VK} {E : XK} (h : spG Ps keep stt L Rr spec vs H Q E) : ∃ i, vs.length = (L i).length + (if stt then 1 else 0) := by
  obtain ⟨i, B, Post, ha, _⟩ := h
  exact ⟨i, ha.len⟩
theorem fn_okG {Ps : List Addr} {keep : Bool} {ι ρ : Type} {stt : Bool} {L : ι → List Pm} {Rr : Rp ρ} {spec : ι → (ρ → Prop) → Prop} {x : Str} {st : Stmt} {fd : FuncData} {N0 Dn ps : List Str} {k : Nat} (F : FnP K x st (He.ga K x) fd) (S : FnScope (N0 ++ Dn) ps (defScope st))
    (hD : Dn.length = Ps.length) (hv : ∀ y ∈ Dn, (defScope st).names.lookup y = none) (hl : ∀ i, (L i).length + (if stt then 1 else 0) = ps.length) (hn : ps.length ≤ N0.length)
    (h : ∀ (A : Around) (outer : List Env) (s : Shared) (H : Hp) (E : XK), Room k (A.deeper (envOfC x (defScope st) s.heap.objs.size (He.ga K x) (.ref (He.codeOf K (x, none))))) →
      ∃ t, PSs (cxOf CX0 P w K mg base (N0 ++ Dn) x (defScope st) (He.ga K x) (.ref (He.codeOf K (x, none))) A outer s H E).nox (defBody st) t ∧ ∀ (i : ι) (B : List Addr) (Post : ρ → Prop) (Q : VK), RtOkT Ps keep (hideF Ps H B) Rr Post Q → spec i Post → (stt = false → B = []) →
        ∀ σ H1, HD (hideF Ps H B) (c0 stt (L i) (N0.length - ps.length) ++ Ps.map fun P => Sl.ow (oTab P)) [] σ H1 → t { nx := fun _ H' => Q .non H', rt := Q } σ H1) :
    FnOk P w K mg base CX0 (k + 1) (He.ga K x) fd ps (spG Ps keep stt L Rr spec) := by
  have len : ∀ vs H Q E, spG Ps keep stt L Rr spec vs H Q E → vs.length = ps.length := fun vs H Q E h => by
    obtain ⟨i, e⟩ := spG_len h
    rw [e]; exact hl i
  obtain ⟨oc, od, dV, kV, doc, pm, an, cdv, ct, osl, rfl, lk, hcd, _, _⟩ := F.ex
  obtain ⟨c, rfl⟩ := He.codeIn_ref hcd
  have ec : He.codeOf K (x, none) = c := He.codeOf_eq (p := (x, none)) (show K.lookup (He.fAd K (x, none)) = _ from lk) rfl
  rw [ec] at h
  refine fn_of lk hcd S len fun A outer s H vs Q E hr hsp => ?_
  have hlen := len _ _ _ _ hsp
  obtain ⟨i, B, Post, ha, nd, tg, hs, hQ⟩ := hsp
  obtain ⟨t, ht, hq⟩ := h A outer s H E hr
  refine ⟨_, pss_fill (N0 := N0) (Dn := Dn) ht.nox rfl (fun y hy z => ?_), ?_⟩
  · have e := hv y hy
    rcases z with z | z | z <;> rw [show (defScope st).names.lookup y = _ from z] at e <;> cases e
  · refine hq i B Post Q hQ hs (fun e => by subst e; exact ha.1) _ H ?_
    have h0 := start_hd (N := N0) ha (by rw [hlen]; exact hn)
    rw [hlen] at h0
    have h1 := HD.addTabs h0 nd tg c0_now
    have e1 : (start (N0 ++ Dn) vs).take N0.length = start N0 vs := by
      unfold L2.start
      rw [List.take_append]
      have : vs.length ≤ N0.length := by rw [hlen]; exact hn
      simp only [List.length_map, List.length_append, List.take_replicate]
      rw [List.take_of_length_le (by simpa using this)]
      congr 2
      omega
    rw [e1, hD]
    exact h1
end
/-! ### the head -/
abbrev AlXU : Type := Bool × He.AlD
def obsXU (ex : List (Str × String)) (fa : List He.Fa) (fn : List He.DefD) (tf : List He.Defn) (g : Addr → Option Obj) (K : PySem.W.Frag) : AlXU := (extOk ex K && He.tabsB g tf K, He.obsD fa fn K)
structure SaysXU (ex : List (Str × String)) (fa : List He.Fa) (fn : List He.DefD) (tf : List He.Defn) (h : Heap) (K : PySem.W.Frag) : Prop where
  x : SaysX ex fa fn K
  hd : ∀ p ∈ tf, PySem.W.codeHdIn K (He.cT K p).1 (He.cT K p).2 = true
  out : ∀ p ∈ tf, K.lookup (He.cT K p).2 = none
  empty : ∀ p ∈ tf, h.get? (He.cT K p).2 = some { cls := .none, data := .fields #[] }
theorem saysXU_of {n : Nat} {ex : List (Str × String)} {fa : List He.Fa} {fn : List He.DefD} {tf : List He.Defn} {h : Heap} (e : obsXU ex fa fn tf h.get? (He.frT h.get? (He.asD h.get? n)) = (true, He.valD fn)) : SaysXU ex fa fn tf h (He.frT h.get? (He.asD h.get? n)) := by
  have e1 : (extOk ex (He.frT h.get? (He.asD h.get? n)) && He.tabsB h.get? tf (He.frT h.get? (He.asD h.get? n))) = true := congrArg (fun z : AlXU => z.1) e
  have e2 : He.obsD fa fn (He.frT h.get? (He.asD h.get? n)) = He.valD fn := congrArg (fun z : AlXU => z.2) e
  obtain ⟨h1, h2⟩ := Bool.and_eq_true_iff.mp e1
  have key : ∀ p ∈ tf, PySem.W.codeHdIn (He.frT h.get? (He.asD h.get? n)) (He.cT (He.frT h.get? (He.asD h.get? n)) p).1 (He.cT (He.frT h.get? (He.asD h.get? n)) p).2 = true ∧ ∃ o, h.get? (He.cT (He.frT h.get? (He.asD h.get? n)) p).2 = some o ∧ He.emptyTab o = true := fun p hp => by
    obtain ⟨h3, h4⟩ := Bool.and_eq_true_iff.mp (List.all_eq_true.mp h2 p hp)
    refine ⟨h3, ?_⟩
    cases q : h.get? (He.cT (He.frT h.get? (He.asD h.get? n)) p).2 with
    | none =>
      rw [q] at h4
      cases h4
    | some o =>
      rw [q] at h4
      exact ⟨o, rfl, h4⟩
  refine ⟨?_, fun p hp => (key p hp).1, fun p hp => by
    obtain ⟨_, o, q, z⟩ := key p hp
    exact He.frT_none q z, fun p hp => by
    obtain ⟨_, o, q, z⟩ := key p hp
    rw [q, He.emptyTab_eq z]⟩
  show (extOk ex _, He.obsD fa fn _) = (true, He.valD fn)
  rw [h1, e2]
def obsXUG (n : Nat) (ex : List (Str × String)) (fa : List He.Fa) (fn : List He.DefD) (tf : List He.Defn) (g : Addr → Option Obj) : AlXU := obsXU ex fa fn tf g (He.frT g (He.asD g n))
def hookXU (n : Nat) (ex : List (Str × String)) (fa : List He.Fa) (fn : List He.DefD) (tf : List He.Defn) : PySem.W.Hook where
  α := AlXU
  obs := fun s => obsXUG n ex fa fn tf s.heap.get?
  val := fun _ => (true, He.valD fn)
  says := fun _ h => ∃ K : PySem.W.Frag, K.In h ∧ SaysXU ex fa fn tf h K
  of := fun _ _ e => ⟨_, He.frT_in, saysXU_of e⟩
  keeps := fun _ _ _ ⟨K, hK, c⟩ k => ⟨K, PySem.W.Frag.In.keeps hK k, ⟨c.x, c.hd, c.out, fun p hp => k _ _ (c.empty p hp)⟩⟩
theorem obsXUG_eq {n : Nat} {ex : List (Str × String)} {fa : List He.Fa} {fn : List He.DefD} {tf : List He.Defn} {g : Addr → Option Obj} {s : Shared} (h : ∀ a, g a = s.heap.get? a) : obsXUG n ex fa fn tf g = (hookXU n ex fa fn tf).obs s := by
  have e : g = s.heap.get? := funext h
  rw [e]; rfl
/-- the law's promise, with tables -/
abbrev spLawT (K : PySem.W.Frag) (Ps : List Addr) : Sp := spG Ps false false (fun i : Addr × List Int => [pmScript K i]) rBool (fun i P => i.2.length ≤ 63 ∧ P true)
theorem rtOkT_law {Ps : List Addr} {F : Fm} {α : Type} {R : Rp α} {Post : α → Prop} {rt : VK} (h : RtOkT Ps false F R Post rt) : RtOk F R Post rt := fun a v H' p r => h a v H' p r fun e => by cases e
end TW

set_option maxRecDepth 100000
set_option maxHeartbeats 4000000
namespace TW
open PySem PySem.Spec PyProof.Rows L2 GxR GnX
theorem tabs_nil {c : Ctx} : ∀ P ∈ ([] : List Addr), HasTab c P := fun P hP => by simp at hP
theorem tabs_cons {c : Ctx} {P : Addr} {Ps : List Addr} {i : Nat} (hi : c[i]? = some (Sl.ow (oTab P))) (h : ∀ P ∈ Ps, HasTab c P) : ∀ P' ∈ P :: Ps, HasTab c P' := fun P' hP => by
  rcases List.mem_cons.mp hP with e | e
  · subst e; exact ⟨i, hi⟩
  · exact h P' e
theorem nd_one (P : Addr) : [P].Nodup := by simp
theorem sh_of {c : Ctx} {vs : List Nat} (h : vs.all (isSh c) = true) : ∀ i ∈ vs, isSh c i = true := List.all_eq_true.mp h
theorem tabB_of {base : Heap} {mg : Str → Option Value} {c P : Addr} (h : LamX.TabB base mg c P) : GxR.TabB base mg c P := ⟨h.code, h.bm, h.gP⟩
section
variable {F : Fm} {c : Ctx} {T : List Tm} {D : Ends} {α : Type} {R : Rp α} {m m1 : Md} {te ti : TE} {tr : TS} {K : PySem.W.Frag}
/-- xs[i].append(e), the index not known ahead -/
theorem sw_appW {i : Nat} {ys : List (List α)} {Wk : (Int → Prop) → Prop} {We : Int → (α → Prop) → Prop} {Wr : Int → α → List α → Prop} (hi : c[i]? = some (Sl.ow (oLO m (oList m R) ys))) (hk : EW c ti m1 rInt Wk) (he : ∀ k, EW c te m R (We k))
    (k : ∀ j x v, SW F (c.set i (.ow (oLO m (oList m R) (setI ys j v)))) T tr D (Wr j x v)) (hnb : ctxNB c = true := by rfl) (hm : m ≠ .b := by decide) :
    SW F c T (tSeq (tDrop (tBM K "list" rAppend (tOp (rIxL K) (tVar i) ti) (tCons te tNil))) tr) D (Wk fun j => InB ys.length j ∧ We j fun x => (gI ys j).length < sizeLine ∧ ∀ v, v = gI ys j ++ [x] → Wr j x v) := fun nT w σ H hd => by
  have hv : ∃ v, σ[i]? = some (some v) := by
    obtain ⟨A, B, hd⟩ := id hd
    have q := hd.sl i
    unfold slOk at q
    rw [hi] at q
    obtain ⟨v, hv, _⟩ := q
    exact ⟨v, hv⟩
  obtain ⟨v, hv⟩ := hv
  refine ⟨v, hv, ?_⟩
  refine hk _ w T σ H hd _ fun j y H2 pj h2 => ?_
  have ey : y = .int j := by
    obtain ⟨A, B, h2⟩ := id h2
    exact h2.hd
  subst ey
  have hc : EP c (tC (.int j)) .n rInt True j := fun _ T σ H hd Q k => k (.int j) H (by
    obtain ⟨A, B, hd⟩ := hd
    exact HD.push (p := rInt.at j) hd rfl)
  have lv := lv_sub (K := K) (lv_name (c := c) (m := m) (q := oLO m (oList m R)) (y := ys) hi) hc
  obtain ⟨v', hv', q⟩ := sw_app (F := F) (T := T) (D := D) (tr := tr) lv (he j) (k j) hnb hm nT ⟨⟨trivial, trivial, pj.1⟩, pj.2⟩ σ H2 h2.pop
  rw [hv] at hv'
  cases hv'
  exact q
end
section
variable {F : Fm} {c : Ctx} {T : List Tm} {D : Ends} {α : Type} {R : Rp α} {m m1 : Md} {te ti : TE} {tr : TS} {K : PySem.W.Frag} {σ : Sg} {H : Hp} {A : Nat → List Addr} {B : List Addr}
/-- what was owned is let go -/
theorem HdA.unown {i : Nat} (hi : i < c.length) (h : HdA F c T σ H A B) : HdA F (c.set i .un) T σ H (fun j => if j = i then [] else A j) B := by
  have sub : ∀ j a, a ∈ (if j = i then [] else A j) → a ∈ A j := fun j a q => by
    by_cases e : j = i
    · rw [if_pos e] at q; simp at q
    · rw [if_neg e] at q; exact q
  have hv : ∀ m, Ext (view F A B m H) (view F (fun j => if j = i then [] else A j) B m H) := fun m a o q => by
    obtain ⟨q1, q2⟩ := view_some.mp q
    refine view_some.mpr ⟨fun z => q1 ?_, q2⟩
    cases m
    · rcases z with (z | ⟨j, z⟩) | z
      · exact .inl (.inl z)
      · exact .inl (.inr ⟨j, sub j a z⟩)
      · exact .inr z
    · rcases z with z | ⟨j, z⟩
      · exact .inl z
      · exact .inr ⟨j, sub j a z⟩
    · exact z
  refine ⟨by simpa using h.len, fun j => ?_, fun t ht => SP.mono _ (hv _) (h.tm t ht), fun j k a p q => h.dj j k a (sub j a p) (sub k a q), fun j a p => h.db j a (sub j a p), h.iq, h.fr, fun a q r => h.ni a (q.imp id fun ⟨j, z⟩ => ⟨j, sub j a z⟩) r, h.st, h.gb, h.gh⟩
  unfold slOk
  by_cases e : j = i
  · subst e
    rw [List.getElem?_set_self hi]
    exact if_pos rfl
  · rw [List.getElem?_set_ne (fun z => e z.symm)]
    have q := h.sl j
    unfold slOk at q
    cases ec : c[j]? with
    | none => rw [ec] at q; exact (if_neg e).trans q
    | some s =>
      rw [ec] at q
      cases s with
      | un => exact (if_neg e).trans q
      | sh m p => obtain ⟨a, v, hv1, hp1⟩ := q; exact ⟨(if_neg e).trans a, v, hv1, SP.mono _ (hv _) hp1⟩
      | ow p =>
        obtain ⟨v, hv1, hp1⟩ := q
        refine ⟨v, hv1, ?_⟩
        show p.P (if j = i then [] else A j) H _ v
        rw [if_neg e]
        exact OP.frame _ (fun a ha => rfl) (hv _) hp1
      | io => obtain ⟨a, r⟩ := q; exact ⟨(if_neg e).trans a, r⟩
def isOwn (c : Ctx) (i : Nat) : Bool := match c[i]? with | some (.ow _) => true | _ => false
/-- x = e, x an owned thing so far, shared from here -/
theorem sw_asgU {i : Nat} {We : (α → Prop) → Prop} {Wr : α → Prop} (he : EW c te m R We) (k : ∀ a, SW F (c.set i (.sh m (R.at a))) T tr D (Wr a)) (hi : isOwn c i = true := by rfl) : SW F c T (tSeq (tAsg te (gName i)) tr) D (We Wr) :=
  fun nb w σ H hd => he _ w T σ H hd _ fun a v H' pa h' => by
    have hl : i < c.length := by
      unfold isOwn at hi
      cases e : c[i]? with
      | none => rw [e] at hi; cases hi
      | some s => exact (List.getElem?_eq_some_iff.mp e).1
    obtain ⟨A, B, h'⟩ := h'
    have h2 : HD F (c.set i .un) (⟨v, m, R.at a⟩ :: T) σ H' := ⟨_, B, h'.unown hl⟩
    have h3 := h2.setTop (i := i) (by unfold isFree; rw [List.getElem?_set_self hl])
    rw [List.set_set] at h3
    exact k a nb pa _ H' h3
theorem sw_asgUP {i : Nat} {S : Prop} {a : α} {Wr : α → Prop} (he : EP c te m R S a) (k : ∀ v, SW F (c.set i (.sh m (R.at v))) T tr D (Wr v)) (hi : isOwn c i = true := by rfl) : SW F c T (tSeq (tAsg te (gName i)) tr) D (S ∧ ∀ v, v = a → Wr v) :=
  sw_imp (sw_asgU he.w k hi) fun w => ⟨w.1, w.2 a rfl⟩
end
end TW

set_option maxRecDepth 100000
set_option maxHeartbeats 4000000
namespace TW
open PySem PySem.Spec PyProof.Rows L2 GxR GnX
section
variable {F : Fm} {c : Ctx} {T : List Tm} {D : Ends} {α : Type} {R : Rp α} {m m1 : Md} {te ti : TE} {tr : TS} {K : PySem.W.Frag} {σ : Sg} {H : Hp} {A : Nat → List Addr} {B : List Addr}
/-- a, b, .. = xs.pop() -/
theorem sw_asgTM {ρ : Type} {c' : ρ → Ctx} {f : ρ → α} {g : TG} {cg : ρ → α → Ctx} {js : List Nat} {We : (ρ → Prop) → Prop} {Wr : ρ → α → Prop} (he : EM c te c' m R f We) (hg : ∀ r, GP (c' r) g m R (cg r) js) (k : ∀ r a, SW F (cg r a) T tr D (Wr r a)) :
    SW F c T (tSeq (tAsg te g) tr) D (We fun r => ∀ v, v = f r → Wr r v) := fun nT w σ H hd => he _ w T nT σ H hd _ fun r v H' pr h => hg r (f r) v T σ H' h _ fun σ2 H2 h2 _ => k r (f r) nT (pr _ rfl) σ2 H2 h2
/-- an owned thing is shared from here -/
theorem HD.shareAt {i : Nat} {p : α → OP} [hp0 : OwR p m R] {x : α} (hi : c[i]? = some (Sl.ow (p x))) (h : HD F c T σ H) : HD F (c.set i (.sh m (R.at x))) T σ H := by
  obtain ⟨A, B, h⟩ := h
  have hl : i < c.length := (List.getElem?_eq_some_iff.mp hi).1
  have q := h.sl i
  unfold slOk at q
  rw [hi] at q
  obtain ⟨v, hv, hp⟩ := q
  have hu := h.unown hl
  have vis : ∀ a ∈ A i, ∀ o, H a = some o → view F (fun j => if j = i then [] else A j) B m H a = some o := fun a ha o e => by
    have nb : ¬ hB F B a := h.db i a ha
    have no : ¬ ∃ j, a ∈ (if j = i then [] else A j) := fun ⟨j, z⟩ => by
      by_cases ej : j = i
      · rw [if_pos ej] at z; simp at z
      · rw [if_neg ej] at z; exact ej (h.dj j i a z ha)
    refine view_some.mpr ⟨fun z => ?_, e⟩
    cases m
    · rcases z with (z | z) | ⟨o', e', _⟩
      · exact nb z
      · exact no z
      · have nI : a ∉ F.I := fun z => nb (.inl (h.io a z))
        rw [h.ni a (.inr ⟨i, ha⟩) nI] at e'
        cases e'
    · rcases z with z | z
      · exact nb z
      · exact no z
    · exact nb z
  have hv2 : ∀ m', Ext (view F A B m' H) (view F (fun j => if j = i then [] else A j) B m' H) := fun m' => view_less (fun j a q => by
    by_cases ej : j = i
    · rw [if_pos ej] at q; simp at q
    · rw [if_neg ej] at q; exact q) m'
  have hr : R.r (view F (fun j => if j = i then [] else A j) B m H) v x := by
    have e2 := hv2 m
    rw [hp0.md] at hp
    exact hp0.sh hp vis e2
  have := HdA.set (i := i) (p := R.at x) (m := m) (v := v) hu (by simpa using hl) hr (if_pos rfl)
  rw [List.set_set] at this
  have es : σ.set i (some v) = σ := by
    apply List.ext_getElem?
    intro k
    by_cases ek : i = k
    · subst ek
      obtain ⟨h1, h2⟩ := List.getElem?_eq_some_iff.mp hv
      rw [List.getElem?_set_self h1, hv]
    · rw [List.getElem?_set_ne ek]
  rw [es] at this
  exact ⟨_, B, this⟩
theorem sw_shr {i : Nat} {p : α → OP} [OwR p m R] {x : α} {t : TS} {W : Prop} (hi : c[i]? = some (Sl.ow (p x))) (k : SW F (c.set i (.sh m (R.at x))) T t D W) : SW F c T t D W := fun nb w σ H hd => k nb w σ H (hd.shareAt hi)
end
end TW

set_option maxRecDepth 100000
set_option maxHeartbeats 4000000
/-! the result of a def that draws, as a new owned thing -/
namespace TW
open PySem PySem.Spec PyProof.Rows L2 GxR GnX
section
variable {F : Fm} {c : Ctx} {T : List Tm} {D : Ends} {α ι : Type} {R : Rp α} {m m1 m2 : Md} {te ti : TE} {tr : TS} {K : PySem.W.Frag} {σ : Sg} {H H' : Hp} {A : Nat → List Addr} {B : List Addr} {v : V}
theorem HdA.calledXS (h : HdA F c T σ H A B) {a : α} (r : RetOk ⟨H, B, []⟩ R a v H') {l : Addr} {o : HO} (hl : hid (fun x => x ∈ B ∨ mutAt H x) H' l = some o) (ho : notTup o) (hs : StP B H') :
    H' l = some o ∧ HdA F c T σ (fun x => if x = l then none else H' x) A B ∧ (∀ m, Ext (hid (mutAt (hid (fun x => x ∈ B ∨ mutAt H x) H')) (hid (fun x => x ∈ B ∨ mutAt H x) H')) (view F A B m (fun x => if x = l then none else H' x))) := by
  obtain ⟨h1, h2⟩ := hid_some.mp hl
  have nB : l ∉ B := fun z => h1 (.inl z)
  have hn : H l = none := by
    cases e : H l with
    | none => rfl
    | some u =>
      exfalso
      have e2 := r.fr l u e nB
      rw [h2] at e2
      cases e2
      exact h1 (.inr ⟨_, e, ho⟩)
  have h3 : HdA F c T σ (fun x => if x = l then none else H' x) A B := by
    have ne : ∀ x u, H x = some u → x ≠ l := fun x u e z => by rw [z, hn] at e; cases e
    refine h.drawn (fun x u nx q => ?_) (.inr (hs.frame fun x hx => ?_))
    · show (if x = l then none else H' x) = some u
      rw [if_neg (ne x u q)]; exact r.fr x u q nx
    · show (if x = l then none else H' x) = H' x
      rw [if_neg fun z => nB (by rw [← z]; exact hx)]
  refine ⟨h2, h3, fun m x u q => ?_⟩
  obtain ⟨q1, q2⟩ := hid_some.mp q
  obtain ⟨q3, q4⟩ := hid_some.mp q2
  have nt : ¬ notTup u := fun z => q1 ⟨u, q2, z⟩
  have nl : x ≠ l := fun z => by
    rw [z, h2] at q4
    cases q4
    exact nt ho
  have q5 : (fun x => if x = l then none else H' x) x = some u := by show (if x = l then none else H' x) = some u; rw [if_neg nl]; exact q4
  refine view_some.mpr ⟨h3.vis fun ⟨w, e, z⟩ => ?_, q5⟩
  rw [q5] at e
  cases e
  exact nt z
theorem HdA.calledOS {p : α → OP} [hp : OwB p R] (h : HdA F c T σ H A B) {a : α} (r : RetOk ⟨H, B, []⟩ R a v H') (hs : StP B H') : HD F (c ++ [.ow (p a)]) T (σ ++ [some v]) H' := by
  obtain ⟨l, o, e1, e2, e3, e4⟩ := hp.back r.rp
  obtain ⟨f1, f2, f3⟩ := h.calledXS r e2 e3 hs
  have := f2.allocG (p := p a) (l := l) (o := o) (if_pos rfl) e3 fun H1 z => by
    rw [← e1]
    exact e4 _ H1 (f3 _) z
  rw [upd_back f1, ← e1] at this
  exact this
theorem eo_callS {ρ : Type} {p : ρ → OP} {L : ι → List Pm} {Rr : Rp ρ} [OwB p Rr] {spec : ι → (ρ → Prop) → Prop} {E : XK} {t : TA} {La : ι → AL} {W : (ι → Prop) → Prop} {i : Nat} (hi : c[i]? = some .io) (ha : AW' c t La W) (e : ∀ i, (La i).map Prod.snd = (L i).map Pm.p := by intro _; rfl) :
    EO c (tCall (spT true L Rr spec) [] E (tCons (tVar i) t)) p (fun P => W fun i => spec i P) := fun {F} P w T σ H hd Q k => by
  have slot : ∀ {T : List Tm} {H : Hp} {A : Nat → List Addr} {B : List Addr} {F : Fm}, HdA F c T σ H A B → ∃ a r, σ[i]? = some (some (V.ref a)) ∧ B = a :: r := fun h => by
    have q := h.sl i
    unfold slOk at q
    rw [hi] at q
    exact q.2
  obtain ⟨A0, B0, hd0⟩ := hd
  obtain ⟨a, r, ea, eb⟩ := slot hd0
  refine ⟨.ref a, ea, ?_⟩
  refine ha _ w T σ H ⟨A0, B0, hd0⟩ _ fun i vs H1 pi el ⟨A, B, h1⟩ => ?_
  obtain ⟨a', r', ea', eb'⟩ := slot h1
  rw [ea] at ea'
  cases ea'
  rw [List.append_nil]
  have hst : StP B H1 := by
    rcases h1.st with z | z
    · rw [eb'] at z; cases z
    · exact z
  refine ⟨i, B, P, ⟨a, r', vs, eb', hst, rfl, ?_⟩, pi, fun a v H' pa rr => k a v H' pa (HdA.calledOS (p := p) (h1.sub fun t z => List.mem_append_right _ z) rr ?_)⟩
  · exact zipT_paired (G := fun m => view _ A B m H1) el (e i) (fun t ht => h1.tm t (List.mem_append_left _ ht)) fun m => by
      refine (view_mb).trans (hid_ext (fun x o _ q => .inl q) fun _ _ _ q => q)
  · rcases rr.st with z | z
    · rw [show B = [] from z] at eb'; cases eb'
    · exact z
end
end TW

set_option maxRecDepth 100000
set_option maxHeartbeats 4000000
/-! a def that draws one of the caller's things -/
namespace TW
open PySem PySem.Spec PyProof.Rows L2 GxR GnX
instance : Inhabited V := ⟨.non⟩
/-- any value, as it is -/
def rRaw : Rp V := ⟨fun _ v x => v = x, fun _ h => h⟩
instance : Im rRaw := ⟨fun h => h⟩
theorem raw_refl {H : Hp} : ∀ vs : List V, Paired (rRaw.r H) vs vs
  | [] => .nil
  | _ :: vs => .cons rfl (raw_refl vs)
theorem Paired.mem1 {α β : Type} {R : α → β → Prop} : ∀ {xs : List α} {ys : List β}, Paired R xs ys → ∀ x ∈ xs, ∃ y ∈ ys, R x y
  | _, _, .nil, _, h => by cases h
  | _, _, .cons h t, x, hx => by
    rcases List.mem_cons.mp hx with e | hx
    · rw [e]; exact ⟨_, List.mem_cons_self, h⟩
    · obtain ⟨y, hy, r⟩ := Paired.mem1 t x hx
      exact ⟨y, List.mem_cons_of_mem _ hy, r⟩
section
variable {F : Fm} {c : Ctx} {T : List Tm} {D : Ends} {α ι : Type} {R : Rp α} {m m1 m2 : Md} {te ti : TE} {tr : TS} {K : PySem.W.Frag} {σ : Sg} {H H' : Hp} {A : Nat → List Addr} {B : List Addr} {v : V}
theorem ew_pickL {E : XK} {i : Nat} {We : (List α → Prop) → Prop} (hi : c[i]? = some .io) (he : EW c te m (rList R) We) :
    EW c (tCall (spT true (fun j : List V × Unit => [Rp.ps (rList rRaw) j.1]) rRaw (fun j P => (j.1 ≠ [] ∧ j.1.length ≤ 1000000) ∧ ∀ x ∈ j.1, P x)) [] E (tCons (tVar i) (tCons te tNil))) m R
      (fun P => We fun xs => (xs ≠ [] ∧ xs.length ≤ 1000000) ∧ ∀ x ∈ xs, P x) := fun {F} P w T σ H hd Q k => by
  have slot : ∀ {T : List Tm} {H : Hp} {A : Nat → List Addr} {B : List Addr} {F : Fm}, HdA F c T σ H A B → ∃ a r, σ[i]? = some (some (V.ref a)) ∧ B = a :: r := fun h => by
    have q := h.sl i
    unfold slOk at q
    rw [hi] at q
    exact q.2
  obtain ⟨A0, B0, hd0⟩ := hd
  obtain ⟨a, r, ea, eb⟩ := slot hd0
  refine ⟨.ref a, ea, ?_⟩
  refine he _ w T σ H ⟨A0, B0, hd0⟩ _ fun xs v H1 pxs ⟨A, B, h1⟩ => ?_
  obtain ⟨a', r', ea', eb'⟩ := slot h1
  rw [ea] at ea'
  cases ea'
  have hst : StP B H1 := by
    rcases h1.st with z | z
    · rw [eb'] at z; cases z
    · exact z
  obtain ⟨l, vs, ev, hl, pr⟩ := (show (rList R).r (view F A B m H1) v xs from h1.hd)
  have len : vs.length = xs.length := Paired.length pr
  have ex : Ext (view F A B m H1) (hid (fun x => x ∈ B) H1) := (view_mb).trans (hid_ext (fun x o _ q => .inl q) fun _ _ _ q => q)
  refine ⟨(vs, ()), B, fun x => ∃ y ∈ xs, R.r (view F A B m H1) x y, ⟨a, r', [v], eb', hst, rfl, .cons ⟨l, vs, ev, ex _ _ hl, raw_refl vs⟩ .nil⟩, ⟨⟨fun z => ?_, ?_⟩, fun x hx => Paired.mem1 pr x hx⟩, fun x v' H' ⟨y, hy, ry⟩ rr => ?_⟩
  · have z : vs = [] := z
    rw [z] at len
    exact pxs.1.1 (List.eq_nil_of_length_eq_zero len.symm)
  · show vs.length ≤ _
    rw [len]; exact pxs.1.2
  · have e : ∀ b o, b ∉ B → H1 b = some o → H' b = some o := fun b o nb q => rr.fr b o q nb
    have st : StP B H' := by
      rcases rr.st with z | z
      · rw [show B = [] from z] at eb'; cases eb'
      · exact z
    have h2 : HdA F c T σ H' A B := h1.tl.drawn e (.inr st)
    have ex : x = v' := (show v' = x from rr.rp).symm
    subst ex
    exact k y x H' (pxs.2 y hy) (HD.push h2 (R.mono (view_mono e) ry))
end
end TW

set_option maxRecDepth 100000
set_option maxHeartbeats 4000000
/-! tuples that are known to have no dict of their own: t.index(x) -/
namespace TW
open PySem PySem.Spec PyProof.Rows L2
def PlainT (o : Obj) : Prop := o.cls = .type "tuple" ∧ o.dict = none
def SqF (H : Hp) (a : Addr) (vs : List V) : Prop := ∃ o, PlainT o ∧ H a = some (.frz o (.tup vs))
theorem SqF.sq {K : PySem.W.Frag} {H : Hp} {a : Addr} {vs : List V} (h : SqF H a vs) : SqT K H a vs := let ⟨o, _, e⟩ := h; .inl (.inr ⟨o, e⟩)
theorem SqF.extT {H H' : Hp} {a : Addr} {vs : List V} (e : ExtT H H') (h : SqF H a vs) : SqF H' a vs := let ⟨o, p, q⟩ := h; ⟨o, p, e.ap _ _ q⟩
theorem SqF.ext {H H' : Hp} {a : Addr} {vs : List V} (e : Ext H H') (h : SqF H a vs) : SqF H' a vs := h.extT e.t
theorem SqF.im {H : Hp} {a : Addr} {vs : List V} (h : SqF H a vs) : SqF (hid (mutAt H) H) a vs := by
  obtain ⟨o, p, h⟩ := h
  exact ⟨o, p, hid_some.mpr ⟨fun ⟨u, e, n⟩ => by rw [h] at e; cases e; exact n, h⟩⟩
def rTupF {α : Type} (R : Rp α) : Rp (List α) := ⟨fun H v xs => ∃ a vs, v = .ref a ∧ SqF H a vs ∧ Paired (R.r H) vs xs, fun e ⟨a, vs, h1, h2, h3⟩ => ⟨a, vs, h1, SqF.extT e h2, Paired.mono (fun _ _ q => R.monoT e q) h3⟩⟩
instance {α : Type} (R : Rp α) [Im R] : Im (rTupF R) := ⟨fun ⟨a, vs, h1, h2, h3⟩ => ⟨a, vs, h1, SqF.im h2, Paired.mono (fun _ _ q => Im.im q) h3⟩⟩
instance {α : Type} (R : Rp α) : NN (rTupF R) := ⟨fun ⟨_, _, h, _⟩ => by rw [h]; simp⟩
/-! the model's steps -/
section
variable {X : Cx}
def tTupF (t : TA) : TE := fun σ H Q => t σ H fun xs H1 => xs.length ≤ sizeLine ∧ ∀ (p : Addr) (o : Obj), PlainT o → H1 p = none → Q (.ref p) (upd H1 p (.frz o (.tup xs)))
theorem pe_tupF {es : List Expr} {t : TA} {pos : Pos} {x1} (h : PA X es t) : PE X (.Tuple es x1 pos) (tTupF t) := by
  refine ⟨fun pins s σ H Q I hq => ?_⟩
  refine wpAny_Tuple_spliced (thn (h.run pos pins s σ H _ I hq) fun us s1 ⟨xs, H1, I1, r, z, q⟩ => ⟨by rw [← r.length]; exact z, ?_⟩)
  have hf : H1 s1.heap.objs.size = none := I1.hok.fresh (Nat.le_refl _)
  refine ⟨.ref s1.heap.objs.size, upd H1 s1.heap.objs.size (.frz { cls := .type "tuple", data := .seq us.toArray } (.tup xs)), I1.laid (t' := s1.toks) (fun b u e => Heap.get?_push_of_some _ e) (Nat.le_refl _) ?_, rfl, q _ _ ⟨rfl, rfl⟩ hf⟩
  exact ⟨Heap.get?_push_size _ rfl, z, us, r, ⟨_, Heap.get?_push_size _ rfl, rfl, _, rfl⟩⟩
/-- t + u -/
def rCatF : R2 := fun x y H Q => ∃ a b xs ys, x = .ref a ∧ y = .ref b ∧ SqF H a xs ∧ SqF H b ys ∧ xs.length + ys.length ≤ sizeLine ∧
  (xs = [] → Q (.ref b) H) ∧ (xs ≠ [] → ys = [] → Q (.ref a) H) ∧ (xs ≠ [] → ys ≠ [] → ∀ (p : Addr) (o : Obj), PlainT o → H p = none → Q (.ref p) (upd H p (.frz o (.tup (xs ++ ys)))))
theorem op_catF : OpR X (binaryOp .Add) rCatF := by
  intro pins s σ H x y v u Q I rx ry h
  obtain ⟨a, b, xs, ys, rfl, rfl, ha, hb, hz, q0, q1, q2⟩ := h
  have ha' : SqT X.K H a xs := ha.sq
  have hb' : SqT X.K H b ys := hb.sq
  cases rx
  cases ry
  obtain ⟨its, r1, p1, _⟩ := I.tuple ha'
  obtain ⟨its2, r2, p2, _⟩ := I.tuple hb'
  by_cases hx : xs = []
  · subst hx
    cases r1
    exact cat_tup0 p1 p2 ⟨.ref b, H, I, rfl, q0 rfl⟩
  · refine HT.cat_tup p1 p2 (fun z => hx (r1.nil_iff.mp z)) (fun z => ⟨.ref a, H, I, rfl, q1 hx (r2.nil_iff.mp z)⟩) (fun z => ?_) (by rw [← r1.length, ← r2.length]; exact hz)
    refine ⟨.ref s.heap.objs.size, _, I.laid (t' := s.toks) (o := .frz { cls := .type "tuple", data := .seq (its ++ its2).toArray } (.tup (xs ++ ys))) (fun b ob q => Heap.get?_push_of_some _ q) (Nat.le_refl _) ?_, rfl, q2 hx (fun w => z (r2.nil_iff.mpr w)) _ _ ⟨rfl, rfl⟩ (I.hok.fresh (Nat.le_refl _))⟩
    exact ⟨Heap.get?_push_size _ rfl, by rw [List.length_append]; exact hz, _, r1.append r2, IsTup.new _ _⟩
/-- t.index(x) -/
def tBMT (r : V → List V → Hp → VK → Prop) (to : TE) (t : TA) : TE := fun σ H Q => to σ H fun x H1 => (∃ a vs, x = .ref a ∧ SqF H1 a vs) ∧ t σ H1 fun xs H2 => r x xs H2 Q
theorem pe_bmT {o e : Expr} {es : List Expr} {to : TE} {t : TA} {name : Str} {apos cpos : Pos} {id : String} {r : V → List V → Hp → VK → Prop} (slot : Slot "tuple" name id) (hty : typeOf (.builtin id) = pure (.type "method_descriptor")) (hm : MtR X id r) (ho : PE X o to) (ha : PA X (e :: es) t)
    (hbase : attributeBase o name X.env (eval o X.env) = eval o X.env := by rfl)
    (hfew : ((backTo cpos (starEach (e :: es) X.env)).all (fun x => !x.1) && (backToKw cpos (keywordEach [] X.env)).all (fun x => x.1.isSome)
      && decide ((e :: es).length + ([] : List Keyword).length + (if ([] : List Keyword).isEmpty then 0 else 1) < 30)) = true := by rfl)
    (hline : (apos.endLine == cpos.line) = true := by rfl) (hs : starEach (e :: es) X.env = (false, eval e X.env) :: starEach es X.env := by rfl) (hplain : (backTo cpos (starEach es X.env)).any (·.1) = false := by rfl) :
    PE X (.Call (.Attribute o name apos) (e :: es) [] cpos) (tBMT r to t) := by
  refine ⟨fun pins s σ H Q I h => ?_⟩
  refine wpAny_Call_method_late hbase hfew hline rfl (thn (ho.run pins s σ H _ I h) fun v s1 ⟨x, H1, I1, r1, ⟨a, vs, ex, o', ⟨oc, od⟩, hk⟩, q1⟩ => ?_)
  subst ex
  cases r1
  obtain ⟨g, -⟩ := I1.hok a _ hk
  refine ⟨"tuple", id, PySem.F.plainAttrs_tuple, slot, hty, ⟨o', g, oc⟩, fun b e => (by cases e; exact ⟨o', g, od⟩), ?_⟩
  have hA := ha.run cpos pins s1 σ H1 _ I1 q1
  rw [hs] at hA ⊢
  refine Calls.callWith_builtin (by show (false || (backTo cpos (starEach es X.env)).any (·.1)) = false; rw [hplain] <;> rfl) (Calls.evalArgs_plain ?_)
  exact thn hA fun us s2 ⟨ws, H2, I2, r2, q2⟩ => hm pins s2 σ H2 _ ws _ us Q I2 (by exact rfl) r2 q2
def rIndexT (K : PySem.W.Frag) : V → List V → Hp → VK → Prop := fun x xs H Q => ∃ (a : Addr) (ns : List Int) (k : Int), x = V.ref a ∧ xs = [V.int k] ∧ SqT K H a (ns.map V.int) ∧ k ∈ ns ∧ Q (.int (ns.idxOf k : Nat)) H
theorem mt_indexT : MtR X "tuple.index" (rIndexT X.K) := by
  intro pins s σ H x xs v us Q I rx rxs h
  obtain ⟨a, ns, k, rfl, rfl, hs, hk, q⟩ := h
  cases rx
  obtain ⟨u, rfl, ru⟩ := vals1 rxs
  obtain ⟨t, rfl⟩ := ru
  obtain ⟨its, rv, p1, _⟩ := I.tuple hs
  have hi : IntsAre its ns := intsAre_of rv
  exact SeqAt.tuple_index_ints p1 hi hk ⟨.int (ns.idxOf k : Nat), H, I.tok _, ⟨_, rfl⟩, q⟩
end
/-! typed -/
section
variable {α : Type} {c : Ctx} {m m1 m2 : Md} {K : PySem.W.Frag} {F : Fm} {T : List Tm} {R : Rp α} {te to ta tb : TE} {σ : Sg} {H : Hp} {A : Nat → List Addr} {B : List Addr}
theorem HdA.newTupF {m : Md} {p : SP} {vs : List V} {l : Addr} {o : Obj} (ho : PlainT o) (h : HdA F c T σ H A B) (hl : H l = none) (hp : ∀ H1 : Hp, Ext (view F A B m H) H1 → SqF H1 l vs → p.P H1 (.ref l)) : HD F c (⟨.ref l, m, p⟩ :: T) σ (upd H l (.frz o (.tup vs))) :=
  HD.push (h.alloc hl) (hp _ (HdA.vext hl) ⟨o, ho, h.fresh hl⟩)
theorem ew_tupF {t : TA} {n : Nat} {W : (List α → Prop) → Prop} (h : Ls c t m R n W) (hn : n ≤ 1000 := by decide) : EW c (tTupF t) m (rTupF R) W := fun P w T σ H hd Q k =>
  h P w T σ H hd _ fun xs vs H1 A B pa e h1 q => ⟨sz1000 (q.length.trans e) hn, fun l o ho hl => k xs _ _ pa (h1.newTupF ho (p := (rTupF R).at xs) hl fun H2 e hs => ⟨l, vs, rfl, hs, Paired.mono (fun _ _ z => R.mono e z) q⟩)⟩
theorem ep_tupF {n : Nat} {t : TA} {S : Prop} {xs : List α} (h : LsP c t m R n S xs) (hn : n ≤ 1000 := by decide) : EP c (tTupF t) m (rTupF R) S xs := ew_pure (ew_tupF h hn)
theorem o2_catF : O2 c rCatF m (rTupF R) m (rTupF R) m (rTupF R) (fun a b => a.length + b.length ≤ sizeLine) (fun a b => a ++ b) := fun a b s T σ H x y ⟨A, B, h⟩ Q k => by
  obtain ⟨l, vs, e, q1, q2⟩ := (show (rTupF R).r (view _ A B m H) x a from h.hd2)
  obtain ⟨l', vs', e', q1', q2'⟩ := (show (rTupF R).r (view _ A B m H) y b from h.hd)
  refine ⟨l, l', vs, vs', e, e', SqF.ext view_full q1, SqF.ext view_full q1', by rw [q2.length, q2'.length]; exact s, fun z => k _ _ (HD.push h.tl.tl (p := (rTupF R).at _) ⟨l', vs', rfl, q1', ?_⟩), fun _ z => k _ _ (HD.push h.tl.tl (p := (rTupF R).at _) ⟨l, vs, rfl, q1, ?_⟩), fun _ _ p o ho hp => k _ _ (h.tl.tl.newTupF ho (p := (rTupF R).at (a ++ b)) hp fun H4 e hs => ⟨p, _, rfl, hs, Paired.mono (fun _ _ z => R.mono e z) (paired_app q2 q2')⟩)⟩
  · subst z
    cases q2
    exact q2'
  · subst z
    cases q2'
    show Paired _ _ (a ++ [])
    rw [List.append_nil]
    exact q2
/-- as any tuple -/
theorem ep_yT {S : Prop} {xs : List α} (h : EP c te m (rTupF R) S xs) : EP c te m (rTup K R) S xs := fun s T σ H hd Q k =>
  h s T σ H hd _ fun v H' ⟨A, B, q⟩ => k v H' ⟨A, B, q.re (p' := (rTup K R).at _) (by
    obtain ⟨l, us, e, h1, h2⟩ := (show (rTupF R).r (view _ A B m H') v xs from q.hd)
    exact ⟨l, us, e, h1.sq, h2⟩)⟩
theorem ew_yT {W : (List α → Prop) → Prop} (h : EW c te m (rTupF R) W) : EW c te m (rTup K R) W := fun P w T σ H hd Q k =>
  h P w T σ H hd _ fun xs v H' pa ⟨A, B, q⟩ => k xs v H' pa ⟨A, B, q.re (p' := (rTup K R).at _) (by
    obtain ⟨l, us, e, h1, h2⟩ := (show (rTupF R).r (view _ A B m H') v xs from q.hd)
    exact ⟨l, us, e, h1.sq, h2⟩)⟩
theorem pairedInt : ∀ {H : Hp} {vs : List V} {ns : List Int}, Paired (rInt.r H) vs ns → vs = ns.map V.int
  | _, _, _, .nil => rfl
  | _, _, _, .cons h t => by rw [show _ = V.int _ from h, pairedInt t]; rfl
theorem ep_indexY {S1 S2 : Prop} {xs : List Int} {x : Int} (h1 : EP c to m (rTupF rInt) S1 xs) (h2 : EP c te m2 rInt S2 x) : EP c (tBMT (rIndexT K) to (tCons te tNil)) .n rInt (S1 ∧ S2 ∧ x ∈ xs) (xs.idxOf x : Nat) := fun s T σ H hh Q k =>
  h1 s.1 T σ H hh _ fun v H1 ⟨A, B, q⟩ => by
    obtain ⟨l, us, e, w1, w2⟩ := (show (rTupF rInt).r (view _ A B m H1) v xs from q.hd)
    refine ⟨⟨l, us, e, w1.ext view_full⟩, h2 s.2.1 _ σ H1 ⟨A, B, q⟩ _ fun y H2 ⟨A, B, q2⟩ => ?_⟩
    obtain ⟨l', us', e', w1', w2'⟩ := (show (rTupF rInt).r (view _ A B m H2) v xs from q2.hd2)
    have ey : y = V.int x := q2.hd
    refine ⟨l', xs, x, e', by rw [ey], by rw [← pairedInt w2']; exact (w1'.ext view_full).sq, s.2.2, k _ H2 (HD.push q2.tl.tl (p := rInt.at _) rfl)⟩
theorem mt_indexTK {X : Cx} (hK : X.K = K) : MtR X "tuple.index" (rIndexT K) := by subst hK; exact mt_indexT
end
end TW

/-! len(set(list of ints)) -/
namespace TW
open PySem PySem.Spec PyProof.Rows L2
theorem nd_len {xs ys : List Int} (hx : xs.Nodup) (hy : ys.Nodup) (h : ∀ z, z ∈ xs ↔ z ∈ ys) : xs.length = ys.length := by
  have key : ∀ {xs ys : List Int}, xs.Nodup → (∀ z ∈ xs, z ∈ ys) → xs.length ≤ ys.length := by
    intro xs
    induction xs with
    | nil => intro ys _ _; simp
    | cons x xs ih =>
      intro ys nd hm
      rw [List.nodup_cons] at nd
      have hxy := hm x List.mem_cons_self
      have := ih (ys := ys.erase x) nd.2 fun z hz => (List.mem_erase_of_ne (fun e => nd.1 (by rw [← e]; exact hz))).mpr (hm z (List.mem_cons_of_mem _ hz))
      have e := List.length_erase_of_mem hxy
      have p := List.length_pos_of_mem hxy
      rw [List.length_cons]
      omega
  exact Nat.le_antisymm (key hx fun z hz => (h z).mp hz) (key hy fun z hz => (h z).mpr hz)
def tLenSetI (K : PySem.W.Frag) (ta : TE) : TE := fun σ H Q => ta σ H fun x H1 => ∃ (l : Addr) (ns : List Int), x = .ref l ∧ SqL K H1 l (ns.map V.int) ∧ ns.length ≤ 4000 ∧ Q (.int ((sset ns).length : Nat)) H1
theorem pe_lenSetI {X : Cx} {K : PySem.W.Frag} {a : Expr} {ta : TE} {p p2 q pos : Pos} (hK : X.K = K) (hc : X.calm = true) (hg : Gl X "len") (hm : X.mg "len" = none) (hg2 : Gl X "set") (hm2 : X.mg "set" = none) (ha : PE X a ta)
    (na : starEach [a] X.env = (false, eval a X.env) :: starEach [] X.env := by rfl) : PE X (.Call (.Name "len" p) [.Call (.Name "set" p2) [a] [] q] [] pos) (tLenSetI K ta) := by
  subst hK
  refine ⟨fun pins s σ H Q I h => ?_⟩
  refine Call_ (ld_blt I hg hm boot_len ?_)
  refine PyProof.Rows.callWith_builtin1 (PyProof.Rows.args_cons ?_ rfl) rfl rfl
  refine Call_ (ld_blt I hg2 hm2 boot_set ?_)
  refine PyProof.Rows.callWith_type1 (PyProof.Rows.args_cons (thn (ha.run pins s σ H _ I h) fun v s1 ⟨x, H1, I1, r1, q1⟩ => PyProof.Rows.args_nil ?_) na) na rfl
  obtain ⟨l, ns, rfl, hq, hl, q1⟩ := q1
  cases r1
  obtain ⟨its, r, pl, hz⟩ := I1.list hq
  refine set_of_list ns (I1.ok.hd hc) pl.isList (by simpa using r.ints) (by unfold scanBound; omega) fun g tk k hS hk hk2 => ?_
  refine PyProof.Rows.args_nil ?_
  obtain ⟨o, es, ep, t, ho, hex, hd, _, nd, hmem, hb, hf, hn, _⟩ := hS
  have I2 : L2.Inv X pins σ H1 { s1 with heap := g, toks := tk } := I1.kept fun b o e => hk2 b o e
  have hcard : (sset ns).length = k := by
    rw [← hn, ← Array.length_toList, ← List.length_map (f := keyOf)]
    refine nd_len ((sset_up ns).imp fun h => by omega) nd fun z => ?_
    rw [sset_mem, ← hmem z]; simp
  rw [hcard] at q1
  exact call_len_set ho hex hd hf (by omega) ⟨.int k, H1, I2.tok _, ⟨_, by rw [hn]⟩, q1⟩
section
variable {c : Ctx} {m : Md} {K : PySem.W.Frag} {te : TE}
theorem ew_lenSetI {W : (List Int → Prop) → Prop} (h : EW c te m (rList rInt) W) : EW c (tLenSetI K te) .n rInt (fun P => W fun xs => xs.length ≤ 4000 ∧ P ((sset xs).length : Nat)) := fun P wp T σ H hd Q k => h _ wp T σ H hd _ fun xs v H1 px ⟨A, B, q⟩ => by
  obtain ⟨l, vs, e, h1, h2⟩ := (show (rList rInt).r (view _ A B m H1) v xs from q.hd)
  have hv := int_vs h2
  exact ⟨l, xs, e, by rw [← hv]; exact SqL.of (view_full _ _ h1), px.1, k _ _ H1 px.2 (HD.push q.tl (p := rInt.at _) rfl)⟩
theorem ep_lenSetI {S : Prop} {xs : List Int} (h : EP c te m (rList rInt) S xs) : EP c (tLenSetI K te) .n rInt (S ∧ xs.length ≤ 4000) ((sset xs).length : Nat) := fun s T σ H hd Q k => h s.1 T σ H hd _ fun v H1 ⟨A, B, q⟩ => by
  obtain ⟨l, vs, e, h1, h2⟩ := (show (rList rInt).r (view _ A B m H1) v xs from q.hd)
  have hv := int_vs h2
  exact ⟨l, xs, e, by rw [← hv]; exact SqL.of (view_full _ _ h1), s.2, k _ H1 (HD.push q.tl (p := rInt.at _) rfl)⟩
end
end TW

namespace TW
open PySem PySem.Spec PyProof.Rows L2
/-- a new list told where None may be told -/
theorem RtOk.opt {F : Fm} {α : Type} {R : Rp α} [NN R] {Post : Option α → Prop} {rt : VK} (h : RtOk F (rOpt R) Post rt) : RtOk F R (fun x => Post (some x)) rt := fun a v H p q => h (some a) v H p ⟨q.fr, q.st, NN.nn q.rp, q.rp⟩
end TW

set_option maxRecDepth 100000
set_option maxHeartbeats 2000000
/-! fractions in plain Lean -/
namespace Fr
open PySem L2 TW
/-- sizes -/
def Bd (n : Nat) (x : Int) : Prop := x.natAbs < 2 ^ n
theorem Bd.mono {n k : Nat} {x : Int} (h : Bd n x) (hk : n ≤ k) : Bd k x := Nat.lt_of_lt_of_le h (Nat.pow_le_pow_right (by decide) hk)
theorem Bd.neg {n : Nat} {x : Int} (h : Bd n x) : Bd n (-x) := by unfold Bd at *; rwa [Int.natAbs_neg]
theorem Bd.mul {n k : Nat} {x y : Int} (hx : Bd n x) (hy : Bd k y) : Bd (n + k) (x * y) := by
  unfold Bd at *
  rw [Int.natAbs_mul, Nat.pow_add]
  exact Nat.mul_lt_mul'' hx hy
theorem Bd.add {n k : Nat} {x y : Int} (hx : Bd n x) (hy : Bd k y) : Bd (max n k + 1) (x + y) := by
  have h1 := hx.mono (Nat.le_max_left n k)
  have h2 := hy.mono (Nat.le_max_right n k)
  unfold Bd at *
  have h3 := Int.natAbs_add_le x y
  rw [Nat.pow_succ]
  omega
theorem Bd.sub {n k : Nat} {x y : Int} (hx : Bd n x) (hy : Bd k y) : Bd (max n k + 1) (x - y) := by
  rw [Int.sub_eq_add_neg]; exact hx.add hy.neg
theorem Bd.of_le {n : Nat} {x y : Int} (hy : Bd n y) (h : x.natAbs ≤ y.natAbs) : Bd n x := Nat.lt_of_le_of_lt h hy
theorem Bd.one : Bd 1 1 := by unfold Bd; decide
theorem Bd.mulOk {n k : Nat} {x y : Int} (hx : Bd n x) (hy : Bd k y) (h : n + k ≤ 999990) : CMulW x y :=
  wide_mul (hx.mono (Nat.le_succ n)) (hy.mono (Nat.le_succ k)) (Nat.succ_pos _) (Nat.succ_pos _) (by omega)
theorem Bd.log {n : Nat} {x : Int} (hx : Bd n x) (h : n ≤ 8999) : x.natAbs.log2 < 9000 := Nat.lt_of_lt_of_le (PySem.Flt.log2_lt_of (Nat.succ_pos n) (hx.mono (Nat.le_succ n))) (by omega)

def gcdZ (a b : Int) : Int := ((Nat.gcd a.natAbs b.natAbs : Nat) : Int)
theorem gcdZ_pos {a b : Int} (h : b ≠ 0) : 0 < gcdZ a b := by
  unfold gcdZ
  have : 0 < Nat.gcd a.natAbs b.natAbs := Nat.gcd_pos_of_pos_right _ (Int.natAbs_pos.mpr h)
  omega
theorem gcdZ_dvd_left (a b : Int) : gcdZ a b ∣ a := Int.natAbs_dvd_natAbs.mp (by unfold gcdZ; rw [Int.natAbs_natCast]; exact Nat.gcd_dvd_left _ _)
theorem gcdZ_dvd_right (a b : Int) : gcdZ a b ∣ b := Int.natAbs_dvd_natAbs.mp (by unfold gcdZ; rw [Int.natAbs_natCast]; exact Nat.gcd_dvd_right _ _)
theorem gcdZ_le {a b : Int} (h : b ≠ 0) : (gcdZ a b).natAbs ≤ b.natAbs := by
  unfold gcdZ
  rw [Int.natAbs_natCast]
  exact Nat.le_of_dvd (Int.natAbs_pos.mpr h) (Nat.gcd_dvd_right _ _)
/-- in lowest terms -/
def low (p q : Int) : Int × Int := if 0 < q then (p / gcdZ p q, q / gcdZ p q) else (-p / gcdZ p q, -q / gcdZ p q)
theorem low_fdiv {p q c : Int} (h : q ≠ 0) (hc : c = if 0 < q then gcdZ p q else -gcdZ p q) : (p.fdiv c, q.fdiv c) = low p q := by
  have hg := gcdZ_pos (a := p) h
  obtain ⟨k, hk⟩ := gcdZ_dvd_left p q
  obtain ⟨l, hl⟩ := gcdZ_dvd_right p q
  unfold low
  by_cases hq : 0 < q
  · rw [if_pos hq] at hc ⊢
    rw [hc, Int.fdiv_eq_ediv_of_nonneg _ (Int.le_of_lt hg), Int.fdiv_eq_ediv_of_nonneg _ (Int.le_of_lt hg)]
  · rw [if_neg hq] at hc ⊢
    rw [hc]
    generalize gcdZ p q = g at *
    have ng : -g ≠ 0 := by omega
    have e1 : p = (-g) * (-k) := by rw [Int.neg_mul_neg]; exact hk
    have e2 : q = (-g) * (-l) := by rw [Int.neg_mul_neg]; exact hl
    have e3 : -p = g * (-k) := by rw [hk, Int.mul_neg]
    have e4 : -q = g * (-l) := by rw [hl, Int.mul_neg]
    have g0 : g ≠ 0 := by omega
    rw [e3, e4, Int.mul_ediv_cancel_left _ g0, Int.mul_ediv_cancel_left _ g0]
    have f1 : p.fdiv (-g) = -k := by rw [e1]; exact Int.mul_fdiv_cancel_left _ ng
    have f2 : q.fdiv (-g) = -l := by rw [e2]; exact Int.mul_fdiv_cancel_left _ ng
    rw [f1, f2]
/-- a fraction: a denominator above 0, sizes -/
structure FrB (n : Nat) (a : Int × Int) : Prop where
  num : Bd n a.1
  den : Bd n a.2
  pos : 0 < a.2
theorem FrB.mono {n k : Nat} {a : Int × Int} (h : FrB n a) (hk : n ≤ k) : FrB k a := ⟨h.num.mono hk, h.den.mono hk, h.pos⟩
theorem low_pos {p q : Int} (h : q ≠ 0) : 0 < (low p q).2 := by
  have hg := gcdZ_pos (a := p) h
  obtain ⟨l, hl⟩ := gcdZ_dvd_right p q
  unfold low
  generalize gcdZ p q = g at *
  by_cases hq : 0 < q
  · rw [if_pos hq]
    show 0 < q / g
    rw [hl, Int.mul_ediv_cancel_left _ (by omega)]
    rw [hl] at hq
    exact Int.pos_of_mul_pos_right hq (by omega) 
  · rw [if_neg hq]
    show 0 < -q / g
    have e : -q = g * (-l) := by rw [hl, Int.mul_neg]
    rw [e, Int.mul_ediv_cancel_left _ (by omega)]
    have : 0 < g * (-l) := by rw [← e]; omega
    exact Int.pos_of_mul_pos_right this (by omega)
theorem ediv_abs {x g : Int} (hg : 0 < g) (h : g ∣ x) : (x / g).natAbs ≤ x.natAbs := by
  obtain ⟨k, rfl⟩ := h
  rw [Int.mul_ediv_cancel_left _ (by omega), Int.natAbs_mul]
  exact Nat.le_mul_of_pos_left _ (Int.natAbs_pos.mpr (by omega))
theorem low_B {n : Nat} {p q : Int} (hp : Bd n p) (hq : Bd n q) (h : q ≠ 0) : FrB n (low p q) := by
  have hg := gcdZ_pos (a := p) h
  refine ⟨?_, ?_, low_pos h⟩ <;> unfold low <;> split
  · exact hp.of_le (ediv_abs hg (gcdZ_dvd_left p q))
  · exact hp.neg.of_le (ediv_abs hg (Int.dvd_neg.mpr (gcdZ_dvd_left p q)))
  · exact hq.of_le (ediv_abs hg (gcdZ_dvd_right p q))
  · exact hq.neg.of_le (ediv_abs hg (Int.dvd_neg.mpr (gcdZ_dvd_right p q)))
def add (a b : Int × Int) : Int × Int := low (a.1 * b.2 + b.1 * a.2) (a.2 * b.2)
def less (a b : Int × Int) : Int × Int := low (a.1 * b.2 - b.1 * a.2) (a.2 * b.2)
def times (a b : Int × Int) : Int × Int := low (a.1 * b.1) (a.2 * b.2)
def over (a b : Int × Int) : Int × Int := low (a.1 * b.2) (a.2 * b.1)
abbrev lt (a b : Int × Int) : Prop := a.1 * b.2 < b.1 * a.2
@[irreducible] def total (xs : List (Int × Int)) : Int × Int := xs.foldl add (0, 1)
theorem total_eq (xs : List (Int × Int)) : total xs = xs.foldl add (0, 1) := by unfold total; rfl
theorem add_B {n k : Nat} {a b : Int × Int} (ha : FrB n a) (hb : FrB k b) : FrB (n + k + 1) (add a b) := by
  refine low_B (((ha.num.mul hb.den).add (hb.num.mul ha.den)).mono (by omega)) ((ha.den.mul hb.den).mono (by omega)) ?_
  have := Int.mul_pos ha.pos hb.pos
  omega
theorem less_B {n k : Nat} {a b : Int × Int} (ha : FrB n a) (hb : FrB k b) : FrB (n + k + 1) (less a b) := by
  refine low_B (((ha.num.mul hb.den).sub (hb.num.mul ha.den)).mono (by omega)) ((ha.den.mul hb.den).mono (by omega)) ?_
  have := Int.mul_pos ha.pos hb.pos
  omega
theorem times_B {n k : Nat} {a b : Int × Int} (ha : FrB n a) (hb : FrB k b) : FrB (n + k) (times a b) := by
  refine low_B (ha.num.mul hb.num) (ha.den.mul hb.den) ?_
  have := Int.mul_pos ha.pos hb.pos
  omega
theorem over_B {n k : Nat} {a b : Int × Int} (ha : FrB n a) (hb : FrB k b) (h : b.1 ≠ 0) : FrB (n + k) (over a b) := by
  refine low_B (ha.num.mul hb.den) (ha.den.mul hb.num) ?_
  have := ha.pos
  exact Int.mul_ne_zero (by omega) h
/-- a divisor that the model takes -/
def QOk (q : Int) : Prop := (0 < q ∧ q.natAbs.log2 < 9000) ∨ (q ≠ 0 ∧ q.natAbs < 2 ^ 30)
theorem QOk.ne {q : Int} (h : QOk q) : q ≠ 0 := by rcases h with h | h; omega; exact h.1
def AddOk (a b : Int × Int) : Prop := CMulW a.1 b.2 ∧ CMulW b.1 a.2 ∧ CMulW a.2 b.2 ∧ QOk (a.2 * b.2)
def MulFOk (a b : Int × Int) : Prop := CMulW a.1 b.1 ∧ CMulW a.2 b.2 ∧ QOk (a.2 * b.2)
def OverOk (a b : Int × Int) : Prop := CMulW a.1 b.2 ∧ CMulW a.2 b.1 ∧ QOk (a.2 * b.1)
/-- a sum may be built one by one -/
def TotOk : List (Int × Int) → Int × Int → Prop
  | [], _ => True
  | x :: xs, a => AddOk a x ∧ TotOk xs (add a x)
theorem QOk.of_pos {n : Nat} {q : Int} (h : 0 < q) (hb : Bd n q) (hn : n ≤ 8999) : QOk q := .inl ⟨h, hb.log hn⟩
theorem FrB.addOk {n k : Nat} {a b : Int × Int} (ha : FrB n a) (hb : FrB k b) (h : n + k ≤ 8999) : AddOk a b :=
  ⟨ha.num.mulOk hb.den (by omega), hb.num.mulOk ha.den (by omega), ha.den.mulOk hb.den (by omega), .of_pos (Int.mul_pos ha.pos hb.pos) (ha.den.mul hb.den) h⟩
theorem FrB.mulFOk {n k : Nat} {a b : Int × Int} (ha : FrB n a) (hb : FrB k b) (h : n + k ≤ 8999) : MulFOk a b :=
  ⟨ha.num.mulOk hb.num (by omega), ha.den.mulOk hb.den (by omega), .of_pos (Int.mul_pos ha.pos hb.pos) (ha.den.mul hb.den) h⟩
theorem FrB.ltOk {n k : Nat} {a b : Int × Int} (ha : FrB n a) (hb : FrB k b) (h : n + k ≤ 8999) : CMulW a.1 b.2 ∧ CMulW b.1 a.2 :=
  ⟨ha.num.mulOk hb.den (by omega), hb.num.mulOk ha.den (by omega)⟩
theorem gcd_cdiv {p q c : Int} (h : QOk q) (hc : c = if 0 < q then gcdZ p q else -gcdZ p q) (x : Int) : CDivA x c := by
  have h0 := h.ne
  have hg := gcdZ_pos (a := p) h0
  have hl := gcdZ_le (a := p) h0
  rcases h with ⟨h1, h2⟩ | ⟨h1, h2⟩
  · rw [if_pos h1] at hc
    refine .inl ⟨by omega, ?_⟩
    rw [hc]
    have h3 : q.natAbs < 2 ^ 9000 := (Nat.log2_lt (by omega)).mp h2
    exact (Nat.log2_lt (by omega)).mpr (Nat.lt_of_le_of_lt hl h3)
  · refine .inr ⟨?_, ?_⟩ <;> rw [hc] <;> split <;> omega
theorem draw_lit {n : Int} (h : 0 < n) (h2 : n < 2 ^ 60 := by decide) : DrawOk n := ⟨h, Nat.lt_of_lt_of_le (PySem.Flt.log2_lt_of (n := n.natAbs) (k := 60) (by decide) (by omega)) (by decide)⟩
/-- total, one by one -/
theorem tot_step {xs pre post : List (Int × Int)} {x : Int × Int} {a : Int × Int} (h : TotOk xs a) (e : xs = pre ++ x :: post) : AddOk (pre.foldl add a) x := by
  subst e
  induction pre generalizing a with
  | nil => exact h.1
  | cons y pre ih => exact ih h.2
theorem totOk_of {n : Nat} : ∀ {xs : List (Int × Int)} {k : Nat} {a : Int × Int}, (∀ x ∈ xs, FrB n x) → FrB k a → k + (n + 1) * xs.length ≤ 8999 → TotOk xs a
  | [], _, _, _, _, _ => trivial
  | x :: xs, k, a, h, ha, hk => by
    have hx := h x List.mem_cons_self
    rw [List.length_cons, Nat.mul_succ] at hk
    refine ⟨ha.addOk hx (by omega), totOk_of (k := k + n + 1) (fun y hy => h y (List.mem_cons_of_mem _ hy)) (add_B ha hx) ?_⟩
    omega
theorem gcd_loop {a b : Int} (ha : 0 ≤ a) (hb : 0 < b) : gcdZ b (a % b) = gcdZ a b := by
  unfold gcdZ
  congr 1
  rw [Int.natAbs_emod_of_nonneg ha, Nat.gcd_comm b.natAbs, ← Nat.gcd_rec, Nat.gcd_comm]
theorem gcdZ_abs (a b : Int) : gcdZ (if a < 0 then -a else a) (if b < 0 then -b else b) = gcdZ a b := by
  unfold gcdZ
  have h : ∀ x : Int, (if x < 0 then -x else x).natAbs = x.natAbs := fun x => by split <;> omega
  rw [h, h]
theorem gcdZ_zero {a : Int} (h : 0 ≤ a) : gcdZ a 0 = a := by
  unfold gcdZ
  rw [Int.natAbs_zero, Nat.gcd_zero_right]
  omega
theorem low_ediv {p q v : Int} (h : q ≠ 0) (hv : v = if gcdZ p q > 1 then gcdZ p q else 1) : (if 0 < q then (p / v, q / v) else (-p / v, -q / v)) = low p q := by
  have hg := gcdZ_pos (a := p) h
  have e : v = gcdZ p q := by
    rw [hv]; split <;> omega
  rw [e]; rfl
theorem low_w {p q v : Int} (h : QOk q) (hv : v = if gcdZ p q > 1 then gcdZ p q else 1) (x : Int) : CDivW x v := by
  have h0 := h.ne
  have hg := gcdZ_pos (a := p) h0
  have hl := gcdZ_le (a := p) h0
  have e : v = gcdZ p q := by
    rw [hv]; split <;> omega
  rw [e]
  refine ⟨hg, ?_⟩
  rcases h with ⟨h1, h2⟩ | ⟨h1, h2⟩
  · have h3 : q.natAbs < 2 ^ 9000 := (Nat.log2_lt (by omega)).mp h2
    exact (Nat.log2_lt (by omega)).mpr (Nat.lt_of_le_of_lt hl h3)
  · have h3 : (gcdZ p q).natAbs < 2 ^ 30 := Nat.lt_of_le_of_lt hl h2
    exact Nat.lt_of_lt_of_le (PySem.Flt.log2_lt_of (k := 30) (by decide) h3) (by decide)
end Fr

set_option maxRecDepth 100000
namespace Lh
open PySem PySem.Spec PyProof.Rows L2 TW
/-! more of lists -/
theorem nc (n : Nat) : (NatCast.natCast n : Int) = (n : Int) := rfl
theorem mxI_le : ∀ (x : Int) (xs : List Int), ∀ y ∈ x :: xs, y ≤ mxI (x :: xs) := by
  intro x xs
  show ∀ y ∈ x :: xs, y ≤ xs.foldl (fun a y => if decide (a < y) = true then y else a) x
  induction xs generalizing x with
  | nil => intro y hy; simp at hy; subst hy; exact Int.le_refl _
  | cons z zs ih =>
    intro y hy
    rw [List.foldl_cons]
    simp only [List.mem_cons] at hy
    by_cases h : x < z
    · simp only [h, decide_true, if_true]
      rcases hy with rfl | hy
      · exact Int.le_trans (Int.le_of_lt h) (ih z z (List.mem_cons_self ..))
      · exact ih z y (by simpa using hy)
    · simp only [h, decide_false, Bool.false_eq_true, if_false]
      rcases hy with rfl | rfl | hy
      · exact ih _ _ (List.mem_cons_self ..)
      · exact Int.le_trans (Int.not_lt.mp h) (ih _ _ (List.mem_cons_self ..))
      · exact ih x y (List.mem_cons_of_mem _ hy)
theorem mxI_mem0 : ∀ (x : Int) (xs : List Int), mxI (x :: xs) ∈ x :: xs := by
  intro x xs
  show xs.foldl (fun a y => if decide (a < y) = true then y else a) x ∈ x :: xs
  induction xs generalizing x with
  | nil => simp
  | cons z zs ih =>
    rw [List.foldl_cons]
    by_cases h : x < z
    · simp only [h, decide_true, if_true]; exact List.mem_cons_of_mem _ (ih z)
    · simp only [h, decide_false, Bool.false_eq_true, if_false]
      rcases List.mem_cons.mp (ih x) with e | e
      · rw [e]; exact List.mem_cons_self ..
      · exact List.mem_cons_of_mem _ (List.mem_cons_of_mem _ e)
theorem mnI_le : ∀ (x : Int) (xs : List Int), ∀ y ∈ x :: xs, mnI (x :: xs) ≤ y := by
  intro x xs
  show ∀ y ∈ x :: xs, xs.foldl (fun a y => if decide (y < a) = true then y else a) x ≤ y
  induction xs generalizing x with
  | nil => intro y hy; simp at hy; subst hy; exact Int.le_refl _
  | cons z zs ih =>
    intro y hy
    rw [List.foldl_cons]
    simp only [List.mem_cons] at hy
    by_cases h : z < x
    · simp only [h, decide_true, if_true]
      rcases hy with rfl | hy
      · exact Int.le_trans (ih z z (List.mem_cons_self ..)) (Int.le_of_lt h)
      · exact ih z y (by simpa using hy)
    · simp only [h, decide_false, Bool.false_eq_true, if_false]
      rcases hy with rfl | rfl | hy
      · exact ih _ _ (List.mem_cons_self ..)
      · exact Int.le_trans (ih _ _ (List.mem_cons_self ..)) (Int.not_lt.mp h)
      · exact ih x y (List.mem_cons_of_mem _ hy)
theorem mnI_mem0 : ∀ (x : Int) (xs : List Int), mnI (x :: xs) ∈ x :: xs := by
  intro x xs
  show xs.foldl (fun a y => if decide (y < a) = true then y else a) x ∈ x :: xs
  induction xs generalizing x with
  | nil => simp
  | cons z zs ih =>
    rw [List.foldl_cons]
    by_cases h : z < x
    · simp only [h, decide_true, if_true]; exact List.mem_cons_of_mem _ (ih z)
    · simp only [h, decide_false, Bool.false_eq_true, if_false]
      rcases List.mem_cons.mp (ih x) with e | e
      · rw [e]; exact List.mem_cons_self ..
      · exact List.mem_cons_of_mem _ (List.mem_cons_of_mem _ e)
theorem mxI_mem {xs : List Int} (h : xs ≠ []) : mxI xs ∈ xs := by
  cases xs with
  | nil => exact absurd rfl h
  | cons x xs => exact mxI_mem0 x xs
theorem mnI_mem {xs : List Int} (h : xs ≠ []) : mnI xs ∈ xs := by
  cases xs with
  | nil => exact absurd rfl h
  | cons x xs => exact mnI_mem0 x xs
theorem le_mxI {xs : List Int} {y : Int} (h : y ∈ xs) : y ≤ mxI xs := by
  cases xs with
  | nil => cases h
  | cons x xs => exact mxI_le x xs y h
theorem mnI_le' {xs : List Int} {y : Int} (h : y ∈ xs) : mnI xs ≤ y := by
  cases xs with
  | nil => cases h
  | cons x xs => exact mnI_le x xs y h
theorem mnB_mem {α : Type} [Inhabited α] (lt : α → α → Bool) {xs : List α} (h : xs ≠ []) : mnB lt xs ∈ xs := by
  cases xs with
  | nil => exact absurd rfl h
  | cons x xs =>
    show xs.foldl (fun a y => if lt y a = true then y else a) x ∈ x :: xs
    clear h
    induction xs generalizing x with
    | nil => simp
    | cons z zs ih =>
      rw [List.foldl_cons]
      by_cases h : lt z x = true
      · rw [if_pos h]; exact List.mem_cons_of_mem _ (ih z)
      · rw [if_neg h]
        rcases List.mem_cons.mp (ih x) with e | e
        · rw [e]; exact List.mem_cons_self ..
        · exact List.mem_cons_of_mem _ (List.mem_cons_of_mem _ e)
theorem mxB_mem {α : Type} [Inhabited α] (lt : α → α → Bool) {xs : List α} (h : xs ≠ []) : mxB lt xs ∈ xs := by
  cases xs with
  | nil => exact absurd rfl h
  | cons x xs =>
    show xs.foldl (fun a y => if lt a y = true then y else a) x ∈ x :: xs
    clear h
    induction xs generalizing x with
    | nil => simp
    | cons z zs ih =>
      rw [List.foldl_cons]
      by_cases h : lt x z = true
      · rw [if_pos h]; exact List.mem_cons_of_mem _ (ih z)
      · rw [if_neg h]
        rcases List.mem_cons.mp (ih x) with e | e
        · rw [e]; exact List.mem_cons_self ..
        · exact List.mem_cons_of_mem _ (List.mem_cons_of_mem _ e)
/-- an order as min and max read it -/
structure LtOk {α : Type} (lt : α → α → Bool) : Prop where
  asym : ∀ a b, lt a b = true → lt b a = false
  tr : ∀ a b c, lt b a = false → lt c b = false → lt c a = false
theorem LtOk.irr {α : Type} {lt : α → α → Bool} (o : LtOk lt) (a : α) : lt a a = false := by
  cases h : lt a a with
  | false => rfl
  | true => have := o.asym a a h; rw [h] at this; exact this
theorem mnB_le {α : Type} [Inhabited α] {lt : α → α → Bool} (o : LtOk lt) {xs : List α} {y : α} (hy : y ∈ xs) : lt y (mnB lt xs) = false := by
  cases xs with
  | nil => cases hy
  | cons x xs =>
    show lt y (xs.foldl (fun a y => if lt y a = true then y else a) x) = false
    induction xs generalizing x y with
    | nil => simp at hy; subst hy; exact o.irr _
    | cons z zs ih =>
      rw [List.foldl_cons]
      simp only [List.mem_cons] at hy
      by_cases h : lt z x = true
      · rw [if_pos h]
        rcases hy with rfl | hy
        · exact o.tr _ _ _ (ih z (List.mem_cons_self ..)) (o.asym _ _ h)
        · exact ih z (by simpa using hy)
      · rw [if_neg h]
        rcases hy with rfl | rfl | hy
        · exact ih _ (List.mem_cons_self ..)
        · exact o.tr _ _ _ (ih _ (List.mem_cons_self ..)) (by simpa using h)
        · exact ih x (List.mem_cons_of_mem _ hy)
theorem mxB_le {α : Type} [Inhabited α] {lt : α → α → Bool} (o : LtOk lt) {xs : List α} {y : α} (hy : y ∈ xs) : lt (mxB lt xs) y = false := by
  cases xs with
  | nil => cases hy
  | cons x xs =>
    show lt (xs.foldl (fun a y => if lt a y = true then y else a) x) y = false
    induction xs generalizing x y with
    | nil => simp at hy; subst hy; exact o.irr _
    | cons z zs ih =>
      rw [List.foldl_cons]
      simp only [List.mem_cons] at hy
      by_cases h : lt x z = true
      · rw [if_pos h]
        rcases hy with rfl | hy
        · exact o.tr _ _ _ (o.asym _ _ h) (ih z (List.mem_cons_self ..))
        · exact ih z (by simpa using hy)
      · rw [if_neg h]
        rcases hy with rfl | rfl | hy
        · exact ih _ (List.mem_cons_self ..)
        · exact o.tr _ _ _ (by simpa using h) (ih _ (List.mem_cons_self ..))
        · exact ih x (List.mem_cons_of_mem _ hy)
/-- pairs of whole numbers -/
def pLt : Int × Int → Int × Int → Bool := fun p q => if p.1 = q.1 then (if p.2 = q.2 then false else decide (p.2 < q.2)) else decide (p.1 < q.1)
theorem pLt_iff {p q : Int × Int} : pLt p q = true ↔ (p.1 < q.1 ∨ (p.1 = q.1 ∧ p.2 < q.2)) := by
  unfold pLt
  by_cases h : p.1 = q.1
  · rw [if_pos h]
    by_cases h2 : p.2 = q.2
    · rw [if_pos h2]; simp; omega
    · rw [if_neg h2, decide_eq_true_eq]; omega
  · rw [if_neg h, decide_eq_true_eq]; omega
theorem pLt_no {p q : Int × Int} : pLt p q = false ↔ (q.1 < p.1 ∨ (p.1 = q.1 ∧ q.2 ≤ p.2)) := by
  rw [← Bool.not_eq_true, pLt_iff]; omega
theorem pLt_ok : LtOk pLt := ⟨fun a b h => by rw [pLt_iff] at h; rw [pLt_no]; omega, fun a b c h1 h2 => by rw [pLt_no] at h1 h2 ⊢; omega⟩
theorem gI_map {α β : Type} [Inhabited α] [Inhabited β] (f : α → β) {xs : List α} {i : Int} (h : InB xs.length i) : gI (xs.map f) i = f (gI xs i) := by
  have h1 := gI_posI h
  have h2 := gI_posI (xs := xs.map f) (i := i) (by rw [List.length_map]; exact h)
  rw [List.length_map, List.getElem?_map, h1] at h2
  exact (Option.some.inj h2).symm
theorem gI_rng {n i : Int} (h0 : 0 ≤ i) (h1 : i < n) : gI (rng 0 n) i = i := by
  rw [gI_nn _ h0]
  unfold rng
  rw [List.getD_eq_getElem?_getD, List.getElem?_map, List.getElem?_range (by omega)]
  simp; omega
theorem gI_mapR {β : Type} [Inhabited β] (f : Int → β) {n i : Int} (h0 : 0 ≤ i) (h1 : i < n) : gI ((rng 0 n).map f) i = f i := by
  rw [gI_map f ⟨by rw [rng_len]; omega, by rw [rng_len]; omega⟩, gI_rng h0 h1]
theorem map_gI {α : Type} [Inhabited α] (xs : List α) : (rng 0 xs.length).map (gI xs) = xs := by
  apply List.ext_getElem
  · rw [List.length_map, rng_len]; omega
  · intro i h1 h2
    rw [List.getElem_map]
    have : (rng 0 (xs.length : Int))[i]'(by simpa using h1) = (i : Int) := by unfold rng; simp
    rw [this, gI_nat, List.getD_eq_getElem?_getD, List.getElem?_eq_getElem h2]
    rfl
theorem mapW_of {α β : Type} {f : α → (Option β → Prop) → Prop} (I : α → Option β → Prop) : ∀ {xs : List α} {P : List β → Prop}, (∀ x ∈ xs, ∀ Q : Option β → Prop, (∀ y, I x y → Q y) → f x Q) → (∀ ys : List β, ys.length ≤ xs.length → (∀ y ∈ ys, ∃ x ∈ xs, I x (some y)) → P ys) → mapW f xs P
  | [], P, _, h => h [] (Nat.le_refl _) fun y hy => by cases hy
  | x :: xs, P, hf, h => hf x List.mem_cons_self _ fun y hy => mapW_of I (fun z hz => hf z (List.mem_cons_of_mem _ hz)) fun ys hl hys => by
    cases y with
    | none => exact h _ (Nat.le_succ_of_le hl) fun y hy => by obtain ⟨a, b, c⟩ := hys y hy; exact ⟨a, List.mem_cons_of_mem _ b, c⟩
    | some y' =>
      refine h _ (Nat.succ_le_succ hl) fun z hz => ?_
      rcases List.mem_cons.mp hz with rfl | hz
      · exact ⟨x, List.mem_cons_self .., hy⟩
      · obtain ⟨a, b, c⟩ := hys z hz; exact ⟨a, List.mem_cons_of_mem _ b, c⟩
theorem sum_nonneg : ∀ {xs : List Int}, (∀ x ∈ xs, 0 ≤ x) → 0 ≤ xs.sum
  | [], _ => by simp
  | x :: xs, h => by
    rw [List.sum_cons]
    have := sum_nonneg (xs := xs) fun y hy => h y (List.mem_cons_of_mem _ hy)
    have := h x (List.mem_cons_self ..)
    omega
theorem insI_perm {α : Type} (xs : List α) (k : Int) (x : α) : (insI xs k x).Perm (x :: xs) := by
  unfold insI
  rw [List.append_assoc, List.singleton_append]
  refine List.perm_middle.trans ?_
  rw [List.take_append_drop]
theorem filter_lt {α : Type} {p : α → Bool} : ∀ {xs : List α}, ((xs.filter p).length < xs.length ↔ ∃ x ∈ xs, p x = false)
  | [] => by simp
  | x :: xs => by
    have ih := filter_lt (p := p) (xs := xs)
    have hl := List.length_filter_le p xs
    by_cases h : p x = true
    · rw [List.filter_cons_of_pos h]
      simp only [List.length_cons, List.mem_cons]
      constructor
      · intro g
        obtain ⟨y, hy, e⟩ := ih.mp (by omega)
        exact ⟨y, .inr hy, e⟩
      · rintro ⟨y, rfl | hy, e⟩
        · rw [h] at e; cases e
        · have := ih.mpr ⟨y, hy, e⟩; omega
    · rw [List.filter_cons_of_neg h]
      simp only [List.length_cons, List.mem_cons]
      constructor
      · intro _; exact ⟨x, .inl rfl, by simpa using h⟩
      · intro _; omega
end Lh
namespace Th
open PySem PySem.Spec PyProof.Rows L2 TW Lh
/-- the things of a person -/
@[irreducible] def lot (deal : List Int) (p : Int) : List Int := (rng 0 deal.length).filter fun o => decide (gI deal o = p)
@[irreducible] def lots (deal : List Int) (n : Int) : List (List Int) := (rng 0 n).map (lot deal)
@[irreducible] def worth (row some : List Int) : Int := (some.map fun o => gI row o).sum
theorem enum_eq (deal : List Int) : enum deal = (rng 0 deal.length).map fun o => (o, gI deal o) := by
  unfold enum rng
  apply List.ext_getElem
  · simp
  · intro i h1 h2
    simp at h1
    simp [gI_nat, List.getD_eq_getElem?_getD, List.getElem?_eq_getElem h1]
theorem enum_filter (deal : List Int) (p : Int) : ((enum deal).filter fun q => decide (q.2 = p)).map (fun q => q.1) = lot deal p := by
  rw [enum_eq, List.filter_map, List.map_map]
  show List.map (fun o => o) _ = _
  rw [List.map_id']
  unfold lot
  rfl
theorem lot_mem {deal : List Int} {p o : Int} : o ∈ lot deal p ↔ (0 ≤ o ∧ o < deal.length) ∧ gI deal o = p := by
  unfold lot
  rw [List.mem_filter, mem_rng, decide_eq_true_eq]
theorem lot_len (deal : List Int) (p : Int) : (lot deal p).length ≤ deal.length := by
  have := List.length_filter_le (fun o => decide (gI deal o = p)) (rng 0 deal.length)
  rw [rng_len] at this
  unfold lot
  omega
theorem lots_len (deal : List Int) (n : Int) : (lots deal n).length = n.toNat := by unfold lots; rw [List.length_map, rng_len]; omega
theorem gI_lots {deal : List Int} {n i : Int} (h0 : 0 ≤ i) (h1 : i < n) : gI (lots deal n) i = lot deal i := by unfold lots; exact gI_mapR _ h0 h1
theorem lots_mem {deal : List Int} {n : Int} {l : List Int} (h : l ∈ lots deal n) : ∃ p, (0 ≤ p ∧ p < n) ∧ l = lot deal p := by
  unfold lots at h
  obtain ⟨p, hp, e⟩ := List.mem_map.mp h
  exact ⟨p, mem_rng.mp hp, e.symm⟩
@[irreducible] def tableOf (ws ls : List (List Int)) : List (List Int) := (rng 0 ws.length).map fun p => ls.map fun l => worth (gI ws p) l
@[irreducible] def pairsOf (n : Int) (f : Int → Int → Int) : List (Int × Int) := (rng 0 n).flatMap fun i => ((rng 0 n).filter fun j => decide (f i j > f i i)).map fun j => (i, j)
@[irreducible] def val (ws : List (List Int)) (deal : List Int) (i j : Int) : Int := worth (gI ws i) (lot deal j)
@[irreducible] def env (ws : List (List Int)) (deal : List Int) : List (Int × Int) := pairsOf ws.length (val ws deal)
theorem pairsOf_mem {n : Int} {f : Int → Int → Int} {q : Int × Int} : q ∈ pairsOf n f ↔ (0 ≤ q.1 ∧ q.1 < n) ∧ (0 ≤ q.2 ∧ q.2 < n) ∧ f q.1 q.2 > f q.1 q.1 := by
  obtain ⟨i, j⟩ := q
  unfold pairsOf
  simp only [List.mem_flatMap, List.mem_map, List.mem_filter, mem_rng, decide_eq_true_eq, Prod.mk.injEq]
  constructor
  · rintro ⟨a, ha, b, ⟨hb, hg⟩, rfl, rfl⟩; exact ⟨ha, hb, hg⟩
  · rintro ⟨ha, hb, hg⟩; exact ⟨i, ha, j, ⟨hb, hg⟩, rfl, rfl⟩
theorem pairsOf_congr {n : Int} {f g : Int → Int → Int} (h : ∀ i j, 0 ≤ i → i < n → 0 ≤ j → j < n → f i j = g i j) : pairsOf n f = pairsOf n g := by
  have e : ∀ xs : List Int, (∀ x ∈ xs, 0 ≤ x ∧ x < n) → (xs.flatMap fun i => ((rng 0 n).filter fun j => decide (f i j > f i i)).map fun j => (i, j)) = xs.flatMap fun i => ((rng 0 n).filter fun j => decide (g i j > g i i)).map fun j => (i, j) := by
    intro xs hx
    induction xs with
    | nil => rfl
    | cons x xs ih =>
      rw [List.flatMap_cons, List.flatMap_cons, ih fun y hy => hx y (List.mem_cons_of_mem _ hy)]
      have h1 := hx x (List.mem_cons_self ..)
      congr 2
      apply List.filter_congr
      intro j hj
      have h2 := mem_rng.mp hj
      rw [h x j h1.1 h1.2 h2.1 h2.2, h x x h1.1 h1.2 h1.1 h1.2]
  unfold pairsOf
  exact e _ fun x hx => mem_rng.mp hx
theorem pairsOf_len (n : Int) (f : Int → Int → Int) : (pairsOf n f).length ≤ n.toNat * n.toNat := by
  have e : ∀ xs : List Int, (xs.flatMap fun i => ((rng 0 n).filter fun j => decide (f i j > f i i)).map fun j => (i, j)).length ≤ xs.length * n.toNat := by
    intro xs
    induction xs with
    | nil => simp
    | cons x xs ih =>
      rw [List.flatMap_cons, List.length_append, List.length_map, List.length_cons, Nat.succ_mul]
      have := List.length_filter_le (fun j => decide (f x j > f x x)) (rng 0 n)
      rw [rng_len] at this
      have e2 : (n - 0).toNat = n.toNat := by omega
      rw [e2] at this
      omega
  have := e (rng 0 n)
  rw [rng_len, show (n - 0).toNat = n.toNat by omega] at this
  unfold pairsOf
  exact this
theorem gI_table {ws ls : List (List Int)} {i j : Int} (hi : 0 ≤ i ∧ i < ws.length) (hj : 0 ≤ j ∧ j < ls.length) : gI (gI (tableOf ws ls) i) j = worth (gI ws i) (gI ls j) := by
  unfold tableOf
  rw [gI_mapR _ hi.1 hi.2, gI_map _ ⟨by omega, by omega⟩]
theorem env_eq (ws : List (List Int)) (deal : List Int) : (pairsOf (tableOf ws (lots deal ws.length)).length fun i j => gI (gI (tableOf ws (lots deal ws.length)) i) j) = env ws deal := by
  have e : ((tableOf ws (lots deal ws.length)).length : Int) = ws.length := by unfold tableOf; rw [List.length_map, rng_len]; omega
  rw [e]
  unfold env
  refine pairsOf_congr fun i j h0 h1 h2 h3 => ?_
  rw [gI_table ⟨h0, h1⟩ ⟨h2, by rw [lots_len]; omega⟩, gI_lots h2 h3]
  unfold val
  rfl
def erow (ws : List (List Int)) (deal : List Int) (i : Int) : List (Int × Int) := ((rng 0 ws.length).filter fun j => decide (val ws deal i i < val ws deal i j)).map fun j => (i, j)
theorem env_rows (ws : List (List Int)) (deal : List Int) : env ws deal = (rng 0 ws.length).flatMap (erow ws deal) := by unfold env pairsOf; rfl
theorem erow_len (ws : List (List Int)) (deal : List Int) (i : Int) : (erow ws deal i).length ≤ ws.length := by
  unfold erow
  rw [List.length_map]
  have := List.length_filter_le (fun j => decide (val ws deal i i < val ws deal i j)) (rng 0 ws.length)
  rw [rng_len] at this
  omega
theorem rows_len (ws : List (List Int)) (deal : List Int) : ∀ xs : List Int, (xs.flatMap (erow ws deal)).length ≤ xs.length * ws.length
  | [] => by simp
  | x :: xs => by
    rw [List.flatMap_cons, List.length_append, List.length_cons, Nat.succ_mul]
    have := erow_len ws deal x
    have := rows_len ws deal xs
    omega
theorem env_len (ws : List (List Int)) (deal : List Int) : (env ws deal).length ≤ ws.length * ws.length := by
  have := pairsOf_len ws.length (val ws deal)
  rw [show ((ws.length : Int)).toNat = ws.length by omega] at this
  unfold env
  exact this
theorem erow_eq {ws : List (List Int)} {deal : List Int} {x : Int} (h : 0 ≤ x ∧ x < ws.length) : (((rng 0 (ws.length:Int)).filter fun j => decide (worth (gI ws x) (gI (lots deal ws.length) x) < worth (gI ws x) (gI (lots deal ws.length) j))).map fun j => (x, j)) = erow ws deal x := by
  unfold erow
  congr 1
  refine List.filter_congr fun j hj => ?_
  have hj := mem_rng.mp hj
  rw [gI_lots h.1 h.2, gI_lots hj.1 hj.2]
  unfold val
  rfl
theorem env_mem {ws : List (List Int)} {deal : List Int} {q : Int × Int} : q ∈ env ws deal ↔ (0 ≤ q.1 ∧ q.1 < ws.length) ∧ (0 ≤ q.2 ∧ q.2 < ws.length) ∧ val ws deal q.1 q.2 > val ws deal q.1 q.1 := by unfold env; exact pairsOf_mem
theorem lots_eq (deal : List Int) (n : Int) : lots deal n = (rng 0 n).map fun p => (rng 0 deal.length).filter fun o => decide (gI deal o = p) := by unfold lots; exact List.map_congr_left fun p _ => by unfold lot; rfl
theorem lots_eq2 (deal : List Int) (n : Int) : lots deal n = (rng 0 n).map fun p => ((enum deal).filter fun q => decide (q.2 = p)).map Prod.fst := by
  unfold lots
  exact List.map_congr_left fun p _ => (enum_filter deal p).symm
theorem worth_eq (row some : List Int) : worth row some = (some.map fun o => gI row o).sum := by unfold worth; rfl
theorem table_eq (ws ls : List (List Int)) : tableOf ws ls = (rng 0 ws.length).map fun p => ls.map fun l => worth (gI ws p) l := by unfold tableOf; rfl
theorem pairs_eq (n : Int) (f : Int → Int → Int) : pairsOf n f = res2 (fun _ => true) (fun _ => rng 0 n) (fun i j => decide (f i i < f i j)) (fun i j => (i, j)) (rng 0 n) := by
  unfold pairsOf res2
  rw [List.filter_eq_self.mpr (fun _ _ => rfl)]
theorem table_len (ws ls : List (List Int)) : (tableOf ws ls).length = ws.length := by unfold tableOf; rw [List.length_map, rng_len]; omega
theorem table_row {ws ls : List (List Int)} {r : List Int} (h : r ∈ tableOf ws ls) : r.length = ls.length := by
  unfold tableOf at h
  obtain ⟨p, _, e⟩ := List.mem_map.mp h
  rw [← e, List.length_map]
structure Ok (ws : List (List Int)) (deal : List Int) : Prop where
  n : ws.length ≤ 1000
  m : deal.length ≤ 1000
  r : ∀ r ∈ ws, r.length = deal.length
  p : ∀ r ∈ ws, ∀ x ∈ r, 0 ≤ x
theorem Ok.row {ws : List (List Int)} {deal : List Int} (h : Ok ws deal) {i : Int} (h0 : 0 ≤ i) (h1 : i < ws.length) : gI ws i ∈ ws := gI_mem ⟨by omega, by omega⟩
theorem Ok.len {ws : List (List Int)} {deal : List Int} (h : Ok ws deal) {i : Int} (h0 : 0 ≤ i) (h1 : i < ws.length) : (gI ws i).length = deal.length := h.r _ (h.row h0 h1)
theorem Ok.inb {ws : List (List Int)} {deal : List Int} (h : Ok ws deal) {r : List Int} (hr : r ∈ ws) {o p : Int} (ho : o ∈ lot deal p) : InB r.length o := by
  have := lot_mem.mp ho
  have := h.r r hr
  exact ⟨by omega, by omega⟩
theorem Ok.pos {ws : List (List Int)} {deal : List Int} (h : Ok ws deal) {i o p : Int} (h0 : 0 ≤ i) (h1 : i < ws.length) (ho : o ∈ lot deal p) : 0 ≤ gI (gI ws i) o :=
  h.p _ (h.row h0 h1) _ (gI_mem (h.inb (h.row h0 h1) ho))
theorem Ok.valpos {ws : List (List Int)} {deal : List Int} (h : Ok ws deal) {i : Int} (j : Int) (h0 : 0 ≤ i) (h1 : i < ws.length) : 0 ≤ val ws deal i j := by
  unfold val worth
  refine sum_nonneg fun x hx => ?_
  obtain ⟨o, ho, rfl⟩ := List.mem_map.mp hx
  exact h.pos h0 h1 ho
theorem Ok.lne {ws : List (List Int)} {deal : List Int} (h : Ok ws deal) {q : Int × Int} (hq : q ∈ env ws deal) : lot deal q.2 ≠ [] := by
  obtain ⟨h1, h2, h3⟩ := env_mem.mp hq
  intro e
  have h4 := h.valpos q.1 h1.1 h1.2
  have h5 : val ws deal q.1 q.2 = 0 := by unfold val worth; rw [e]; rfl
  omega
/-- what one envied loses with the thing -/
@[irreducible] def but1 (ws : List (List Int)) (deal : List Int) (q : Int × Int) : Prop := val ws deal q.1 q.2 - mxI ((lot deal q.2).map fun o => gI (gI ws q.1) o) ≤ val ws deal q.1 q.1
@[irreducible] def butA (ws : List (List Int)) (deal : List Int) (q : Int × Int) : Prop := val ws deal q.1 q.2 - mnI ((lot deal q.2).map fun o => gI (gI ws q.1) o) ≤ val ws deal q.1 q.1
instance (ws : List (List Int)) (deal : List Int) (q : Int × Int) : Decidable (but1 ws deal q) := by unfold but1; infer_instance
instance (ws : List (List Int)) (deal : List Int) (q : Int × Int) : Decidable (butA ws deal q) := by unfold butA; infer_instance
@[irreducible] def free1 (ws : List (List Int)) (deal : List Int) : Bool := decide (∀ q ∈ env ws deal, but1 ws deal q)
@[irreducible] def freeA (ws : List (List Int)) (deal : List Int) : Bool := decide (∀ q ∈ env ws deal, butA ws deal q)
@[irreducible] def fits (ws : List (List Int)) (deal : List Int) (q : Int × Int) : List Int := (lot deal q.2).filter fun o => decide (val ws deal q.1 q.2 - gI (gI ws q.1) o ≤ val ws deal q.1 q.1)
theorem fits_nil {ws : List (List Int)} {deal : List Int} {q : Int × Int} (hne : lot deal q.2 ≠ []) : fits ws deal q = [] ↔ ¬ but1 ws deal q := by
  unfold fits but1
  rw [List.filter_eq_nil_iff]
  constructor
  · intro h g
    obtain ⟨o, ho, e⟩ := List.mem_map.mp (mxI_mem (xs := (lot deal q.2).map fun o => gI (gI ws q.1) o) (by simpa using hne))
    have := h o ho
    rw [decide_eq_true_eq] at this
    rw [← e] at g
    exact this g
  · intro h o ho g
    rw [decide_eq_true_eq] at g
    have := le_mxI (List.mem_map.mpr ⟨o, ho, rfl⟩ : (fun o => gI (gI ws q.1) o) o ∈ (lot deal q.2).map fun o => gI (gI ws q.1) o)
    dsimp only at this
    omega
theorem fits_lt {ws : List (List Int)} {deal : List Int} {q : Int × Int} (hne : lot deal q.2 ≠ []) : (fits ws deal q).length < (lot deal q.2).length ↔ ¬ butA ws deal q := by
  unfold fits butA
  rw [filter_lt]
  constructor
  · rintro ⟨o, ho, h⟩ g
    rw [decide_eq_false_iff_not] at h
    have := mnI_le' (List.mem_map.mpr ⟨o, ho, rfl⟩ : (fun o => gI (gI ws q.1) o) o ∈ (lot deal q.2).map fun o => gI (gI ws q.1) o)
    dsimp only at this
    omega
  · intro h
    obtain ⟨o, ho, e⟩ := List.mem_map.mp (mnI_mem (xs := (lot deal q.2).map fun o => gI (gI ws q.1) o) (by simpa using hne))
    refine ⟨o, ho, ?_⟩
    rw [decide_eq_false_iff_not]
    rw [← e] at h
    exact h
theorem but1_of_A {ws : List (List Int)} {deal : List Int} {q : Int × Int} (hne : lot deal q.2 ≠ []) (h : butA ws deal q) : but1 ws deal q := by
  unfold but1; unfold butA at h
  have h1 := mnI_le' (mxI_mem (xs := (lot deal q.2).map fun o => gI (gI ws q.1) o) (by simpa using hne))
  omega
def butS (a : Bool) (ws : List (List Int)) (deal : List Int) (q : Int × Int) : Prop := if a = true then butA ws deal q else but1 ws deal q
instance (a : Bool) (ws : List (List Int)) (deal : List Int) (q : Int × Int) : Decidable (butS a ws deal q) := by unfold butS; infer_instance
theorem sel_eq (a : Bool) (ws : List (List Int)) (deal : List Int) : (if a = true then freeA ws deal else free1 ws deal) = decide (∀ q ∈ env ws deal, butS a ws deal q) := by
  cases a
  · rw [if_neg (by simp)]; unfold free1 butS; simp
  · rw [if_pos rfl]; unfold freeA butS; simp
/-- the check of the law -/
theorem but_chk {ws : List (List Int)} {deal : List Int} (a : Bool) {q : Int × Int} (hne : lot deal q.2 ≠ []) : (decide (fits ws deal q = []) || (a && decide (((fits ws deal q).length : Int) < ((lot deal q.2).length : Int)))) = !decide (butS a ws deal q) := by
  rw [Bool.eq_iff_iff]
  unfold butS
  simp only [Bool.or_eq_true, Bool.and_eq_true, decide_eq_true_eq, fits_nil hne, Int.ofNat_lt, fits_lt hne, Bool.not_eq_true', decide_eq_false_iff_not]
  cases a
  · simp
  · simp only [true_and, if_true, decide_eq_false_iff_not]
    constructor
    · rintro (h | h)
      · exact fun g => h (but1_of_A hne g)
      · exact h
    · exact .inr
theorem fits_eq (ws : List (List Int)) (deal : List Int) (q : Int × Int) : fits ws deal q = (lot deal q.2).filter fun o => decide (worth (gI ws q.1) (lot deal q.2) - gI (gI ws q.1) o ≤ worth (gI ws q.1) (lot deal q.1)) := by unfold fits val; rfl
theorem but1_iff {ws : List (List Int)} {deal : List Int} {q : Int × Int} : but1 ws deal q ↔ worth (gI ws q.1) (lot deal q.2) - mxI ((lot deal q.2).map fun o => gI (gI ws q.1) o) ≤ worth (gI ws q.1) (lot deal q.1) := by unfold but1 val; exact Iff.rfl
theorem butA_iff {ws : List (List Int)} {deal : List Int} {q : Int × Int} : butA ws deal q ↔ worth (gI ws q.1) (lot deal q.2) - mnI ((lot deal q.2).map fun o => gI (gI ws q.1) o) ≤ worth (gI ws q.1) (lot deal q.1) := by unfold butA val; exact Iff.rfl
theorem free1_eq (ws : List (List Int)) (deal : List Int) : free1 ws deal = decide (∀ q ∈ env ws deal, but1 ws deal q) := by unfold free1; rfl
theorem freeA_eq (ws : List (List Int)) (deal : List Int) : freeA ws deal = decide (∀ q ∈ env ws deal, butA ws deal q) := by unfold freeA; rfl
theorem freeA_free1 {ws : List (List Int)} {deal : List Int} (ok : Ok ws deal) (h : freeA ws deal = true) : free1 ws deal = true := by
  unfold freeA at h; unfold free1
  rw [decide_eq_true_eq] at h ⊢
  exact fun q hq => but1_of_A (ok.lne hq) (h q hq)
theorem freeA_nil {ws : List (List Int)} {deal : List Int} (h : env ws deal = []) : freeA ws deal = true := by
  unfold freeA; rw [h]; simp
theorem chk {ws : List (List Int)} {deal : List Int} (ok : Ok ws deal) : (decide (env ws deal = []) && !freeA ws deal || freeA ws deal && !free1 ws deal) = false := by
  by_cases h : freeA ws deal = true
  · rw [h, freeA_free1 ok h]; simp
  · have h2 : env ws deal ≠ [] := fun e => h (freeA_nil e)
    simp [h, h2]
/-! each in turn takes the best thing left -/
@[irreducible] def bst (row left : List Int) : Int := gI (left.filter fun o => decide (gI row o = mxI (left.map fun o => gI row o))) 0
@[irreducible] def free (told : List (Option Int)) : List Int := (rng 0 told.length).filter fun o => decide (gI told o = none)
@[irreducible] def stp (ws : List (List Int)) (order : List Int) (told : List (Option Int)) (k : Int) : List (Option Int) := setI told (bst (gI ws (gI order (k % order.length))) (free told)) (some (gI order (k % order.length)))
@[irreducible] def run (ws : List (List Int)) (order : List Int) (m : Int) (ks : List Int) : List (Option Int) := ks.foldl (stp ws order) ((rng 0 m).map fun _ => none)
@[irreducible] def take (ws : List (List Int)) (order : List Int) (m : Int) : List Int := (run ws order m (rng 0 m)).map fun x => x.getD default
theorem run_snoc (ws : List (List Int)) (order : List Int) (m : Int) (ks : List Int) (k : Int) : run ws order m (ks ++ [k]) = stp ws order (run ws order m ks) k := by unfold run; rw [List.foldl_append]; rfl
theorem run_nil (ws : List (List Int)) (order : List Int) (m : Int) : run ws order m [] = (rng 0 m).map fun _ => none := by unfold run; rfl
theorem run_len (ws : List (List Int)) (order : List Int) (m : Int) (ks : List Int) : (run ws order m ks).length = m.toNat := by
  induction ks using snoc_ind with
  | nil => unfold run; rw [List.foldl_nil, List.length_map, rng_len]; omega
  | snoc xs x ih => rw [run_snoc]; unfold stp; rw [setI_len]; exact ih
theorem bst_ne {row left : List Int} (h : left ≠ []) : 0 < (left.filter fun o => decide (gI row o = mxI (left.map fun o => gI row o))).length := by
  obtain ⟨o, ho, e⟩ := List.mem_map.mp (mxI_mem (xs := left.map fun o => gI row o) (by simpa using h))
  exact List.length_pos_of_mem (List.mem_filter.mpr ⟨ho, by rw [decide_eq_true_eq]; exact e⟩)
theorem bst_eq (row left : List Int) : bst row left = gI (left.filter fun o => decide (gI row o = mxI (left.map fun o => gI row o))) 0 := by unfold bst; rfl
theorem bst_mem {row left : List Int} (h : left ≠ []) : bst row left ∈ left ∧ gI row (bst row left) = mxI (left.map fun o => gI row o) := by
  have h1 := bst_ne (row := row) h
  have h2 : bst row left ∈ left.filter fun o => decide (gI row o = mxI (left.map fun o => gI row o)) := by rw [bst_eq]; exact gI_mem ⟨by omega, by omega⟩
  rw [List.mem_filter, decide_eq_true_eq] at h2
  exact h2
theorem free_mem {told : List (Option Int)} {o : Int} : o ∈ free told ↔ (0 ≤ o ∧ o < told.length) ∧ gI told o = none := by
  unfold free
  rw [List.mem_filter, mem_rng, decide_eq_true_eq]
theorem rng_sorted (a b : Int) : (rng a b).Pairwise (· < ·) := by
  unfold rng
  rw [List.pairwise_map]
  exact List.Pairwise.imp (fun h => by omega) List.pairwise_lt_range
theorem free_sorted (told : List (Option Int)) : (free told).Pairwise (· < ·) := by unfold free; exact List.Pairwise.filter _ (rng_sorted _ _)
theorem free_nodup (told : List (Option Int)) : (free told).Nodup := by unfold free; exact List.Pairwise.filter _ (rng_nodup _ _)
theorem free_set {told : List (Option Int)} {o i : Int} (h0 : 0 ≤ o) (h1 : o < told.length) : free (setI told o (some i)) = (free told).erase o := by
  rw [List.Nodup.erase_eq_filter (free_nodup told)]
  unfold free
  rw [setI_len, List.filter_filter]
  refine List.filter_congr fun x hx => ?_
  have hx := mem_rng.mp hx
  by_cases e : x = o
  · subst e; rw [gI_set_eq h0 h1]; simp
  · rw [gI_set_ne h0 hx.1 (fun z => e z.symm)]
    simp [e]
theorem free_len (told : List (Option Int)) : (free told).length ≤ told.length := by
  have := List.length_filter_le (fun o => decide (gI told o = none)) (rng 0 told.length)
  rw [rng_len] at this
  unfold free
  omega
theorem free_nil (ws : List (List Int)) (order : List Int) (m : Int) : free (run ws order m []) = rng 0 m := by
  unfold free
  rw [run_len, List.filter_eq_self.mpr]
  · by_cases hm : 0 ≤ m
    · rw [show ((m.toNat : Nat) : Int) = m by omega]
    · rw [rng_nil (by omega), rng_nil (by omega)]
  · intro x hx
    have hx := mem_rng.mp hx
    rw [decide_eq_true_eq, run_nil]
    exact gI_mapR _ hx.1 (by omega)
theorem free_run {ws : List (List Int)} {order : List Int} {m : Int} {ks : List Int} (h : ks.length ≤ m.toNat) : (free (run ws order m ks)).length + ks.length = m.toNat := by
  induction ks using snoc_ind with
  | nil =>
    have : free (run ws order m []) = rng 0 m := free_nil ws order m
    rw [this, rng_len]; simp
  | snoc xs x ih =>
    rw [List.length_append, List.length_singleton] at h
    have ih := ih (by omega)
    have hne : free (run ws order m xs) ≠ [] := fun e => by rw [e] at ih; simp at ih; omega
    rw [run_snoc]
    unfold stp
    have hb := (bst_mem (row := gI ws (gI order (x % order.length))) hne).1
    have hb2 := free_mem.mp hb
    rw [free_set hb2.1.1 hb2.1.2, List.length_erase_of_mem hb, List.length_append, List.length_singleton]
    have := List.length_pos_of_mem hb
    omega
theorem run_vals {ws : List (List Int)} {order : List Int} {m : Int} {ks : List Int} (ho : order ≠ []) : ∀ x ∈ run ws order m ks, ∀ v, x = some v → v ∈ order := by
  induction ks using snoc_ind with
  | nil =>
    intro x hx v hv
    rw [run_nil] at hx
    obtain ⟨_, _, e⟩ := List.mem_map.mp hx
    rw [hv] at e; cases e
  | snoc xs x ih =>
    rw [run_snoc]
    unfold stp setI
    intro y hy v hv
    rcases List.mem_or_eq_of_mem_set hy with h | h
    · exact ih y h v hv
    · rw [hv] at h
      cases h
      have hl : 0 < order.length := List.length_pos_iff.mpr ho
      have h1 := Int.emod_nonneg x (b := (order.length : Int)) (by omega)
      have h2 := Int.emod_lt_of_pos x (b := (order.length : Int)) (by omega)
      exact gI_mem ⟨by omega, h2⟩
theorem run_full {ws : List (List Int)} {order : List Int} {m : Int} : ∀ x ∈ run ws order m (rng 0 m), x.isSome = true := by
  have h := free_run (ws := ws) (order := order) (m := m) (ks := rng 0 m) (by rw [rng_len]; omega)
  rw [rng_len] at h
  have h0 : free (run ws order m (rng 0 m)) = [] := List.eq_nil_of_length_eq_zero (by omega)
  intro x hx
  obtain ⟨j, hj, e⟩ := List.getElem_of_mem hx
  cases hx' : x with
  | some v => rfl
  | none =>
  exfalso
  have : (j : Int) ∈ free (run ws order m (rng 0 m)) := by
    refine free_mem.mpr ⟨⟨by omega, by omega⟩, ?_⟩
    rw [gI_nat, List.getD_eq_getElem?_getD, List.getElem?_eq_getElem hj, e, hx']
    rfl
  rw [h0] at this; cases this
theorem take_len (ws : List (List Int)) (order : List Int) (m : Int) : (take ws order m).length = m.toNat := by unfold take; rw [List.length_map, run_len]
theorem take_vals {ws : List (List Int)} {order : List Int} {m : Int} (ho : order ≠ []) : ∀ v ∈ take ws order m, v ∈ order := by
  intro v hv
  unfold take at hv
  obtain ⟨x, hx, e⟩ := List.mem_map.mp hv
  have h := run_full x hx
  obtain ⟨w, rfl⟩ := Option.isSome_iff_exists.mp h
  cases e
  exact run_vals ho _ hx _ rfl
theorem rep_none {m : Int} : repL [(none : Option Int)] m = (rng 0 m).map fun _ => none := by
  unfold repL rng
  rw [List.map_map]
  apply List.ext_getElem
  · simp
  · intro i h1 h2; simp
theorem free_is {t : List (Option Int)} {m : Int} (h : (t.length : Int) = m) : ((rng 0 m).filter fun x => (gI t x).isNone) = free t := by
  unfold free
  rw [h]
  refine List.filter_congr fun x _ => ?_
  cases gI t x <;> rfl
theorem stp_eq (ws : List (List Int)) (order : List Int) (told : List (Option Int)) (k : Int) : stp ws order told k = setI told (bst (gI ws (gI order (k % order.length))) (free told)) (some (gI order (k % order.length))) := by unfold stp; rfl
theorem take_eq (ws : List (List Int)) (order : List Int) (m : Int) : take ws order m = (run ws order m (rng 0 m)).map fun x => x.getD default := by unfold take; rfl
theorem free_ne {ws : List (List Int)} {order : List Int} {m x : Int} (h0 : 0 ≤ x) (h1 : x < m) : free (run ws order m (rng 0 x)) ≠ [] := by
  have h := free_run (ws := ws) (order := order) (m := m) (ks := rng 0 x) (by rw [rng_len]; omega)
  rw [rng_len] at h
  intro e
  rw [e] at h; simp at h; omega
theorem best_eq {row left : List Int} (hs : left.Pairwise (· < ·)) (hne : left ≠ []) : (mnB pLt (left.map fun t => (-gI row t, t))).2 = bst row left := by
  have hm := mnB_mem pLt (xs := left.map fun t => (-gI row t, t)) (by simpa using hne)
  obtain ⟨t, ht, e⟩ := List.mem_map.mp hm
  have hle : ∀ y ∈ left, gI row y < gI row t ∨ (gI row y = gI row t ∧ t ≤ y) := by
    intro y hy
    have := mnB_le pLt_ok (xs := left.map fun t => (-gI row t, t)) (y := (-gI row y, y)) (List.mem_map.mpr ⟨y, hy, rfl⟩)
    rw [← e, pLt_no] at this
    dsimp only at this
    omega
  rw [← e]
  show t = bst row left
  obtain ⟨b1, b2⟩ := bst_mem (row := row) hne
  have h1 := hle _ b1
  have h2 := le_mxI (List.mem_map.mpr ⟨t, ht, rfl⟩ : (fun o => gI row o) t ∈ left.map fun o => gI row o)
  dsimp only at h2
  have h3 : gI row t = mxI (left.map fun o => gI row o) := by omega
  have h4 : t ∈ left.filter fun o => decide (gI row o = mxI (left.map fun o => gI row o)) := List.mem_filter.mpr ⟨ht, by rw [decide_eq_true_eq]; exact h3⟩
  have h5 : (left.filter fun o => decide (gI row o = mxI (left.map fun o => gI row o))).Pairwise (· < ·) := List.Pairwise.filter _ hs
  have h6 : bst row left ≤ t := by
    unfold bst
    generalize (left.filter fun o => decide (gI row o = mxI (left.map fun o => gI row o))) = fs at h4 h5
    cases fs with
    | nil => cases h4
    | cons f fs =>
      rw [gI_cons0]
      rcases List.mem_cons.mp h4 with h | h
      · omega
      · have := (List.pairwise_cons.mp h5).1 t h
        omega
  omega
end Th

set_option maxRecDepth 100000
namespace Th
open PySem PySem.Spec PyProof.Rows L2 TW Lh
theorem sum_upd {f : Int → Int} {p p' : Int → Bool} {o : Int} (h0 : p o = false) : ∀ {xs : List Int}, xs.Nodup → o ∈ xs → (∀ y, y ≠ o → y ∈ xs → p' y = p y) → ((xs.filter p').map f).sum = ((xs.filter p).map f).sum + if p' o = true then f o else 0
  | [], _, ho, _ => by cases ho
  | x :: xs, nd, ho, h => by
    rw [List.nodup_cons] at nd
    by_cases e : x = o
    · subst e
      have hc : xs.filter p' = xs.filter p := List.filter_congr fun y hy => h y (fun z => nd.1 (by rw [← z]; exact hy)) (List.mem_cons_of_mem _ hy)
      rw [List.filter_cons_of_neg (p := p) (by rw [h0]; simp)]
      by_cases h1 : p' x = true
      · rw [List.filter_cons_of_pos h1, hc, if_pos h1, List.map_cons, List.sum_cons]; omega
      · rw [List.filter_cons_of_neg h1, hc, if_neg h1]; omega
    · have ih := sum_upd (f := f) (p := p) (p' := p') h0 nd.2 ((List.mem_cons.mp ho).resolve_left (fun z => e z.symm)) (fun y hy hm => h y hy (List.mem_cons_of_mem _ hm))
      have hx := h x e (List.mem_cons_self ..)
      by_cases h1 : p x = true
      · rw [List.filter_cons_of_pos h1, List.filter_cons_of_pos (by rw [hx]; exact h1), List.map_cons, List.map_cons, List.sum_cons, List.sum_cons, ih]; omega
      · rw [List.filter_cons_of_neg h1, List.filter_cons_of_neg (by rw [hx]; exact h1), ih]
/-- what the things of one are worth so far -/
def V (told : List (Option Int)) (row : List Int) (j : Int) : Int := (((rng 0 told.length).filter fun o => decide (gI told o = some j)).map fun o => gI row o).sum
theorem V_set {told : List (Option Int)} {row : List Int} {j o x : Int} (h0 : 0 ≤ o ∧ o < told.length) (h1 : gI told o = none) : V (setI told o (some x)) row j = V told row j + if x = j then gI row o else 0 := by
  unfold V
  rw [setI_len, sum_upd (f := fun o => gI row o) (p := fun o => decide (gI told o = some j)) (o := o) (by rw [h1]; rfl) (rng_nodup _ _) (mem_rng.mpr h0)]
  · congr 1
    rw [gI_set_eq h0.1 h0.2]
    by_cases e : x = j
    · simp [e]
    · simp [e]
  · intro y hy hm
    rw [gI_set_ne h0.1 (mem_rng.mp hm).1 (fun z => hy z.symm)]
theorem V_take {ws : List (List Int)} {order : List Int} {m i j : Int} : val ws (take ws order m) i j = V (run ws order m (rng 0 m)) (gI ws i) j := by
  unfold val V worth lot
  rw [take_len, run_len]
  congr 2
  refine List.filter_congr fun o ho => ?_
  have ho := mem_rng.mp ho
  have hl := run_len ws order m (rng 0 m)
  unfold take
  rw [gI_map _ ⟨by omega, by omega⟩]
  have hs := run_full _ (gI_mem (xs := run ws order m (rng 0 m)) (i := o) ⟨by omega, by omega⟩)
  obtain ⟨v, hv⟩ := Option.isSome_iff_exists.mp hs
  rw [hv]
  simp
section
variable {ws : List (List Int)} {order : List Int} {told : List (Option Int)} {i j k f : Int} {row : List Int}
def J (told : List (Option Int)) (row : List Int) (i j f : Int) : Prop := V told row j - f ≤ V told row i
def J1 (told : List (Option Int)) (row : List Int) (i j f : Int) : Prop := ∃ c, 0 ≤ c ∧ V told row j - f + c ≤ V told row i ∧ ∀ o ∈ free told, gI row o ≤ c
theorem J_of (h : J1 told row i j f) : J told row i j f := by
  obtain ⟨c, h0, h1, _⟩ := h
  unfold J; omega
theorem step_any (hne : free told ≠ []) : V (stp ws order told k) row j = V told row j + (if gI order (k % order.length) = j then gI row (bst (gI ws (gI order (k % order.length))) (free told)) else 0) ∧ free (stp ws order told k) = (free told).erase (bst (gI ws (gI order (k % order.length))) (free told)) := by
  have hb := free_mem.mp (bst_mem (row := gI ws (gI order (k % order.length))) hne).1
  unfold stp
  exact ⟨V_set hb.1 hb.2, free_set hb.1.1 hb.1.2⟩
theorem step_i (hne : free told ≠ []) (hx : gI order (k % order.length) = i) (hij : i ≠ j) (hp : ∀ o ∈ free told, 0 ≤ gI (gI ws i) o) (h : J told (gI ws i) i j f) : J1 (stp ws order told k) (gI ws i) i j f := by
  have h1 := (step_any (ws := ws) (order := order) (k := k) (row := gI ws i) (j := i) hne)
  have h2 := (step_any (ws := ws) (order := order) (k := k) (row := gI ws i) (j := j) hne).1
  have hb := bst_mem (row := gI ws i) hne
  rw [hx, if_pos rfl] at h1
  rw [hx, if_neg hij] at h2
  unfold J at h
  refine ⟨gI (gI ws i) (bst (gI ws i) (free told)), hp _ hb.1, by rw [h1.1, h2]; omega, fun o ho => ?_⟩
  rw [h1.2] at ho
  have := le_mxI (List.mem_map.mpr ⟨o, List.mem_of_mem_erase ho, rfl⟩ : (fun o => gI (gI ws i) o) o ∈ (free told).map fun o => gI (gI ws i) o)
  dsimp only at this
  rw [hb.2]; exact this
theorem step_j (hne : free told ≠ []) (hx : gI order (k % order.length) = j) (hij : i ≠ j) (h : J1 told (gI ws i) i j f) : J (stp ws order told k) (gI ws i) i j f := by
  have h1 := (step_any (ws := ws) (order := order) (k := k) (row := gI ws i) (j := i) hne).1
  have h2 := (step_any (ws := ws) (order := order) (k := k) (row := gI ws i) (j := j) hne).1
  rw [hx, if_neg (fun z => hij z.symm)] at h1
  rw [hx, if_pos rfl] at h2
  obtain ⟨c, c0, c1, c2⟩ := h
  have := c2 _ (bst_mem (row := gI ws j) hne).1
  unfold J
  rw [h1, h2]; omega
theorem step_o (hne : free told ≠ []) (hi : gI order (k % order.length) ≠ i) (hj : gI order (k % order.length) ≠ j) (h : J told row i j f) : J (stp ws order told k) row i j f := by
  have h1 := (step_any (ws := ws) (order := order) (k := k) (row := row) (j := i) hne).1
  have h2 := (step_any (ws := ws) (order := order) (k := k) (row := row) (j := j) hne).1
  rw [if_neg hi] at h1
  rw [if_neg hj] at h2
  unfold J at h ⊢
  rw [h1, h2]; omega
theorem step_o1 (hne : free told ≠ []) (hi : gI order (k % order.length) ≠ i) (hj : gI order (k % order.length) ≠ j) (h : J1 told row i j f) : J1 (stp ws order told k) row i j f := by
  have h1 := (step_any (ws := ws) (order := order) (k := k) (row := row) (j := i) hne)
  have h2 := (step_any (ws := ws) (order := order) (k := k) (row := row) (j := j) hne).1
  rw [if_neg hi] at h1
  rw [if_neg hj] at h2
  obtain ⟨c, c0, c1, c2⟩ := h
  refine ⟨c, c0, by rw [h1.1, h2]; omega, fun o ho => ?_⟩
  rw [h1.2] at ho
  exact c2 o (List.mem_of_mem_erase ho)
end
theorem gI_inj {xs : List Int} (nd : xs.Nodup) {a b : Int} (ha : 0 ≤ a ∧ a < xs.length) (hb : 0 ≤ b ∧ b < xs.length) (h : gI xs a = gI xs b) : a = b := by
  rw [gI_nn _ ha.1, gI_nn _ hb.1, List.getD_eq_getElem?_getD, List.getD_eq_getElem?_getD, List.getElem?_eq_getElem (by omega), List.getElem?_eq_getElem (by omega)] at h
  have := (List.getElem_inj (h₀ := by omega) (h₁ := by omega) nd).mp h
  omega
theorem mod_succ {k n : Int} (hn : 0 < n) : ((k + 1) % n = k % n + 1 ∧ k % n + 1 < n) ∨ ((k + 1) % n = 0 ∧ k % n + 1 = n) := by
  have h1 := Int.emod_nonneg k (b := n) (by omega)
  have h2 := Int.emod_lt_of_pos k hn
  have h3 : (k + 1) % n = (k % n + 1) % n := by rw [Int.emod_add_emod]
  by_cases h : k % n + 1 < n
  · left; rw [h3]; exact ⟨Int.emod_eq_of_lt (by omega) h, h⟩
  · right
    have e : k % n + 1 = n := by omega
    rw [h3, e]; exact ⟨Int.emod_self, rfl⟩
structure Tk (ws : List (List Int)) (order : List Int) (m : Int) : Prop where
  mp : 0 ≤ m
  nd : order.Nodup
  ne : 0 < order.length
  w : ∀ x ∈ order, ∀ o, 0 ≤ o → o < m → 0 ≤ gI (gI ws x) o
section
variable {ws : List (List Int)} {order : List Int} {m p q k : Int}
theorem Tk.fr (t : Tk ws order m) (h0 : 0 ≤ k) (h1 : k < m) : free (run ws order m (rng 0 k)) ≠ [] := by
  have := free_run (ws := ws) (order := order) (m := m) (ks := rng 0 k) (by rw [rng_len]; omega)
  rw [rng_len] at this
  intro e
  rw [e] at this; simp at this; omega
theorem Tk.at (t : Tk ws order m) (hp : 0 ≤ p ∧ p < order.length) : gI order (k % order.length) = gI order p ↔ k % order.length = p := by
  have hn := t.ne
  have h1 := Int.emod_nonneg k (b := (order.length : Int)) (by omega)
  have h2 := Int.emod_lt_of_pos k (b := (order.length : Int)) (by omega)
  exact ⟨fun h => gI_inj t.nd ⟨h1, h2⟩ hp h, fun h => by rw [h]⟩
theorem Tk.pos (t : Tk ws order m) (hp : 0 ≤ p ∧ p < order.length) : ∀ o ∈ free (run ws order m (rng 0 k)), 0 ≤ gI (gI ws (gI order p)) o := by
  intro o ho
  have h := (free_mem.mp ho).1
  rw [run_len] at h
  have := t.mp
  exact t.w _ (gI_mem ⟨by omega, by omega⟩) o h.1 (by omega)
theorem V_nil (m : Int) (ws : List (List Int)) (order row : List Int) (j : Int) : V (run ws order m (rng 0 0)) row j = 0 := by
  unfold V
  rw [List.filter_eq_nil_iff.mpr]
  · rfl
  · intro o ho
    have h := mem_rng.mp ho
    rw [run_len] at h
    rw [rng_self, decide_eq_true_eq]
    have : gI (run ws order m []) o = none := by rw [run_nil]; exact gI_mapR _ h.1 (by omega)
    rw [this]; simp
theorem rng_s (h : 0 ≤ k) : run ws order m (rng 0 (k + 1)) = stp ws order (run ws order m (rng 0 k)) k := by rw [rng_succ h, run_snoc]
/-- an earlier one -/
theorem early (t : Tk ws order m) (hp : 0 ≤ p) (hpq : p < q) (hq : q < order.length) (k : Nat) (hk : (k : Int) ≤ m) :
    J (run ws order m (rng 0 k)) (gI ws (gI order p)) (gI order p) (gI order q) 0 ∧ (p < (k : Int) % order.length → (k : Int) % order.length ≤ q → J1 (run ws order m (rng 0 k)) (gI ws (gI order p)) (gI order p) (gI order q) 0) := by
  have hn : (0 : Int) < order.length := by omega
  have hij : gI order p ≠ gI order q := fun e => by have := gI_inj t.nd ⟨hp, by omega⟩ ⟨by omega, hq⟩ e; omega
  induction k with
  | zero =>
    refine ⟨?_, fun h => ?_⟩
    · unfold J
      have h1 := V_nil m ws order (gI ws (gI order p)) (gI order p)
      have h2 := V_nil m ws order (gI ws (gI order p)) (gI order q)
      show V (run ws order m (rng 0 0)) _ _ - 0 ≤ V (run ws order m (rng 0 0)) _ _
      omega
    · simp at h; omega
  | succ k ih =>
    obtain ⟨i1, i2⟩ := ih (by omega)
    have hf := t.fr (k := k) (by omega) (by omega)
    have e : (((k + 1 : Nat)) : Int) = (k : Int) + 1 := by omega
    rw [e, rng_s (by omega)]
    have hm := mod_succ (k := k) hn
    by_cases h1 : (k : Int) % order.length = p
    · have := step_i (ws := ws) (k := (k : Int)) hf ((t.at ⟨hp, by omega⟩).mpr h1) hij (t.pos ⟨hp, by omega⟩) i1
      exact ⟨J_of this, fun _ _ => this⟩
    · by_cases h2 : (k : Int) % order.length = q
      · have := step_j (ws := ws) (k := (k : Int)) hf ((t.at ⟨by omega, hq⟩).mpr h2) hij (i2 (by omega) (by omega))
        exact ⟨this, fun a b => by omega⟩
      · have a1 : gI order ((k : Int) % order.length) ≠ gI order p := fun z => h1 ((t.at ⟨hp, by omega⟩).mp z)
        have a2 : gI order ((k : Int) % order.length) ≠ gI order q := fun z => h2 ((t.at ⟨by omega, hq⟩).mp z)
        exact ⟨step_o hf a1 a2 i1, fun a b => step_o1 hf a1 a2 (i2 (by omega) (by omega))⟩
/-- a later one -/
theorem late (t : Tk ws order m) (hq : 0 ≤ q) (hqp : q < p) (hp : p < order.length) (k : Nat) (hk : (k : Int) ≤ m) :
    ((k : Int) ≤ q → V (run ws order m (rng 0 k)) (gI ws (gI order p)) (gI order q) = 0 ∧ V (run ws order m (rng 0 k)) (gI ws (gI order p)) (gI order p) = 0) ∧
    (q < (k : Int) → ∃ o, (0 ≤ o ∧ o < m) ∧ gI (run ws order m (rng 0 k)) o = some (gI order q) ∧ J (run ws order m (rng 0 k)) (gI ws (gI order p)) (gI order p) (gI order q) (gI (gI ws (gI order p)) o) ∧
      (¬ (q < (k : Int) % order.length ∧ (k : Int) % order.length ≤ p) → J1 (run ws order m (rng 0 k)) (gI ws (gI order p)) (gI order p) (gI order q) (gI (gI ws (gI order p)) o))) := by
  have hn : (0 : Int) < order.length := by omega
  have hij : gI order p ≠ gI order q := fun e => by have := gI_inj t.nd ⟨by omega, hp⟩ ⟨hq, by omega⟩ e; omega
  induction k with
  | zero => exact ⟨fun _ => ⟨V_nil m ws order _ _, V_nil m ws order _ _⟩, fun h => by omega⟩
  | succ k ih =>
    obtain ⟨i1, i2⟩ := ih (by omega)
    have hf := t.fr (k := k) (by omega) (by omega)
    have e : (((k + 1 : Nat)) : Int) = (k : Int) + 1 := by omega
    rw [e, rng_s (by omega)]
    have hm := mod_succ (k := k) hn
    have sp := (step_any (ws := ws) (order := order) (k := k) (row := gI ws (gI order p)) (j := gI order p) hf).1
    have sq := (step_any (ws := ws) (order := order) (k := k) (row := gI ws (gI order p)) (j := gI order q) hf).1
    have hb := bst_mem (row := gI ws (gI order ((k : Int) % order.length))) hf
    have hb2 := free_mem.mp hb.1
    have hrl := run_len ws order m (rng 0 k)
    refine ⟨fun h => ?_, fun h => ?_⟩
    · obtain ⟨j1, j2⟩ := i1 (by omega)
      have hk1 : (k : Int) % order.length = k := Int.emod_eq_of_lt (by omega) (by omega)
      rw [if_neg (fun z => by have := (t.at ⟨by omega, hp⟩).mp z; omega)] at sp
      rw [if_neg (fun z => by have := (t.at ⟨hq, by omega⟩).mp z; omega)] at sq
      omega
    · by_cases hkq : (k : Int) ≤ q
      · obtain ⟨j1, j2⟩ := i1 hkq
        have hk1 : (k : Int) % order.length = q := by rw [Int.emod_eq_of_lt (by omega) (by omega)]; omega
        rw [if_neg (fun z => by have := (t.at ⟨by omega, hp⟩).mp z; omega)] at sp
        rw [if_pos ((t.at ⟨hq, by omega⟩).mpr hk1)] at sq
        refine ⟨bst (gI ws (gI order ((k : Int) % order.length))) (free (run ws order m (rng 0 k))), ⟨hb2.1.1, by omega⟩, ?_, ?_, fun z => absurd ⟨by omega, by omega⟩ z⟩
        · unfold stp
          rw [gI_set_eq hb2.1.1 hb2.1.2, hk1]
        · unfold J; omega
      · obtain ⟨o, ho, hs, j1, j2⟩ := i2 (by omega)
        refine ⟨o, ho, ?_, ?_⟩
        · unfold stp
          rw [gI_set_ne hb2.1.1 ho.1 (fun z => by rw [z, hs] at hb2; cases hb2.2)]
          exact hs
        · by_cases h1 : (k : Int) % order.length = p
          · have := step_i (ws := ws) (k := (k : Int)) hf ((t.at ⟨by omega, hp⟩).mpr h1) hij (t.pos ⟨by omega, hp⟩) j1
            exact ⟨J_of this, fun _ => this⟩
          · by_cases h2 : (k : Int) % order.length = q
            · have := step_j (ws := ws) (k := (k : Int)) hf ((t.at ⟨hq, by omega⟩).mpr h2) hij (j2 (by omega))
              exact ⟨this, fun a => by omega⟩
            · have a1 : gI order ((k : Int) % order.length) ≠ gI order p := fun z => h1 ((t.at ⟨by omega, hp⟩).mp z)
              have a2 : gI order ((k : Int) % order.length) ≠ gI order q := fun z => h2 ((t.at ⟨hq, by omega⟩).mp z)
              exact ⟨step_o hf a1 a2 j1, fun a => step_o1 hf a1 a2 (j2 (by omega))⟩
/-- no envy of those behind -/
theorem take_early (t : Tk ws order m) (hp : 0 ≤ p) (hpq : p < q) (hq : q < order.length) : val ws (take ws order m) (gI order p) (gI order q) ≤ val ws (take ws order m) (gI order p) (gI order p) := by
  rw [V_take, V_take]
  have := (early t hp hpq hq m.toNat (by have := t.mp; omega)).1
  rw [show ((m.toNat : Nat) : Int) = m by have := t.mp; omega] at this
  unfold J at this
  omega
/-- but for one thing -/
theorem take_late (t : Tk ws order m) (hq : 0 ≤ q) (hqp : q < p) (hp : p < order.length) (h : val ws (take ws order m) (gI order p) (gI order q) > val ws (take ws order m) (gI order p) (gI order p)) : but1 ws (take ws order m) (gI order p, gI order q) := by
  have hm := t.mp
  have hl := late t hq hqp hp m.toNat (by omega)
  have em : ((m.toNat : Nat) : Int) = m := by omega
  rw [em] at hl
  unfold but1
  dsimp only
  rw [V_take, V_take] at h ⊢
  by_cases hmq : m ≤ q
  · have := hl.1 hmq
    omega
  · obtain ⟨o, ho, hs, hJ, _⟩ := hl.2 (by omega)
    have hmem : o ∈ lot (take ws order m) (gI order q) := by
      refine lot_mem.mpr ⟨⟨ho.1, by rw [take_len]; omega⟩, ?_⟩
      unfold take
      rw [gI_map _ ⟨by rw [run_len]; omega, by rw [run_len]; omega⟩, hs]
      rfl
    have := le_mxI (List.mem_map.mpr ⟨o, hmem, rfl⟩ : (fun o => gI (gI ws (gI order p)) o) o ∈ (lot (take ws order m) (gI order q)).map fun o => gI (gI ws (gI order p)) o)
    dsimp only at this
    unfold J at hJ
    omega
end
theorem pos_of {order : List Int} {n i : Int} (hperm : order.Perm (rng 0 n)) (h0 : 0 ≤ i) (h1 : i < n) : ∃ p : Int, (0 ≤ p ∧ p < order.length) ∧ gI order p = i := by
  have : i ∈ order := hperm.mem_iff.mpr (mem_rng.mpr ⟨h0, h1⟩)
  obtain ⟨j, hj, e⟩ := List.getElem_of_mem this
  exact ⟨j, ⟨by omega, by omega⟩, by rw [gI_nat, List.getD_eq_getElem?_getD, List.getElem?_eq_getElem hj, e]; rfl⟩
theorem take_free1 {ws : List (List Int)} {order : List Int} {m : Int} (t : Tk ws order m) (hperm : order.Perm (rng 0 ws.length)) : free1 ws (take ws order m) = true := by
  unfold free1
  rw [decide_eq_true_eq]
  rintro ⟨i, j⟩ he
  obtain ⟨h1, h2, h3⟩ := env_mem.mp he
  dsimp only at h1 h2 h3
  obtain ⟨p, hp, rfl⟩ := pos_of hperm h1.1 h1.2
  obtain ⟨q, hq, rfl⟩ := pos_of hperm h2.1 h2.2
  rcases Int.lt_trichotomy p q with h | h | h
  · have := take_early t hp.1 h hq.2
    omega
  · subst h; omega
  · exact take_late t hq.1 h hp.2 h3
theorem take_first {ws : List (List Int)} {order : List Int} {m : Int} (t : Tk ws order m) (hperm : order.Perm (rng 0 ws.length)) {e : Int × Int} (he : e ∈ env ws (take ws order m)) {p q : Int} (hp : 0 ≤ p ∧ p < order.length) (hq : 0 ≤ q ∧ q < order.length) (e1 : gI order p = e.1) (e2 : gI order q = e.2) : q < p := by
  obtain ⟨h1, h2, h3⟩ := env_mem.mp he
  rw [← e1, ← e2] at h3
  rcases Int.lt_trichotomy p q with h | h | h
  · have := take_early t hp.1 h hq.2
    omega
  · subst h; omega
  · exact h
end Th

set_option maxRecDepth 100000
namespace Th
open PySem PySem.Spec PyProof.Rows L2 TW Lh
/-! dealing one by one, by any choice -/
@[irreducible] def gstp (who : List (Option Int) → Int → Int) (pk : Int → List Int → Int) (told : List (Option Int)) (k : Int) : List (Option Int) := setI told (pk (who told k) (free told)) (some (who told k))
@[irreducible] def grun (who : List (Option Int) → Int → Int) (pk : Int → List Int → Int) (m : Int) (ks : List Int) : List (Option Int) := ks.foldl (gstp who pk) ((rng 0 m).map fun _ => none)
@[irreducible] def outs (told : List (Option Int)) : List Int := told.map fun x => x.getD default
theorem outs_eq (told : List (Option Int)) : outs told = told.map fun x => x.getD default := by unfold outs; rfl
section
variable {who : List (Option Int) → Int → Int} {pk : Int → List Int → Int} {m : Int} {ks : List Int}
theorem gstp_eq (told : List (Option Int)) (k : Int) : gstp who pk told k = setI told (pk (who told k) (free told)) (some (who told k)) := by unfold gstp; rfl
theorem grun_nil : grun who pk m [] = (rng 0 m).map fun _ => none := by unfold grun; rfl
theorem grun_snoc (k : Int) : grun who pk m (ks ++ [k]) = gstp who pk (grun who pk m ks) k := by unfold grun; rw [List.foldl_append]; rfl
theorem grun_len : (grun who pk m ks).length = m.toNat := by
  induction ks using snoc_ind with
  | nil => rw [grun_nil, List.length_map, rng_len]; omega
  | snoc xs x ih => rw [grun_snoc, gstp_eq, setI_len]; exact ih
theorem none_free : free ((rng 0 m).map fun _ => (none : Option Int)) = rng 0 m := by
  unfold free
  rw [List.length_map, rng_len, List.filter_eq_self.mpr]
  · by_cases hm : 0 ≤ m
    · rw [show (((m - 0).toNat : Nat) : Int) = m by omega]
    · rw [rng_nil (by omega), rng_nil (by omega)]
  · intro x hx
    have hx := mem_rng.mp hx
    rw [decide_eq_true_eq]
    exact gI_mapR _ hx.1 (by omega)
theorem gfree (hpk : ∀ i left, left ≠ [] → pk i left ∈ left) (h : ks.length ≤ m.toNat) : (free (grun who pk m ks)).length + ks.length = m.toNat := by
  induction ks using snoc_ind with
  | nil => rw [grun_nil, none_free, rng_len]; simp
  | snoc xs x ih =>
    rw [List.length_append, List.length_singleton] at h
    have ih := ih (by omega)
    have hne : free (grun who pk m xs) ≠ [] := fun e => by rw [e] at ih; simp at ih; omega
    rw [grun_snoc, gstp_eq]
    have hb := hpk (who (grun who pk m xs) x) _ hne
    have hb2 := free_mem.mp hb
    rw [free_set hb2.1.1 hb2.1.2, List.length_erase_of_mem hb, List.length_append, List.length_singleton]
    have := List.length_pos_of_mem hb
    omega
theorem gfree_ne (hpk : ∀ i left, left ≠ [] → pk i left ∈ left) {x : Int} (h0 : 0 ≤ x) (h1 : x < m) : free (grun who pk m (rng 0 x)) ≠ [] := by
  have h := gfree (who := who) (m := m) (ks := rng 0 x) hpk (by rw [rng_len]; omega)
  rw [rng_len] at h
  intro e
  rw [e] at h; simp at h; omega
theorem gvals {S : Int → Prop} (hw : ∀ told k, S (who told k)) : ∀ x ∈ grun who pk m ks, ∀ v, x = some v → S v := by
  induction ks using snoc_ind with
  | nil =>
    intro x hx v hv
    rw [grun_nil] at hx
    obtain ⟨_, _, e⟩ := List.mem_map.mp hx
    rw [hv] at e; cases e
  | snoc xs x ih =>
    rw [grun_snoc, gstp_eq]
    unfold setI
    intro y hy v hv
    rcases List.mem_or_eq_of_mem_set hy with h | h
    · exact ih y h v hv
    · rw [hv] at h
      cases h
      exact hw _ _
theorem gfull (hpk : ∀ i left, left ≠ [] → pk i left ∈ left) : ∀ x ∈ grun who pk m (rng 0 m), x.isSome = true := by
  have h := gfree (who := who) (pk := pk) (m := m) (ks := rng 0 m) hpk (by rw [rng_len]; omega)
  rw [rng_len] at h
  have h0 : free (grun who pk m (rng 0 m)) = [] := List.eq_nil_of_length_eq_zero (by omega)
  intro x hx
  obtain ⟨j, hj, e⟩ := List.getElem_of_mem hx
  cases hx' : x with
  | some v => rfl
  | none =>
  exfalso
  have : (j : Int) ∈ free (grun who pk m (rng 0 m)) := by
    refine free_mem.mpr ⟨⟨by omega, by omega⟩, ?_⟩
    rw [gI_nat, List.getD_eq_getElem?_getD, List.getElem?_eq_getElem hj, e, hx']
    rfl
  rw [h0] at this; cases this
end
theorem outs_len (told : List (Option Int)) : (outs told).length = told.length := by unfold outs; rw [List.length_map]
theorem gI_outs {told : List (Option Int)} (h : ∀ x ∈ told, x.isSome = true) {o : Int} (h0 : 0 ≤ o) (h1 : o < told.length) : gI told o = some (gI (outs told) o) := by
  unfold outs
  rw [gI_map _ ⟨by omega, by omega⟩]
  have hs := h _ (gI_mem (xs := told) (i := o) ⟨by omega, by omega⟩)
  obtain ⟨v, hv⟩ := Option.isSome_iff_exists.mp hs
  rw [hv]; rfl
theorem V_outs {ws : List (List Int)} {told : List (Option Int)} (h : ∀ x ∈ told, x.isSome = true) (i j : Int) : val ws (outs told) i j = V told (gI ws i) j := by
  unfold val V worth lot
  rw [outs_len]
  congr 2
  refine List.filter_congr fun o ho => ?_
  have ho := mem_rng.mp ho
  rw [gI_outs h ho.1 ho.2]
  simp
theorem V_none (m : Int) (row : List Int) (j : Int) : V ((rng 0 m).map fun _ => (none : Option Int)) row j = 0 := by
  unfold V
  rw [List.filter_eq_nil_iff.mpr]
  · rfl
  · intro o ho
    have h := mem_rng.mp ho
    rw [List.length_map, rng_len] at h
    have : gI ((rng 0 m).map fun _ => (none : Option Int)) o = none := gI_mapR _ h.1 (by omega)
    rw [this]; simp
/-! chores: the least one left -/
@[irreducible] def cst (row left : List Int) : Int := gI (left.filter fun o => decide (gI row o = mnI (left.map fun o => gI row o))) 0
theorem cst_eq (row left : List Int) : cst row left = gI (left.filter fun o => decide (gI row o = mnI (left.map fun o => gI row o))) 0 := by unfold cst; rfl
theorem cst_ne {row left : List Int} (h : left ≠ []) : 0 < (left.filter fun o => decide (gI row o = mnI (left.map fun o => gI row o))).length := by
  obtain ⟨o, ho, e⟩ := List.mem_map.mp (mnI_mem (xs := left.map fun o => gI row o) (by simpa using h))
  exact List.length_pos_of_mem (List.mem_filter.mpr ⟨ho, by rw [decide_eq_true_eq]; exact e⟩)
theorem cst_mem {row left : List Int} (h : left ≠ []) : cst row left ∈ left ∧ gI row (cst row left) = mnI (left.map fun o => gI row o) := by
  have h1 := cst_ne (row := row) h
  have h2 : cst row left ∈ left.filter fun o => decide (gI row o = mnI (left.map fun o => gI row o)) := by rw [cst_eq]; exact gI_mem ⟨by omega, by omega⟩
  rw [List.mem_filter, decide_eq_true_eq] at h2
  exact h2
theorem cst_le {row left : List Int} {o : Int} (h : o ∈ left) : gI row (cst row left) ≤ gI row o := by
  have := mnI_le' (List.mem_map.mpr ⟨o, h, rfl⟩ : (fun o => gI row o) o ∈ left.map fun o => gI row o)
  dsimp only at this
  rw [(cst_mem (List.ne_nil_of_mem h)).2]; exact this
theorem cbest_eq {row left : List Int} (hs : left.Pairwise (· < ·)) (hne : left ≠ []) : (mnB pLt (left.map fun t => (gI row t, t))).2 = cst row left := by
  have hm := mnB_mem pLt (xs := left.map fun t => (gI row t, t)) (by simpa using hne)
  obtain ⟨t, ht, e⟩ := List.mem_map.mp hm
  have hle : ∀ y ∈ left, gI row t < gI row y ∨ (gI row y = gI row t ∧ t ≤ y) := by
    intro y hy
    have := mnB_le pLt_ok (xs := left.map fun t => (gI row t, t)) (y := (gI row y, y)) (List.mem_map.mpr ⟨y, hy, rfl⟩)
    rw [← e, pLt_no] at this
    dsimp only at this
    omega
  rw [← e]
  show t = cst row left
  obtain ⟨b1, b2⟩ := cst_mem (row := row) hne
  have h1 := hle _ b1
  have h2 := cst_le (row := row) ht
  have h3 : gI row t = mnI (left.map fun o => gI row o) := by omega
  have h4 : t ∈ left.filter fun o => decide (gI row o = mnI (left.map fun o => gI row o)) := List.mem_filter.mpr ⟨ht, by rw [decide_eq_true_eq]; exact h3⟩
  have h5 : (left.filter fun o => decide (gI row o = mnI (left.map fun o => gI row o))).Pairwise (· < ·) := List.Pairwise.filter _ hs
  have h6 : cst row left ≤ t := by
    unfold cst
    generalize (left.filter fun o => decide (gI row o = mnI (left.map fun o => gI row o))) = fs at h4 h5
    cases fs with
    | nil => cases h4
    | cons f fs =>
      rw [gI_cons0]
      rcases List.mem_cons.mp h4 with h | h
      · omega
      · have := (List.pairwise_cons.mp h5).1 t h
        omega
  omega
/-! whose burden is greater -/
def crow (ws : List (List Int)) (deal : List Int) (i : Int) : List (Int × Int) := ((rng 0 ws.length).filter fun j => decide (val ws deal i j < val ws deal i i)).map fun j => (i, j)
@[irreducible] def cenv (ws : List (List Int)) (deal : List Int) : List (Int × Int) := (rng 0 ws.length).flatMap (crow ws deal)
theorem cenv_rows (ws : List (List Int)) (deal : List Int) : cenv ws deal = (rng 0 ws.length).flatMap (crow ws deal) := by unfold cenv; rfl
theorem crow_len (ws : List (List Int)) (deal : List Int) (i : Int) : (crow ws deal i).length ≤ ws.length := by
  unfold crow
  rw [List.length_map]
  have := List.length_filter_le (fun j => decide (val ws deal i j < val ws deal i i)) (rng 0 ws.length)
  rw [rng_len] at this
  omega
theorem crows_len (ws : List (List Int)) (deal : List Int) : ∀ xs : List Int, (xs.flatMap (crow ws deal)).length ≤ xs.length * ws.length
  | [] => by simp
  | x :: xs => by
    rw [List.flatMap_cons, List.length_append, List.length_cons, Nat.succ_mul]
    have := crow_len ws deal x
    have := crows_len ws deal xs
    omega
theorem cenv_len (ws : List (List Int)) (deal : List Int) : (cenv ws deal).length ≤ ws.length * ws.length := by
  have := crows_len ws deal (rng 0 ws.length)
  rw [rng_len, show ((ws.length : Int) - 0).toNat = ws.length by omega] at this
  rw [cenv_rows]
  exact this
theorem crow_eq {ws : List (List Int)} {deal : List Int} {x : Int} (h : 0 ≤ x ∧ x < ws.length) : (((rng 0 (ws.length:Int)).filter fun j => decide (worth (gI ws x) (gI (lots deal ws.length) j) < worth (gI ws x) (gI (lots deal ws.length) x))).map fun j => (x, j)) = crow ws deal x := by
  unfold crow
  congr 1
  refine List.filter_congr fun j hj => ?_
  have hj := mem_rng.mp hj
  rw [gI_lots h.1 h.2, gI_lots hj.1 hj.2]
  unfold val
  rfl
theorem cenv_mem {ws : List (List Int)} {deal : List Int} {q : Int × Int} : q ∈ cenv ws deal ↔ (0 ≤ q.1 ∧ q.1 < ws.length) ∧ (0 ≤ q.2 ∧ q.2 < ws.length) ∧ val ws deal q.1 q.2 < val ws deal q.1 q.1 := by
  obtain ⟨i, j⟩ := q
  rw [cenv_rows]
  unfold crow
  simp only [List.mem_flatMap, List.mem_map, List.mem_filter, mem_rng, decide_eq_true_eq, Prod.mk.injEq]
  constructor
  · rintro ⟨a, ha, b, ⟨hb, hg⟩, rfl, rfl⟩; exact ⟨ha, hb, hg⟩
  · rintro ⟨ha, hb, hg⟩; exact ⟨i, ha, j, ⟨hb, hg⟩, rfl, rfl⟩
theorem Ok.clne {ws : List (List Int)} {deal : List Int} (h : Ok ws deal) {q : Int × Int} (hq : q ∈ cenv ws deal) : lot deal q.1 ≠ [] := by
  obtain ⟨h1, h2, h3⟩ := cenv_mem.mp hq
  intro e
  have h4 := h.valpos q.2 h1.1 h1.2
  have h5 : val ws deal q.1 q.1 = 0 := by unfold val worth; rw [e]; rfl
  omega
@[irreducible] def cbut (ws : List (List Int)) (deal : List Int) (q : Int × Int) : Prop := val ws deal q.1 q.1 - mxI ((lot deal q.1).map fun o => gI (gI ws q.1) o) ≤ val ws deal q.1 q.2
theorem cbut_iff {ws : List (List Int)} {deal : List Int} {q : Int × Int} : cbut ws deal q ↔ worth (gI ws q.1) (lot deal q.1) - mxI ((lot deal q.1).map fun o => gI (gI ws q.1) o) ≤ worth (gI ws q.1) (lot deal q.2) := by unfold cbut val; exact Iff.rfl
instance (ws : List (List Int)) (deal : List Int) (q : Int × Int) : Decidable (cbut ws deal q) := by unfold cbut; infer_instance
@[irreducible] def cfree (ws : List (List Int)) (deal : List Int) : Bool := decide (∀ q ∈ cenv ws deal, cbut ws deal q)
theorem cfree_eq (ws : List (List Int)) (deal : List Int) : cfree ws deal = decide (∀ q ∈ cenv ws deal, cbut ws deal q) := by unfold cfree; rfl
theorem cfits_nil {ws : List (List Int)} {deal : List Int} {q : Int × Int} (hne : lot deal q.1 ≠ []) : ((lot deal q.1).filter fun o => decide (worth (gI ws q.1) (lot deal q.1) - gI (gI ws q.1) o ≤ worth (gI ws q.1) (lot deal q.2))) = [] ↔ ¬ cbut ws deal q := by
  rw [cbut_iff, List.filter_eq_nil_iff]
  constructor
  · intro h g
    obtain ⟨o, ho, e⟩ := List.mem_map.mp (mxI_mem (xs := (lot deal q.1).map fun o => gI (gI ws q.1) o) (by simpa using hne))
    have := h o ho
    rw [decide_eq_true_eq] at this
    rw [← e] at g
    exact this g
  · intro h o ho g
    rw [decide_eq_true_eq] at g
    have := le_mxI (List.mem_map.mpr ⟨o, ho, rfl⟩ : (fun o => gI (gI ws q.1) o) o ∈ (lot deal q.1).map fun o => gI (gI ws q.1) o)
    dsimp only at this
    omega
/-! chores by turns -/
def cwho (order : List Int) : List (Option Int) → Int → Int := fun _ k => gI order (k % order.length)
def cpk (ws : List (List Int)) : Int → List Int → Int := fun i left => cst (gI ws i) left
theorem cpk_ok (ws : List (List Int)) : ∀ i left, left ≠ [] → cpk ws i left ∈ left := fun i left h => (cst_mem h).1
@[irreducible] def crun (ws : List (List Int)) (order : List Int) (m : Int) (ks : List Int) : List (Option Int) := grun (cwho order) (cpk ws) m ks
@[irreducible] def ctake (ws : List (List Int)) (order : List Int) (m : Int) : List Int := outs (crun ws order m (rng 0 m))
theorem crun_nil (ws : List (List Int)) (order : List Int) (m : Int) : crun ws order m [] = (rng 0 m).map fun _ => none := by unfold crun; exact grun_nil
theorem crun_snoc (ws : List (List Int)) (order : List Int) (m : Int) (ks : List Int) (k : Int) : crun ws order m (ks ++ [k]) = setI (crun ws order m ks) (cst (gI ws (gI order (k % order.length))) (free (crun ws order m ks))) (some (gI order (k % order.length))) := by
  unfold crun
  rw [grun_snoc, gstp_eq]
  rfl
theorem crun_len (ws : List (List Int)) (order : List Int) (m : Int) (ks : List Int) : (crun ws order m ks).length = m.toNat := by unfold crun; exact grun_len
theorem crun_full (ws : List (List Int)) (order : List Int) (m : Int) : ∀ x ∈ crun ws order m (rng 0 m), x.isSome = true := by unfold crun; exact gfull (cpk_ok ws)
theorem cfree_ne (ws : List (List Int)) (order : List Int) (m : Int) {x : Int} (h0 : 0 ≤ x) (h1 : x < m) : free (crun ws order m (rng 0 x)) ≠ [] := by unfold crun; exact gfree_ne (cpk_ok ws) h0 h1
theorem ctake_eq (ws : List (List Int)) (order : List Int) (m : Int) : ctake ws order m = (crun ws order m (rng 0 m)).map fun x => x.getD default := by unfold ctake; exact outs_eq _
theorem ctake_len (ws : List (List Int)) (order : List Int) (m : Int) : (ctake ws order m).length = m.toNat := by rw [ctake_eq, List.length_map, crun_len]
section
variable {ws : List (List Int)} {order : List Int} {told : List (Option Int)} {i j k m p q : Int} {row : List Int}
def D0 (told : List (Option Int)) (row : List Int) (i j : Int) : Prop := V told row i ≤ V told row j
def D1 (told : List (Option Int)) (row : List Int) (i j : Int) : Prop := ∃ o : Int, (0 ≤ o ∧ o < told.length) ∧ gI told o = some i ∧ V told row i - gI row o ≤ V told row j ∧ ∀ x ∈ free told, gI row o ≤ gI row x
abbrev cs (ws : List (List Int)) (order : List Int) (told : List (Option Int)) (k : Int) : List (Option Int) := setI told (cst (gI ws (gI order (k % order.length))) (free told)) (some (gI order (k % order.length)))
theorem cs_i (hne : free told ≠ []) (hx : gI order (k % order.length) = i) (hij : i ≠ j) (h : D0 told (gI ws i) i j) : D1 (cs ws order told k) (gI ws i) i j := by
  obtain ⟨hb, hv⟩ := cst_mem (row := gI ws i) hne
  have hb2 := free_mem.mp hb
  unfold cs
  rw [hx]
  refine ⟨cst (gI ws i) (free told), by rw [setI_len]; exact hb2.1, gI_set_eq hb2.1.1 hb2.1.2, ?_, fun x hx => ?_⟩
  · rw [V_set hb2.1 hb2.2, V_set hb2.1 hb2.2, if_pos rfl, if_neg hij]
    unfold D0 at h
    omega
  · rw [free_set hb2.1.1 hb2.1.2] at hx
    exact cst_le (List.mem_of_mem_erase hx)
theorem cs_j (hne : free told ≠ []) (hx : gI order (k % order.length) = j) (hij : i ≠ j) (hp : ∀ o ∈ free told, 0 ≤ gI (gI ws i) o) (h : D0 told (gI ws i) i j ∨ D1 told (gI ws i) i j) : D0 (cs ws order told k) (gI ws i) i j := by
  obtain ⟨hb, hv⟩ := cst_mem (row := gI ws j) hne
  have hb2 := free_mem.mp hb
  unfold cs D0
  rw [hx, V_set hb2.1 hb2.2, V_set hb2.1 hb2.2, if_pos rfl, if_neg (fun z => hij z.symm)]
  have h0 := hp _ hb
  rcases h with h | ⟨o, h1, h2, h3, h4⟩
  · unfold D0 at h; omega
  · have := h4 _ hb
    omega
theorem cs_o (hne : free told ≠ []) (hi : gI order (k % order.length) ≠ i) (hj : gI order (k % order.length) ≠ j) : (D0 told row i j → D0 (cs ws order told k) row i j) ∧ (D1 told row i j → D1 (cs ws order told k) row i j) := by
  obtain ⟨hb, hv⟩ := cst_mem (row := gI ws (gI order (k % order.length))) hne
  have hb2 := free_mem.mp hb
  have e1 : ∀ x, gI order (k % order.length) ≠ x → V (cs ws order told k) row x = V told row x := fun x hx => by
    unfold cs
    rw [V_set hb2.1 hb2.2, if_neg hx]; omega
  refine ⟨fun h => ?_, fun ⟨o, h1, h2, h3, h4⟩ => ⟨o, by unfold cs; rw [setI_len]; exact h1, ?_, by rw [e1 i hi, e1 j hj]; exact h3, fun x hx => ?_⟩⟩
  · unfold D0 at h ⊢
    rw [e1 i hi, e1 j hj]; exact h
  · unfold cs
    rw [gI_set_ne hb2.1.1 h1.1 (fun z => by rw [← z, hb2.2] at h2; cases h2)]
    exact h2
  · unfold cs at hx
    rw [free_set hb2.1.1 hb2.1.2] at hx
    exact h4 x (List.mem_of_mem_erase hx)
def zone (p q r : Int) : Prop := (p < q ∧ ¬ (p < r ∧ r ≤ q)) ∨ (q < p ∧ q < r ∧ r ≤ p)
theorem crun_inv (t : Tk ws order m) (hp : 0 ≤ p ∧ p < order.length) (hq : 0 ≤ q ∧ q < order.length) (hpq : p ≠ q) (k : Nat) (hk : (k : Int) ≤ m) :
    (zone p q ((k : Int) % order.length) → D0 (crun ws order m (rng 0 k)) (gI ws (gI order p)) (gI order p) (gI order q)) ∧ (D0 (crun ws order m (rng 0 k)) (gI ws (gI order p)) (gI order p) (gI order q) ∨ D1 (crun ws order m (rng 0 k)) (gI ws (gI order p)) (gI order p) (gI order q)) := by
  have hn : (0 : Int) < order.length := by omega
  have hij : gI order p ≠ gI order q := fun e => hpq (gI_inj t.nd hp hq e)
  induction k with
  | zero =>
    have h0 : D0 (crun ws order m (rng 0 ((0 : Nat) : Int))) (gI ws (gI order p)) (gI order p) (gI order q) := by
      show D0 (crun ws order m (rng 0 0)) _ _ _
      rw [rng_self, crun_nil]
      unfold D0
      rw [V_none, V_none]
      exact Int.le_refl _
    exact ⟨fun _ => h0, .inl h0⟩
  | succ k ih =>
    obtain ⟨i1, i2⟩ := ih (by omega)
    have hf := cfree_ne ws order m (x := k) (by omega) (by omega)
    have e : (((k + 1 : Nat)) : Int) = (k : Int) + 1 := by omega
    rw [e, rng_succ (by omega), crun_snoc]
    have hm := mod_succ (k := k) hn
    have r0 := Int.emod_nonneg (k : Int) (b := (order.length : Int)) (by omega)
    by_cases h1 : (k : Int) % order.length = p
    · have := cs_i (ws := ws) (k := (k : Int)) hf ((t.at hp).mpr h1) hij (i1 (by unfold zone; omega))
      exact ⟨fun z => by unfold zone at z; omega, .inr this⟩
    · by_cases h2 : (k : Int) % order.length = q
      · have hpos : ∀ o ∈ free (crun ws order m (rng 0 k)), 0 ≤ gI (gI ws (gI order p)) o := fun o ho => by
          have h := (free_mem.mp ho).1
          rw [crun_len] at h
          have := t.mp
          exact t.w _ (gI_mem ⟨by omega, by omega⟩) o h.1 (by omega)
        have := cs_j (ws := ws) (k := (k : Int)) hf ((t.at hq).mpr h2) hij hpos i2
        exact ⟨fun _ => this, .inl this⟩
      · have a1 : gI order ((k : Int) % order.length) ≠ gI order p := fun z => h1 ((t.at hp).mp z)
        have a2 : gI order ((k : Int) % order.length) ≠ gI order q := fun z => h2 ((t.at hq).mp z)
        have := cs_o (ws := ws) (row := gI ws (gI order p)) hf a1 a2
        refine ⟨fun z => this.1 (i1 ?_), i2.elim (fun h => .inl (this.1 h)) (fun h => .inr (this.2 h))⟩
        unfold zone at z ⊢
        omega
end
theorem ctake_free {ws : List (List Int)} {order : List Int} {m : Int} (t : Tk ws order m) (hperm : order.Perm (rng 0 ws.length)) : cfree ws (ctake ws order m) = true := by
  rw [cfree_eq, decide_eq_true_eq]
  rintro ⟨i, j⟩ he
  obtain ⟨h1, h2, h3⟩ := cenv_mem.mp he
  dsimp only at h1 h2 h3
  obtain ⟨p, hp, rfl⟩ := pos_of hperm h1.1 h1.2
  obtain ⟨q, hq, rfl⟩ := pos_of hperm h2.1 h2.2
  have hm := t.mp
  have em : ((m.toNat : Nat) : Int) = m := by omega
  have hpq : p ≠ q := fun e => by subst e; omega
  have hi := (crun_inv t hp hq hpq m.toNat (by omega)).2
  rw [em] at hi
  have hv : ∀ x y, val ws (ctake ws order m) x y = V (crun ws order m (rng 0 m)) (gI ws x) y := fun x y => by
    unfold ctake
    exact V_outs (crun_full ws order m) x y
  unfold cbut
  dsimp only
  rw [hv, hv] at h3 ⊢
  rcases hi with h | ⟨o, g1, g2, g3, g4⟩
  · unfold D0 at h; omega
  · have hmem : o ∈ lot (ctake ws order m) (gI order p) := by
      refine lot_mem.mpr ⟨⟨g1.1, by rw [ctake_len, ← crun_len ws order m (rng 0 m)]; exact g1.2⟩, ?_⟩
      have := gI_outs (crun_full ws order m) g1.1 g1.2
      rw [g2] at this
      unfold ctake
      exact (Option.some.inj this).symm
    have := le_mxI (List.mem_map.mpr ⟨o, hmem, rfl⟩ : (fun o => gI (gI ws (gI order p)) o) o ∈ (lot (ctake ws order m) (gI order p)).map fun o => gI (gI ws (gI order p)) o)
    dsimp only at this
    omega
end Th

set_option maxRecDepth 100000
namespace Th
open PySem PySem.Spec PyProof.Rows L2 TW Lh
@[irreducible] def own (ws : List (List Int)) (deal : List Int) : List Int := (rng 0 ws.length).map fun i => val ws deal i i
theorem own_eq (ws : List (List Int)) (deal : List Int) : own ws deal = (rng 0 ws.length).map fun i => worth (gI ws i) (lot deal i) := by unfold own val; rfl
theorem own_len (ws : List (List Int)) (deal : List Int) : (own ws deal).length = ws.length := by unfold own; rw [List.length_map, rng_len]; omega
theorem gI_own {ws : List (List Int)} {deal : List Int} {i : Int} (h : 0 ≤ i ∧ i < ws.length) : gI (own ws deal) i = val ws deal i i := by unfold own; exact gI_mapR _ h.1 h.2
theorem own_lots (ws : List (List Int)) (deal : List Int) : (rng 0 ws.length).map (fun i => worth (gI ws i) (gI (lots deal ws.length) i)) = own ws deal := by
  rw [own_eq]
  refine List.map_congr_left fun i hi => ?_
  have := mem_rng.mp hi
  rw [gI_lots this.1 this.2]
theorem enum_gen {α : Type} [Inhabited α] (xs : List α) : enum xs = (rng 0 xs.length).map fun o => (o, gI xs o) := by
  unfold enum rng
  apply List.ext_getElem
  · simp
  · intro i h1 h2
    simp at h1
    simp [gI_nat, List.getD_eq_getElem?_getD, List.getElem?_eq_getElem h1]
theorem own_enum (ws : List (List Int)) (deal : List Int) : (enum (lots deal ws.length)).map (fun x => worth (gI ws x.1) x.2) = own ws deal := by
  rw [enum_gen, lots_len, List.map_map, ← own_lots]
  rw [show ((((ws.length : Int).toNat : Nat) : Int)) = (ws.length : Int) by omega]
  rfl
@[irreducible] def evn (ws : List (List Int)) (deal : List Int) : Bool := decide (∀ i ∈ rng 0 ws.length, ∀ o ∈ lot deal i, val ws deal i i - gI (gI ws i) o ≤ mnI (own ws deal))
theorem evn_eq (ws : List (List Int)) (deal : List Int) : evn ws deal = decide (∀ i ∈ rng 0 ws.length, ∀ o ∈ lot deal i, val ws deal i i - gI (gI ws i) o ≤ mnI (own ws deal)) := by unfold evn; rfl
theorem val_eq (ws : List (List Int)) (deal : List Int) (i j : Int) : val ws deal i j = worth (gI ws i) (lot deal j) := by unfold val; rfl
/-! the poorest first -/
@[irreducible] def psum (ws : List (List Int)) (told : List (Option Int)) : List Int := (rng 0 ws.length).map fun i => V told (gI ws i) i
theorem psum_len (ws : List (List Int)) (told : List (Option Int)) : (psum ws told).length = ws.length := by unfold psum; rw [List.length_map, rng_len]; omega
theorem gI_psum {ws : List (List Int)} {told : List (Option Int)} {i : Int} (h : 0 ≤ i ∧ i < ws.length) : gI (psum ws told) i = V told (gI ws i) i := by unfold psum; exact gI_mapR _ h.1 h.2
def pwho (ws : List (List Int)) : List (Option Int) → Int → Int := fun told _ => ((psum ws told).idxOf (mnI (psum ws told)) : Nat)
def bpk (ws : List (List Int)) : Int → List Int → Int := fun i left => bst (gI ws i) left
theorem bpk_ok (ws : List (List Int)) : ∀ i left, left ≠ [] → bpk ws i left ∈ left := fun i left h => (bst_mem h).1
@[irreducible] def prun (ws : List (List Int)) (m : Int) (ks : List Int) : List (Option Int) := grun (pwho ws) (bpk ws) m ks
@[irreducible] def ptake (ws : List (List Int)) (m : Int) : List Int := outs (prun ws m (rng 0 m))
theorem prun_nil (ws : List (List Int)) (m : Int) : prun ws m [] = (rng 0 m).map fun _ => none := by unfold prun; exact grun_nil
theorem prun_snoc (ws : List (List Int)) (m : Int) (ks : List Int) (k : Int) : prun ws m (ks ++ [k]) = setI (prun ws m ks) (bst (gI ws (pwho ws (prun ws m ks) k)) (free (prun ws m ks))) (some (pwho ws (prun ws m ks) k)) := by
  unfold prun
  rw [grun_snoc, gstp_eq]
  rfl
theorem prun_len (ws : List (List Int)) (m : Int) (ks : List Int) : (prun ws m ks).length = m.toNat := by unfold prun; exact grun_len
theorem prun_full (ws : List (List Int)) (m : Int) : ∀ x ∈ prun ws m (rng 0 m), x.isSome = true := by unfold prun; exact gfull (bpk_ok ws)
theorem pfree_ne (ws : List (List Int)) (m : Int) {x : Int} (h0 : 0 ≤ x) (h1 : x < m) : free (prun ws m (rng 0 x)) ≠ [] := by unfold prun; exact gfree_ne (bpk_ok ws) h0 h1
theorem pfree_len (ws : List (List Int)) {m x : Int} (h0 : 0 ≤ x) (h1 : x ≤ m) : ((free (prun ws m (rng 0 x))).length : Int) = m - x := by
  have := gfree (who := pwho ws) (pk := bpk ws) (m := m) (ks := rng 0 x) (bpk_ok ws) (by rw [rng_len]; omega)
  rw [rng_len] at this
  unfold prun
  omega
theorem ptake_eq (ws : List (List Int)) (m : Int) : ptake ws m = (prun ws m (rng 0 m)).map fun x => x.getD default := by unfold ptake; exact outs_eq _
theorem ptake_len (ws : List (List Int)) (m : Int) : (ptake ws m).length = m.toNat := by rw [ptake_eq, List.length_map, prun_len]
theorem psum_ne {ws : List (List Int)} (h : 0 < ws.length) (told : List (Option Int)) : psum ws told ≠ [] := by
  intro e
  have := psum_len ws told
  rw [e] at this; simp at this; omega
theorem pwho_lt {ws : List (List Int)} (h : 0 < ws.length) (told : List (Option Int)) (k : Int) : (0 ≤ pwho ws told k ∧ pwho ws told k < ws.length) ∧ gI (psum ws told) (pwho ws told k) = mnI (psum ws told) := by
  have hm := mnI_mem (psum_ne h told)
  have h1 := List.idxOf_lt_length_of_mem hm
  rw [psum_len] at h1
  refine ⟨⟨by unfold pwho; omega, by unfold pwho; omega⟩, ?_⟩
  unfold pwho
  rw [gI_nat, List.getD_eq_getElem?_getD, List.getElem?_eq_getElem (by rw [psum_len]; exact h1)]
  exact List.getElem_idxOf _
theorem rng_app {a b c : Int} (h1 : a ≤ b) (h2 : b ≤ c) : rng a c = rng a b ++ rng b c := by
  unfold rng
  rw [show (c - a).toNat = (b - a).toNat + (c - b).toNat by omega, List.range_add, List.map_append, List.map_map]
  congr 1
  refine List.map_congr_left fun i _ => ?_
  show a + (((b - a).toNat + i : Nat) : Int) = b + (i : Int)
  omega
theorem rng_cons {a b : Int} (h : a < b) : rng a b = a :: rng (a + 1) b := by
  rw [rng_app (b := a + 1) (by omega) (by omega), rng_succ (Int.le_refl a), rng_self]
  rfl
/-- the first place of it -/
theorem first_idx {xs : List Int} {x : Int} (h : x ∈ xs) : gI ((rng 0 xs.length).filter fun i => decide (gI xs i = x)) 0 = (xs.idxOf x : Nat) := by
  have h1 := List.idxOf_lt_length_of_mem h
  have e : rng 0 xs.length = rng 0 (xs.idxOf x : Nat) ++ ((xs.idxOf x : Nat) : Int) :: rng ((xs.idxOf x : Nat) + 1) xs.length := by
    rw [← rng_cons (by omega)]
    exact rng_app (by omega) (by omega)
  rw [e, List.filter_append, List.filter_eq_nil_iff.mpr, List.nil_append, List.filter_cons_of_pos, gI_cons0]
  · rw [decide_eq_true_eq, gI_nat, List.getD_eq_getElem?_getD, List.getElem?_eq_getElem h1]
    exact List.getElem_idxOf _
  · intro i hi hx
    obtain ⟨a, b⟩ := mem_rng.mp hi
    rw [decide_eq_true_eq, gI_nn _ a, List.getD_eq_getElem?_getD, List.getElem?_eq_getElem (by omega)] at hx
    have := List.not_of_lt_findIdx (p := fun y => y == x) (xs := xs) (i := i.toNat) (by show i.toNat < xs.idxOf x; omega)
    simp at this
    exact this hx
theorem first_pos {xs : List Int} {x : Int} (h : x ∈ xs) : 0 < ((rng 0 xs.length).filter fun i => decide (gI xs i = x)).length := by
  have h1 := List.idxOf_lt_length_of_mem h
  refine List.length_pos_of_mem (a := ((xs.idxOf x : Nat) : Int)) (List.mem_filter.mpr ⟨mem_rng.mpr ⟨by omega, by omega⟩, ?_⟩)
  rw [decide_eq_true_eq, gI_nat, List.getD_eq_getElem?_getD, List.getElem?_eq_getElem h1]
  exact List.getElem_idxOf _
section
variable {ws : List (List Int)} {told : List (Option Int)} {o i : Int}
theorem psum_set (h : 0 ≤ o ∧ o < told.length) (hn : gI told o = none) (hi : 0 ≤ i ∧ i < ws.length) : psum ws (setI told o (some i)) = setI (psum ws told) i (gI (psum ws told) i + gI (gI ws i) o) := by
  apply List.ext_getElem
  · rw [setI_len, psum_len, psum_len]
  · intro j h1 h2
    rw [psum_len] at h1
    have g1 : gI (psum ws (setI told o (some i))) (j : Int) = (psum ws (setI told o (some i)))[j]'(by rw [psum_len]; exact h1) := by
      rw [gI_nat, List.getD_eq_getElem?_getD, List.getElem?_eq_getElem (by rw [psum_len]; exact h1)]; rfl
    have g2 : gI (setI (psum ws told) i (gI (psum ws told) i + gI (gI ws i) o)) (j : Int) = (setI (psum ws told) i (gI (psum ws told) i + gI (gI ws i) o))[j]'h2 := by
      rw [gI_nat, List.getD_eq_getElem?_getD, List.getElem?_eq_getElem h2]; rfl
    rw [← g1, ← g2, gI_psum ⟨by omega, by omega⟩, V_set h hn]
    by_cases e : i = (j : Int)
    · subst e
      rw [if_pos rfl, gI_set_eq (by omega) (by rw [psum_len]; omega), gI_psum ⟨by omega, by omega⟩]
    · rw [if_neg e, gI_set_ne hi.1 (by omega) e, gI_psum ⟨by omega, by omega⟩]; omega
/-- what is true of all steps -/
def PInv (ws : List (List Int)) (told : List (Option Int)) : Prop := ∀ o i : Int, 0 ≤ o → o < told.length → gI told o = some i → (0 ≤ i ∧ i < ws.length) ∧ V told (gI ws i) i - gI (gI ws i) o ≤ mnI (psum ws told) ∧ ∀ x ∈ free told, gI (gI ws i) x ≤ gI (gI ws i) o
theorem pinv_step (hw : 0 < ws.length) (hne : free told ≠ []) (hp : ∀ i : Int, 0 ≤ i → i < ws.length → ∀ o ∈ free told, 0 ≤ gI (gI ws i) o) (h : PInv ws told) (k : Int) : PInv ws (setI told (bst (gI ws (pwho ws told k)) (free told)) (some (pwho ws told k))) := by
  obtain ⟨⟨p0, p1⟩, pm⟩ := pwho_lt hw told k
  generalize pwho ws told k = p at p0 p1 pm
  obtain ⟨hb, hbv⟩ := bst_mem (row := gI ws p) hne
  have hb2 := free_mem.mp hb
  have hle : ∀ x ∈ free told, gI (gI ws p) x ≤ gI (gI ws p) (bst (gI ws p) (free told)) := fun x hx => by
    have := le_mxI (List.mem_map.mpr ⟨x, hx, rfl⟩ : (fun o => gI (gI ws p) o) x ∈ (free told).map fun o => gI (gI ws p) o)
    dsimp only at this
    rw [hbv]; exact this
  generalize bst (gI ws p) (free told) = b at hb hb2 hle
  have hbp := hp p p0 p1 b hb
  have hmn : mnI (psum ws told) ≤ mnI (psum ws (setI told b (some p))) := by
    have hm := mnI_mem (psum_ne hw (setI told b (some p)))
    generalize mnI (psum ws (setI told b (some p))) = y at hm
    unfold psum at hm
    obtain ⟨j, hj, e⟩ := List.mem_map.mp hm
    have hj := mem_rng.mp hj
    rw [V_set hb2.1 hb2.2] at e
    have : gI (psum ws told) j ∈ psum ws told := gI_mem ⟨by rw [psum_len]; omega, by rw [psum_len]; omega⟩
    have h2 := mnI_le' this
    rw [gI_psum hj] at h2
    by_cases ej : p = j
    · subst ej; rw [if_pos rfl] at e; omega
    · rw [if_neg ej] at e; omega
  rw [gI_psum ⟨p0, p1⟩] at pm
  intro o i o0 o1 ho
  rw [setI_len] at o1
  rw [free_set hb2.1.1 hb2.1.2, V_set hb2.1 hb2.2]
  by_cases e : b = o
  · subst e
    rw [gI_set_eq hb2.1.1 hb2.1.2] at ho
    have ho : p = i := Option.some.inj ho
    subst ho
    rw [if_pos rfl]
    exact ⟨⟨p0, p1⟩, by omega, fun x hx => hle x (List.mem_of_mem_erase hx)⟩
  · rw [gI_set_ne hb2.1.1 o0 e] at ho
    obtain ⟨h1, h2, h3⟩ := h o i o0 o1 ho
    refine ⟨h1, ?_, fun x hx => h3 x (List.mem_of_mem_erase hx)⟩
    by_cases ei : p = i
    · subst ei
      rw [if_pos rfl]
      have := h3 b hb
      omega
    · rw [if_neg ei]; omega
theorem pinv_run (hw : 0 < ws.length) {m : Int} (hp : ∀ i : Int, 0 ≤ i → i < ws.length → ∀ o, 0 ≤ o → o < m → 0 ≤ gI (gI ws i) o) (k : Nat) (hk : (k : Int) ≤ m) : PInv ws (prun ws m (rng 0 k)) := by
  induction k with
  | zero =>
    show PInv ws (prun ws m (rng 0 0))
    rw [rng_self, prun_nil]
    intro o i o0 o1 ho
    rw [List.length_map, rng_len] at o1
    rw [gI_mapR _ o0 (by omega)] at ho
    cases ho
  | succ k ih =>
    have e : (((k + 1 : Nat)) : Int) = (k : Int) + 1 := by omega
    rw [e, rng_succ (by omega), prun_snoc]
    refine pinv_step hw (pfree_ne ws m (by omega) (by omega)) (fun i i0 i1 o ho => ?_) (ih (by omega)) k
    have h := (free_mem.mp ho).1
    rw [prun_len] at h
    exact hp i i0 i1 o h.1 (by omega)
theorem ptake_even (hw : 0 < ws.length) {m : Int} (hm : 0 ≤ m) (hp : ∀ i : Int, 0 ≤ i → i < ws.length → ∀ o, 0 ≤ o → o < m → 0 ≤ gI (gI ws i) o) : evn ws (ptake ws m) = true := by
  have hi := pinv_run hw hp m.toNat (by omega)
  rw [show ((m.toNat : Nat) : Int) = m by omega] at hi
  have hv : ∀ x y, val ws (ptake ws m) x y = V (prun ws m (rng 0 m)) (gI ws x) y := fun x y => by
    unfold ptake
    exact V_outs (prun_full ws m) x y
  have ho : own ws (ptake ws m) = psum ws (prun ws m (rng 0 m)) := by
    unfold own psum
    exact List.map_congr_left fun i _ => hv i i
  rw [evn_eq, decide_eq_true_eq]
  intro i hir o hol
  have hol := lot_mem.mp hol
  rw [ptake_len] at hol
  have hs := gI_outs (prun_full ws m) (o := o) hol.1.1 (by rw [prun_len]; exact hol.1.2)
  have e2 : gI (outs (prun ws m (rng 0 m))) o = i := by
    have := hol.2
    unfold ptake at this
    exact this
  rw [e2] at hs
  have := hi o i hol.1.1 (by rw [prun_len]; exact hol.1.2) hs
  rw [hv, ho]
  exact this.2.1
end
end Th

set_option maxRecDepth 100000
namespace Th
open PySem PySem.Spec PyProof.Rows L2 TW Lh
/-! all deals -/
def dealsN (n : Int) : Nat → List (List Int)
  | 0 => [[]]
  | k + 1 => (dealsN n k).flatMap fun d => (rng 0 n).map fun p => d ++ [p]
@[irreducible] def deals (n m : Int) : List (List Int) := dealsN n m.toNat
theorem deals_eq (n m : Int) : deals n m = dealsN n m.toNat := by unfold deals; rfl
theorem dealsN_len (n : Int) : ∀ k, (dealsN n k).length = n.toNat ^ k
  | 0 => rfl
  | k + 1 => by
    have : ∀ xs : List (List Int), (xs.flatMap fun d => (rng 0 n).map fun p => d ++ [p]).length = xs.length * n.toNat := by
      intro xs
      induction xs with
      | nil => simp
      | cons x xs ih => rw [List.flatMap_cons, List.length_append, ih, List.length_map, rng_len, List.length_cons, Nat.succ_mul, Int.sub_zero]; omega
    rw [dealsN, this, dealsN_len n k, Nat.pow_succ]
theorem dealsN_mem (n : Int) : ∀ {k : Nat} {d : List Int}, d ∈ dealsN n k ↔ d.length = k ∧ ∀ p ∈ d, 0 ≤ p ∧ p < n
  | 0, d => by
    rw [dealsN, List.mem_singleton]
    constructor
    · rintro rfl; exact ⟨rfl, fun p hp => by cases hp⟩
    · intro h; exact List.eq_nil_of_length_eq_zero h.1
  | k + 1, d => by
    rw [dealsN, List.mem_flatMap]
    constructor
    · rintro ⟨e, he, hd⟩
      obtain ⟨p, hp, rfl⟩ := List.mem_map.mp hd
      obtain ⟨h1, h2⟩ := (dealsN_mem n).mp he
      refine ⟨by simp [h1], fun q hq => ?_⟩
      rcases List.mem_append.mp hq with h | h
      · exact h2 q h
      · rw [List.mem_singleton] at h; subst h; exact mem_rng.mp hp
    · rintro ⟨h1, h2⟩
      obtain ⟨e, p, rfl⟩ : ∃ e p, d = e ++ [p] := by
        refine ⟨d.dropLast, d.getLast (by intro z; rw [z] at h1; simp at h1), ?_⟩
        exact (List.dropLast_concat_getLast _).symm
      refine ⟨e, (dealsN_mem n).mpr ⟨by simpa using h1, fun q hq => h2 q (List.mem_append_left _ hq)⟩, List.mem_map.mpr ⟨p, mem_rng.mpr (h2 p (by simp)), rfl⟩⟩
theorem deals_mem {n m : Int} (hm : 0 ≤ m) {d : List Int} : d ∈ deals n m ↔ (d.length : Int) = m ∧ ∀ p ∈ d, 0 ≤ p ∧ p < n := by
  rw [deals_eq, dealsN_mem]
  constructor
  · rintro ⟨h1, h2⟩; exact ⟨by omega, h2⟩
  · rintro ⟨h1, h2⟩; exact ⟨by omega, h2⟩
theorem deals_len (n m : Int) : (deals n m).length = n.toNat ^ m.toNat := by rw [deals_eq, dealsN_len]
theorem deals_ne {n m : Int} (hn : 0 < n) : deals n m ≠ [] := by
  intro e
  have := deals_len n m
  rw [e] at this
  have h2 : 0 < n.toNat ^ m.toNat := Nat.pow_pos (by omega)
  simp at this
  omega
/-- the steps of the loop -/
theorem deals_step (n : Int) (pre : List Int) (x : Int) : dealsN n (pre ++ [x]).length = (dealsN n pre.length).flatMap fun d => (rng 0 n).map fun p => d ++ [p] := by
  rw [List.length_append, List.length_singleton]
  rfl
theorem deals_step2 (n : Int) (k : Nat) : res2 (fun _ : List Int => true) (fun _ => rng 0 n) (fun _ _ => true) (fun (x : List Int) y => x ++ [y]) (dealsN n k) = dealsN n (k + 1) := by
  unfold res2
  have h : ∀ xs : List Int, xs.filter (fun _ => true) = xs := fun xs => List.filter_eq_self.mpr (fun _ _ => rfl)
  rw [List.filter_eq_self.mpr (fun _ _ => rfl), dealsN]
  simp only [h]
theorem pow_le {n : Int} {k m b : Nat} (hn : 1 ≤ n) (h : k ≤ m) (hb : n.toNat ^ m ≤ b) : n.toNat ^ k ≤ b := Nat.le_trans (Nat.pow_le_pow_right (by omega) h) hb
/-! better deals -/
@[irreducible] def bet (ws : List (List Int)) (deal other : List Int) : Bool := !decide (own ws other = own ws deal) && (((own ws other).zip (own ws deal)).map fun x => decide (x.2 ≤ x.1)).all id
theorem bet_eq (ws : List (List Int)) (deal other : List Int) : bet ws deal other = (!decide (own ws other = own ws deal) && (((own ws other).zip (own ws deal)).map fun x => decide (x.2 ≤ x.1)).all id) := by unfold bet; rfl
theorem zip_all {xs ys : List Int} : xs.length = ys.length → ((xs.zip ys).map fun x => decide (x.2 ≤ x.1)).all id = decide (∀ i : Nat, i < xs.length → ys.getD i default ≤ xs.getD i default) := by
  induction xs generalizing ys with
  | nil => intro h; simp
  | cons x xs ih =>
    intro h
    cases ys with
    | nil => simp at h
    | cons y ys =>
      simp only [List.length_cons, Nat.add_right_cancel_iff] at h
      simp only [List.zip_cons_cons, List.map_cons, List.all_cons, id, ih h]
      rw [Bool.eq_iff_iff, Bool.and_eq_true, decide_eq_true_eq, decide_eq_true_eq, decide_eq_true_eq]
      constructor
      · rintro ⟨h1, h2⟩ i hi
        cases i with
        | zero => simpa using h1
        | succ i => simpa using h2 i (by simpa using hi)
      · intro h
        exact ⟨by simpa using h 0 (by simp), fun i hi => by simpa using h (i + 1) (by simpa using hi)⟩
theorem bet_law (ws : List (List Int)) (deal other : List Int) : (!decide (own ws other = own ws deal) && decide ((rng 0 ws.length).filter (fun i => decide (gI (own ws other) i < gI (own ws deal) i)) = [])) = bet ws deal other := by
  rw [bet_eq, zip_all (by rw [own_len, own_len])]
  congr 1
  rw [Bool.eq_iff_iff, decide_eq_true_eq, decide_eq_true_eq, List.filter_eq_nil_iff, own_len]
  constructor
  · intro h i hi
    have := h i (mem_rng.mpr ⟨by omega, by omega⟩)
    rw [decide_eq_true_eq, gI_nat, gI_nat] at this
    omega
  · intro h i hi
    obtain ⟨h0, h1⟩ := mem_rng.mp hi
    have := h i.toNat (by omega)
    rw [decide_eq_true_eq, gI_nn _ h0, gI_nn _ h0]
    omega
theorem find_filter {α : Type} (p : α → Bool) : ∀ xs : List α, xs.find? p = (xs.filter p).head?
  | [] => rfl
  | x :: xs => by
    by_cases h : p x = true
    · rw [List.find?_cons_of_pos h, List.filter_cons_of_pos h]; rfl
    · rw [List.find?_cons_of_neg h, List.filter_cons_of_neg h]; exact find_filter p xs
@[irreducible] def better (ws : List (List Int)) (deal : List Int) : List (List Int) := (deals ws.length deal.length).filter (bet ws deal)
theorem better_eq (ws : List (List Int)) (deal : List Int) : better ws deal = (deals ws.length deal.length).filter (bet ws deal) := by unfold better; rfl
theorem head_if (t : List (List Int)) : (if (!decide (t = [])) = true then some (gI t 0) else none) = t.head? := by
  cases t with
  | nil => rfl
  | cons x xs => rw [gI_cons0]; simp
theorem better_mem {ws : List (List Int)} {deal d : List Int} (h : d ∈ better ws deal) : d ∈ deals ws.length deal.length := by
  rw [better_eq] at h
  exact (List.mem_filter.mp h).1
theorem head_mem {α : Type} {xs : List α} {x : α} (h : xs.head? = some x) : x ∈ xs := by
  cases xs with
  | nil => cases h
  | cons y ys => cases h; exact List.mem_cons_self ..
theorem gI_app0 {xs : List Int} {y i : Int} (h0 : 0 ≤ i) (h1 : i < xs.length) : gI (xs ++ [y]) i = gI xs i := by
  rw [gI_nn _ h0, gI_nn _ h0, List.getD_eq_getElem?_getD, List.getD_eq_getElem?_getD, List.getElem?_append_left (by omega)]
theorem gI_app1 {xs : List Int} {y i : Int} (h : i = xs.length) : gI (xs ++ [y]) i = y := by
  subst h
  rw [gI_nat, List.getD_eq_getElem?_getD, List.getElem?_append_right (Nat.le_refl _)]
  simp
/-! sums over all people -/
theorem sum_add {α : Type} (f g : α → Int) : ∀ xs : List α, (xs.map fun i => f i + g i).sum = (xs.map f).sum + (xs.map g).sum
  | [] => rfl
  | x :: xs => by
    rw [List.map_cons, List.map_cons, List.map_cons, List.sum_cons, List.sum_cons, List.sum_cons, sum_add f g xs]
    omega
theorem sum_one {f : Int → Int} {p : Int} : ∀ {xs : List Int}, xs.Nodup → p ∈ xs → (xs.map fun i => if p = i then f i else 0).sum = f p
  | [], _, h => by cases h
  | x :: xs, nd, h => by
    rw [List.nodup_cons] at nd
    rw [List.map_cons, List.sum_cons]
    by_cases e : p = x
    · subst e
      rw [if_pos rfl]
      have : (xs.map fun i => if p = i then f i else 0) = xs.map fun _ => 0 := List.map_congr_left fun i hi => if_neg (fun z => nd.1 (by rw [z]; exact hi))
      rw [this]
      have : ∀ ys : List Int, (ys.map fun _ => (0 : Int)).sum = 0 := fun ys => by
        induction ys with
        | nil => rfl
        | cons y ys ih => rw [List.map_cons, List.sum_cons, ih]; rfl
      rw [this]; omega
    · rw [if_neg e, sum_one nd.2 ((List.mem_cons.mp h).resolve_left e)]; omega
theorem sum_lots {n : Int} {d : Int → Int} {f : Int → Int → Int} : ∀ {xs : List Int}, (∀ o ∈ xs, 0 ≤ d o ∧ d o < n) → ((rng 0 n).map fun i => ((xs.filter fun o => decide (d o = i)).map (f i)).sum).sum = (xs.map fun o => f (d o) o).sum
  | [], _ => by
    have : ∀ ys : List Int, (ys.map fun _ => (0 : Int)).sum = 0 := fun ys => by
      induction ys with
      | nil => rfl
      | cons y ys ih => rw [List.map_cons, List.sum_cons, ih]; rfl
    simp [this]
  | x :: xs, h => by
    have ih := sum_lots (n := n) (d := d) (f := f) (xs := xs) fun o ho => h o (List.mem_cons_of_mem _ ho)
    rw [List.map_cons, List.sum_cons, ← ih, ← sum_one (f := fun i => f i x) (rng_nodup 0 n) (mem_rng.mpr (h x (List.mem_cons_self ..))), ← sum_add]
    congr 1
    refine List.map_congr_left fun i _ => ?_
    by_cases e : d x = i
    · rw [List.filter_cons_of_pos (by rw [decide_eq_true_eq]; exact e), if_pos e, List.map_cons, List.sum_cons]
    · rw [List.filter_cons_of_neg (by rw [decide_eq_true_eq]; exact e), if_neg e]; omega
theorem own_sum {ws : List (List Int)} {d : List Int} (h : ∀ p ∈ d, 0 ≤ p ∧ p < ws.length) : (own ws d).sum = ((rng 0 d.length).map fun o => gI (gI ws (gI d o)) o).sum := by
  unfold own val worth lot
  refine sum_lots (d := fun o => gI d o) (f := fun i o => gI (gI ws i) o) fun o ho => ?_
  have := mem_rng.mp ho
  exact h _ (gI_mem ⟨by omega, by omega⟩)
theorem sum_le {α : Type} {f g : α → Int} : ∀ {xs : List α}, (∀ x ∈ xs, f x ≤ g x) → (xs.map f).sum ≤ (xs.map g).sum
  | [], _ => Int.le_refl _
  | x :: xs, h => by
    rw [List.map_cons, List.map_cons, List.sum_cons, List.sum_cons]
    have := sum_le fun y hy => h y (List.mem_cons_of_mem x hy)
    have := h x (List.mem_cons_self ..)
    omega
theorem sum_lt_of : ∀ {xs ys : List Int}, xs.length = ys.length → (∀ i : Nat, i < xs.length → ys.getD i default ≤ xs.getD i default) → xs ≠ ys → ys.sum < xs.sum
  | [], [], _, _, h => absurd rfl h
  | [], _ :: _, h, _, _ => by simp at h
  | _ :: _, [], h, _, _ => by simp at h
  | x :: xs, y :: ys, hl, h, hne => by
    have h0 : y ≤ x := by simpa using h 0 (by simp)
    have ht : ∀ i : Nat, i < xs.length → ys.getD i default ≤ xs.getD i default := fun i hi => by simpa using h (i + 1) (by simpa using hi)
    have hl2 : xs.length = ys.length := by simpa using hl
    rw [List.sum_cons, List.sum_cons]
    by_cases e : xs = ys
    · subst e
      have : x ≠ y := fun z => hne (by rw [z])
      omega
    · have := sum_lt_of hl2 ht e
      omega
/-- each thing to one to whom it is worth most -/
theorem most_good {ws : List (List Int)} {d : List Int} (hd : ∀ p ∈ d, 0 ≤ p ∧ p < ws.length) (hm : ∀ o : Int, 0 ≤ o → o < d.length → ∀ j : Int, 0 ≤ j → j < ws.length → gI (gI ws j) o ≤ gI (gI ws (gI d o)) o) : better ws d = [] := by
  rw [better_eq, List.filter_eq_nil_iff]
  intro e he hb
  obtain ⟨e1, e2⟩ := (deals_mem (by omega)).mp he
  rw [bet_eq, zip_all (by rw [own_len, own_len]), Bool.and_eq_true, Bool.not_eq_true', decide_eq_false_iff_not, decide_eq_true_eq] at hb
  have h1 := sum_lt_of (by rw [own_len, own_len]) hb.2 hb.1
  rw [own_sum hd, own_sum e2, show ((e.length : Int)) = d.length from e1] at h1
  have h2 : ((rng 0 (d.length : Int)).map fun o => gI (gI ws (gI e o)) o).sum ≤ ((rng 0 (d.length : Int)).map fun o => gI (gI ws (gI d o)) o).sum := sum_le fun o ho => by
    have ho := mem_rng.mp ho
    have := e2 (gI e o) (gI_mem ⟨by omega, by omega⟩)
    exact hm o ho.1 ho.2 _ this.1 this.2
  omega
end Th

set_option maxRecDepth 100000
namespace Lh
open PySem PySem.Spec PyProof.Rows L2 TW
/-! in order -/
theorem srt_perm {α : Type} (lt : α → α → Bool) (xs : List α) : (srt lt xs).Perm xs := by rw [srt_eq]; exact List.mergeSort_perm _ _
theorem srt_sorted {α : Type} {lt : α → α → Bool} (o : LtOk lt) (xs : List α) : (srt lt xs).Pairwise fun a b => lt b a = false := by
  rw [srt_eq]
  have h := List.pairwise_mergeSort (le := fun a b => !lt b a) (fun a b c h1 h2 => by
    simp only [Bool.not_eq_true'] at h1 h2 ⊢
    exact o.tr _ _ _ h1 h2) (fun a b => by
    cases h : lt b a with
    | false => rfl
    | true => have := o.asym b a h; simp [this]) xs
  exact h.imp fun h => by simpa using h
theorem gI_repG {α : Type} [Inhabited α] {n i : Int} {e : α} (h0 : 0 ≤ i) (h1 : i < n) : gI (repL [e] n) i = e := by
  have : repL [e] n = (rng 0 n).map fun _ => e := by
    unfold repL rng
    rw [List.map_map]
    apply List.ext_getElem
    · simp
    · intro i h1 h2; simp
  rw [this, gI_mapR _ h0 h1]
theorem repG_len {α : Type} (e : α) (n : Int) : (repL [e] n).length = n.toNat := by simp [repL]
theorem repG_mem {α : Type} {e x : α} {n : Int} (h : x ∈ repL [e] n) : x = e := by
  simp [repL] at h
  exact h.2
end Lh
namespace Th
open PySem PySem.Spec PyProof.Rows L2 TW Lh
@[irreducible] def esp (row : List Int) (n : Int) : List Int := ptake (repL [row] n) row.length
theorem esp_eq (row : List Int) (n : Int) : esp row n = ptake (repL [row] n) row.length := by unfold esp; rfl
theorem esp_len (row : List Int) (n : Int) : (esp row n).length = row.length := by rw [esp_eq, ptake_len]; omega
theorem esp_vals {row : List Int} {n : Int} (hn : 1 ≤ n) : ∀ p ∈ esp row n, 0 ≤ p ∧ p < n := by
  intro p hp
  rw [esp_eq, ptake_eq] at hp
  obtain ⟨x, hx, e⟩ := List.mem_map.mp hp
  have hs := prun_full (repL [row] n) row.length x hx
  obtain ⟨v, rfl⟩ := Option.isSome_iff_exists.mp hs
  unfold prun at hx
  have := gvals (S := fun v => 0 ≤ v ∧ v < n) (fun told k => by
    have := (pwho_lt (ws := repL [row] n) (by rw [repG_len]; omega) told k).1
    rw [repG_len] at this
    omega) _ hx v rfl
  cases e
  exact this
/-- the pairs in order -/
@[irreducible] def ord (row : List Int) : List (Int × Int) := srt pLt ((enum row).map fun x => (-x.2, x.1))
theorem ord_eq (row : List Int) : ord row = srt pLt ((enum row).map fun x => (-x.2, x.1)) := by unfold ord; rfl
theorem ord_perm (row : List Int) : (ord row).Perm ((rng 0 row.length).map fun o => (-gI row o, o)) := by
  rw [ord_eq]
  refine (srt_perm _ _).trans ?_
  rw [enum_eq, List.map_map]
  exact List.Perm.refl _
theorem ord_form {row : List Int} {x : Int × Int} (h : x ∈ ord row) : x.1 = -gI row x.2 ∧ 0 ≤ x.2 ∧ x.2 < row.length := by
  obtain ⟨o, ho, rfl⟩ := List.mem_map.mp ((ord_perm row).mem_iff.mp h)
  exact ⟨rfl, mem_rng.mp ho⟩
theorem ord_snd (row : List Int) : ((ord row).map Prod.snd).Perm (rng 0 row.length) := by
  have := (ord_perm row).map Prod.snd
  rw [List.map_map] at this
  refine this.trans ?_
  show (List.map (fun o => o) _).Perm _
  rw [List.map_id']
theorem ord_len (row : List Int) : (ord row).length = row.length := by
  have := (ord_perm row).length_eq
  rw [List.length_map, rng_len] at this
  omega
/-- the next one in order is the best of those left -/
theorem ord_best {row : List Int} {pre post : List (Int × Int)} {x : Int × Int} (e : ord row = pre ++ x :: post) {left : List Int} (hl : left.Perm (x.2 :: post.map Prod.snd)) (hs : left.Pairwise (· < ·)) : bst row left = x.2 := by
  have hne : left ≠ [] := fun z => by rw [z] at hl; have := hl.length_eq; simp at this
  have hm := mnB_mem pLt (xs := left.map fun t => (-gI row t, t)) (by simpa using hne)
  obtain ⟨q, hq, eq⟩ := List.mem_map.mp hm
  rw [← best_eq hs hne, ← eq]
  have hso : (ord row).Pairwise fun a b => pLt b a = false := by rw [ord_eq]; exact srt_sorted pLt_ok _
  rw [e, List.pairwise_append] at hso
  have hx := ord_form (row := row) (x := x) (by rw [e]; simp)
  have h1 : pLt (-gI row x.2, x.2) (-gI row q, q) = false := by
    rw [eq]
    exact mnB_le pLt_ok (List.mem_map.mpr ⟨x.2, hl.mem_iff.mpr (List.mem_cons_self ..), rfl⟩)
  have h2 : q = x.2 ∨ pLt (-gI row q, q) x = false := by
    rcases List.mem_cons.mp (hl.mem_iff.mp hq) with h | h
    · exact .inl h
    · obtain ⟨y, hy, ey⟩ := List.mem_map.mp h
      have hf := ord_form (row := row) (x := y) (by rw [e]; simp [hy])
      have := (List.pairwise_cons.mp hso.2.1).1 y hy
      refine .inr ?_
      have e2 : y = (-gI row q, q) := by rw [← ey, ← hf.1]
      rw [← e2]; exact this
  show q = x.2
  rcases h2 with h | h
  · exact h
  · rw [pLt_no] at h1 h
    dsimp only at h1 h
    omega
/-- all rows alike: free but for any -/
theorem esp_even {row : List Int} {n : Int} (hn : 1 ≤ n) (hp : ∀ x ∈ row, 0 ≤ x) : ∀ i j : Int, 0 ≤ i → i < n → 0 ≤ j → j < n → ∀ o ∈ lot (esp row n) i, worth row (lot (esp row n) i) - gI row o ≤ worth row (lot (esp row n) j) := by
  intro i j i0 i1 j0 j1 o ho
  have hlen := repG_len row n
  have he := ptake_even (ws := repL [row] n) (m := row.length) (by omega) (by omega) (fun i i0 i1 o o0 o1 => by
    rw [gI_repG i0 (by omega)]
    exact hp _ (gI_mem ⟨by omega, by omega⟩))
  rw [← esp_eq, evn_eq, decide_eq_true_eq] at he
  have h1 := he i (mem_rng.mpr ⟨i0, by omega⟩) o ho
  have h2 : worth row (lot (esp row n) j) ∈ own (repL [row] n) (esp row n) := by
    rw [own_eq]
    refine List.mem_map.mpr ⟨j, mem_rng.mpr ⟨j0, by omega⟩, ?_⟩
    rw [gI_repG j0 j1]
  have h3 := mnI_le' h2
  rw [val_eq, gI_repG i0 i1] at h1
  omega
theorem esp_freeA {row : List Int} {n : Int} (hn : 1 ≤ n) (hp : ∀ x ∈ row, 0 ≤ x) : freeA (repL [row] n) (esp row n) = true := by
  rw [freeA_eq, decide_eq_true_eq]
  rintro ⟨i, j⟩ hq
  obtain ⟨h1, h2, h3⟩ := env_mem.mp hq
  dsimp only at h1 h2 h3
  have hlen := repG_len row n
  rw [butA_iff]
  dsimp only
  rw [val_eq, val_eq, gI_repG h1.1 (by omega)] at h3
  rw [gI_repG h1.1 (by omega)]
  by_cases hne : lot (esp row n) j = []
  · rw [hne] at h3 ⊢
    have h0 : worth row [] = 0 := by rw [worth_eq]; rfl
    have h4 : 0 ≤ worth row (lot (esp row n) i) := by
      rw [worth_eq]
      refine sum_nonneg fun x hx => ?_
      obtain ⟨o, ho, rfl⟩ := List.mem_map.mp hx
      have := (lot_mem.mp ho).1
      rw [esp_len] at this
      exact hp _ (gI_mem ⟨by omega, by omega⟩)
    omega
  · obtain ⟨o, ho, eo⟩ := List.mem_map.mp (mnI_mem (xs := (lot (esp row n) j).map fun o => gI row o) (by simpa using hne))
    rw [← eo]
    exact esp_even hn hp j i h2.1 (by omega) h1.1 (by omega) o ho
/-! cut and choice -/
def turned (s : List Int) : List Int := s.map fun p => 1 - p
theorem turned_len (s : List Int) : (turned s).length = s.length := by unfold turned; rw [List.length_map]
theorem lot_turned (s : List Int) (p : Int) : lot (turned s) p = lot s (1 - p) := by
  unfold lot
  rw [turned_len]
  refine List.filter_congr fun o ho => ?_
  have := mem_rng.mp ho
  unfold turned
  rw [gI_map _ ⟨by omega, by omega⟩, Bool.eq_iff_iff, decide_eq_true_eq, decide_eq_true_eq]
  omega
@[irreducible] def cac (ws : List (List Int)) : List Int := if worth (gI ws 1) (lot (esp (gI ws 0) 2) 1) < worth (gI ws 1) (lot (esp (gI ws 0) 2) 0) then turned (esp (gI ws 0) 2) else esp (gI ws 0) 2
theorem cac_eq (ws : List (List Int)) : cac ws = if worth (gI ws 1) (lot (esp (gI ws 0) 2) 1) < worth (gI ws 1) (lot (esp (gI ws 0) 2) 0) then (esp (gI ws 0) 2).map (fun p => 1 - p) else esp (gI ws 0) 2 := by unfold cac turned; rfl
theorem cac_len (ws : List (List Int)) : (cac ws).length = (gI ws 0).length := by
  unfold cac
  split
  · rw [turned_len, esp_len]
  · rw [esp_len]
theorem cac_ok {ws : List (List Int)} (hl : ws.length = 2) (hp : ∀ x ∈ gI ws 0, 0 ≤ x) : (∀ i j : Int, 0 ≤ i → i < 2 → 0 ≤ j → j < 2 → ∀ o ∈ lot (cac ws) i, worth (gI ws 0) (lot (cac ws) i) - gI (gI ws 0) o ≤ worth (gI ws 0) (lot (cac ws) j)) ∧ worth (gI ws 1) (lot (cac ws) 0) ≤ worth (gI ws 1) (lot (cac ws) 1) := by
  have he := esp_even (row := gI ws 0) (n := 2) (by omega) hp
  unfold cac
  by_cases c : worth (gI ws 1) (lot (esp (gI ws 0) 2) 1) < worth (gI ws 1) (lot (esp (gI ws 0) 2) 0)
  · rw [if_pos c, lot_turned, lot_turned]
    refine ⟨fun i j i0 i1 j0 j1 o ho => ?_, by simpa using Int.le_of_lt c⟩
    rw [lot_turned] at ho
    rw [lot_turned, lot_turned]
    exact he (1 - i) (1 - j) (by omega) (by omega) (by omega) (by omega) o ho
  · rw [if_neg c]
    exact ⟨he, by omega⟩
theorem cac_free {ws : List (List Int)} (hl : ws.length = 2) (ok : Ok ws (cac ws)) : freeA ws (cac ws) = true ∧ ∀ q ∈ env ws (cac ws), q.1 ≠ 1 := by
  obtain ⟨h1, h2⟩ := cac_ok hl (ok.p _ (ok.row (i := 0) (by omega) (by omega)))
  have key : ∀ q ∈ env ws (cac ws), q.1 = 0 ∧ q.2 = 1 := fun q hq => by
    obtain ⟨a, b, c⟩ := env_mem.mp hq
    rw [val_eq, val_eq] at c
    have hc1 : q.1 = 0 ∨ q.1 = 1 := by omega
    have hc2 : q.2 = 0 ∨ q.2 = 1 := by omega
    rcases hc1 with e1 | e1 <;> rcases hc2 with e2 | e2 <;> rw [e1, e2] at c <;> first | omega | exact ⟨e1, e2⟩
  refine ⟨?_, fun q hq => by rw [(key q hq).1]; decide⟩
  rw [freeA_eq, decide_eq_true_eq]
  rintro ⟨i, j⟩ hq
  have hne := ok.lne hq
  obtain ⟨e1, e2⟩ := key _ hq
  dsimp only at e1 e2 hne
  subst e1 e2
  rw [butA_iff]
  dsimp only
  obtain ⟨o, ho, eo⟩ := List.mem_map.mp (mnI_mem (xs := (lot (cac ws) 1).map fun o => gI (gI ws 0) o) (by simpa using hne))
  rw [← eo]
  exact h1 1 0 (by omega) (by omega) (by omega) (by omega) o ho
end Th

set_option maxRecDepth 100000
namespace Th
open PySem PySem.Spec PyProof.Rows L2 TW Lh
/-! products -/
def prd : List Int → Int
  | [] => 1
  | x :: xs => x * prd xs
theorem prd_perm {xs ys : List Int} (h : xs.Perm ys) : prd xs = prd ys := by
  induction h with
  | nil => rfl
  | cons x _ ih => simp only [prd, ih]
  | swap x y l => simp only [prd]; rw [← Int.mul_assoc, ← Int.mul_assoc, Int.mul_comm y x]
  | trans _ _ h1 h2 => rw [h1, h2]
def pp (x : Int) : Int := if 0 < x then x else 1
def pc (x : Int) : Int := if 0 < x then 1 else 0
theorem pp_pos (x : Int) : 1 ≤ pp x := by unfold pp; split <;> omega
theorem prd_pos : ∀ xs : List Int, 1 ≤ prd (xs.map pp)
  | [] => Int.le_refl _
  | x :: xs => by
    rw [List.map_cons, prd]
    have h1 := pp_pos x
    have h2 := prd_pos xs
    have : 1 * 1 ≤ pp x * prd (xs.map pp) := Int.mul_le_mul h1 h2 (by omega) (by omega)
    omega
@[irreducible] def kc (xs : List Int) : Int := (xs.map pc).sum
@[irreducible] def kp (xs : List Int) : Int := prd (xs.map pp)
theorem kc_eq (xs : List Int) : kc xs = (xs.map pc).sum := by unfold kc; rfl
theorem kp_eq (xs : List Int) : kp xs = prd (xs.map pp) := by unfold kp; rfl
theorem kc_len : ∀ xs : List Int, kc xs = (xs.filter fun x => decide (0 < x)).length
  | [] => by rw [kc_eq]; rfl
  | x :: xs => by
    rw [kc_eq, List.map_cons, List.sum_cons, ← kc_eq, kc_len xs]
    unfold pc
    by_cases h : 0 < x
    · rw [if_pos h, List.filter_cons_of_pos (by rw [decide_eq_true_eq]; exact h), List.length_cons]; omega
    · rw [if_neg h, List.filter_cons_of_neg (by rw [decide_eq_true_eq]; exact h)]; omega
theorem prd_app : ∀ (xs : List Int) (x : Int), prd (xs ++ [x]) = prd xs * x
  | [], x => by simp [prd]
  | y :: ys, x => by rw [List.cons_append, prd, prd, prd_app ys x, Int.mul_assoc]
theorem kc_snoc (xs : List Int) (x : Int) : kc (xs ++ [x]) = kc xs + pc x := by rw [kc_eq, kc_eq, List.map_append, List.sum_append]; simp
theorem kp_snoc (xs : List Int) (x : Int) : kp (xs ++ [x]) = kp xs * pp x := by rw [kp_eq, kp_eq, List.map_append]; exact prd_app _ _
def key (xs : List Int) : Int × Int := (kc xs, kp xs)
/-- as good for all and better for one: a greater key -/
theorem key_lt : ∀ {xs ys : List Int}, xs.length = ys.length → (∀ i : Nat, i < xs.length → xs.getD i default ≤ ys.getD i default) → (kc xs ≤ kc ys ∧ kp xs ≤ kp ys) ∧ (xs ≠ ys → (∀ x ∈ xs, 0 ≤ x) → kc xs < kc ys ∨ kp xs < kp ys)
  | [], [], _, _ => ⟨⟨Int.le_refl _, Int.le_refl _⟩, fun h => absurd rfl h⟩
  | [], _ :: _, h, _ => by simp at h
  | _ :: _, [], h, _ => by simp at h
  | x :: xs, y :: ys, hl, h => by
    have h0 : x ≤ y := by simpa using h 0 (by simp)
    obtain ⟨⟨i1, i2⟩, i3⟩ := key_lt (xs := xs) (ys := ys) (by simpa using hl) fun i hi => by simpa using h (i + 1) (by simpa using hi)
    simp only [kc_eq, kp_eq, List.map_cons, List.sum_cons, prd] at i1 i2 i3 ⊢
    have c0 : pc x ≤ pc y := by unfold pc; split <;> split <;> omega
    have p0 : pp x ≤ pp y := by unfold pp; split <;> split <;> omega
    have q1 := pp_pos x
    have q2 := prd_pos xs
    have q3 := prd_pos ys
    have m1 : pp x * prd (xs.map pp) ≤ pp y * prd (ys.map pp) := Int.mul_le_mul p0 i2 (by omega) (by omega)
    refine ⟨⟨by omega, m1⟩, fun hne hp => ?_⟩
    by_cases e : xs = ys
    · subst e
      have hxy : x < y := by
        have : x ≠ y := fun z => hne (by rw [z])
        omega
      have hx := hp x (List.mem_cons_self ..)
      by_cases hx0 : x = 0
      · left; subst hx0; unfold pc; rw [if_neg (by omega), if_pos hxy]; omega
      · right
        have : pp x < pp y := by unfold pp; rw [if_pos (by omega), if_pos (by omega)]; exact hxy
        exact Int.mul_lt_mul_of_pos_right this (by omega)
    · rcases i3 e fun z hz => hp z (List.mem_cons_of_mem _ hz) with g | g
      · left; omega
      · right
        have a1 : pp x * prd (xs.map pp) < pp x * prd (ys.map pp) := Int.mul_lt_mul_of_pos_left g (by omega)
        have a2 : pp x * prd (ys.map pp) ≤ pp y * prd (ys.map pp) := Int.mul_le_mul_of_nonneg_right p0 (by omega)
        omega
/-! counting -/
def cle (v : Int) (xs : List Int) : Int := (xs.map fun x => if x ≤ v then 1 else 0).sum
theorem sum_perm {xs ys : List Int} (h : xs.Perm ys) : xs.sum = ys.sum := by
  induction h with
  | nil => rfl
  | cons x _ ih => rw [List.sum_cons, List.sum_cons, ih]
  | swap x y l => simp only [List.sum_cons]; omega
  | trans _ _ h1 h2 => rw [h1, h2]
theorem cle_perm {v : Int} {xs ys : List Int} (h : xs.Perm ys) : cle v xs = cle v ys := sum_perm (h.map _)
theorem cle_nn (v : Int) (xs : List Int) : 0 ≤ cle v xs := by
  unfold cle
  refine sum_nonneg fun x hx => ?_
  obtain ⟨_, _, e⟩ := List.mem_map.mp hx
  rw [← e]; split <;> omega
theorem cle_zero {v : Int} : ∀ {xs : List Int}, (∀ x ∈ xs, v < x) → cle v xs = 0
  | [], _ => rfl
  | x :: xs, h => by
    have := cle_zero (v := v) (xs := xs) fun y hy => h y (List.mem_cons_of_mem _ hy)
    have h1 := h x (List.mem_cons_self ..)
    unfold cle at this ⊢
    rw [List.map_cons, List.sum_cons, this, if_neg (by omega)]; rfl
theorem cle_cons (v x : Int) (xs : List Int) : cle v (x :: xs) = (if x ≤ v then 1 else 0) + cle v xs := by unfold cle; rw [List.map_cons, List.sum_cons]
def ltI : Int → Int → Bool := fun a b => decide (a < b)
/-- the first of two rows in order is less -/
theorem lex_cnt : ∀ {xs ys : List Int} {a : Int}, xs.length = ys.length → xs.Pairwise (· ≤ ·) → ys.Pairwise (· ≤ ·) → (∀ v, v ≤ a → cle v ys ≤ cle v xs) → cle a ys < cle a xs → lxLt ltI xs ys = true
  | [], [], a, _, _, _, _, h => absurd h (Int.lt_irrefl _)
  | [], _ :: _, _, h, _, _, _, _ => by simp at h
  | _ :: _, [], _, h, _, _, _, _ => by simp at h
  | x :: xs, y :: ys, a, hl, hx, hy, hv, hs => by
    rw [List.pairwise_cons] at hx hy
    rw [lxLt]
    by_cases e : x = y
    · rw [if_pos e]
      subst e
      refine lex_cnt (a := a) (by simpa using hl) hx.2 hy.2 (fun v h => ?_) ?_
      · have := hv v h
        rw [cle_cons, cle_cons] at this
        omega
      · rw [cle_cons, cle_cons] at hs
        omega
    · rw [if_neg e]
      unfold ltI
      rw [decide_eq_true_eq]
      by_cases hlt : x < y
      · exact hlt
      · exfalso
        have hyx : y < x := by omega
        have z : ∀ v, v < x → cle v (x :: xs) = 0 := fun v h => cle_zero fun q hq => by
          rcases List.mem_cons.mp hq with rfl | g
          · exact h
          · have := hx.1 q g; omega
        by_cases hya : y ≤ a
        · have h1 := hv y hya
          rw [z y hyx, cle_cons, if_pos (Int.le_refl y)] at h1
          have := cle_nn y ys
          omega
        · rw [z a (by omega)] at hs
          have := cle_nn a (y :: ys)
          omega
theorem ltI_ok : LtOk ltI := ⟨fun a b h => by unfold ltI at h ⊢; rw [decide_eq_true_eq] at h; rw [decide_eq_false_iff_not]; omega, fun a b c h1 h2 => by unfold ltI at *; rw [decide_eq_false_iff_not] at *; omega⟩
theorem srt_le (xs : List Int) : (srt ltI xs).Pairwise (· ≤ ·) := (srt_sorted ltI_ok xs).imp fun h => by unfold ltI at h; rw [decide_eq_false_iff_not] at h; omega
theorem srt_len {α : Type} (lt : α → α → Bool) (xs : List α) : (srt lt xs).length = xs.length := (srt_perm lt xs).length_eq
theorem lex_srt {xs ys : List Int} {a : Int} (hl : xs.length = ys.length) (hv : ∀ v, v ≤ a → cle v ys ≤ cle v xs) (hs : cle a ys < cle a xs) : lxLt ltI (srt ltI xs) (srt ltI ys) = true := by
  refine lex_cnt (a := a) (by rw [srt_len, srt_len]; exact hl) (srt_le _) (srt_le _) (fun v h => ?_) ?_
  · rw [cle_perm (srt_perm ltI xs), cle_perm (srt_perm ltI ys)]; exact hv v h
  · rw [cle_perm (srt_perm ltI xs), cle_perm (srt_perm ltI ys)]; exact hs
theorem dom_cnt : ∀ {xs ys : List Int}, xs.length = ys.length → (∀ i : Nat, i < xs.length → xs.getD i default ≤ ys.getD i default) → (∀ v, cle v ys ≤ cle v xs) ∧ (xs ≠ ys → ∃ a, cle a ys < cle a xs)
  | [], [], _, _ => ⟨fun v => Int.le_refl _, fun h => absurd rfl h⟩
  | [], _ :: _, h, _ => by simp at h
  | _ :: _, [], h, _ => by simp at h
  | x :: xs, y :: ys, hl, h => by
    have h0 : x ≤ y := by simpa using h 0 (by simp)
    obtain ⟨i1, i2⟩ := dom_cnt (xs := xs) (ys := ys) (by simpa using hl) fun i hi => by simpa using h (i + 1) (by simpa using hi)
    have hv : ∀ v, cle v (y :: ys) ≤ cle v (x :: xs) := fun v => by
      have := i1 v
      rw [cle_cons, cle_cons]
      split <;> split <;> omega
    refine ⟨hv, fun hne => ?_⟩
    by_cases e : xs = ys
    · subst e
      have : x ≠ y := fun z => hne (by rw [z])
      refine ⟨x, ?_⟩
      rw [cle_cons, cle_cons, if_neg (by omega), if_pos (Int.le_refl _)]
      omega
    · obtain ⟨a, ha⟩ := i2 e
      refine ⟨a, ?_⟩
      rw [cle_cons, cle_cons]
      split <;> split <;> omega
/-! one thing goes to another one -/
theorem two_perm {n i j : Int} (hi : 0 ≤ i ∧ i < n) (hj : 0 ≤ j ∧ j < n) (hij : i ≠ j) : (rng 0 n).Perm (i :: j :: ((rng 0 n).erase i).erase j) := by
  have h1 : i ∈ rng 0 n := mem_rng.mpr hi
  refine (List.perm_cons_erase h1).trans (List.Perm.cons i (List.perm_cons_erase ?_))
  exact (List.Nodup.mem_erase_iff (rng_nodup 0 n)).mpr ⟨fun z => hij z.symm, mem_rng.mpr hj⟩
theorem two_rest {n i j k : Int} (h : k ∈ ((rng 0 n).erase i).erase j) : k ≠ i ∧ k ≠ j := by
  have nd := rng_nodup 0 n
  have nd2 : ((rng 0 n).erase i).Nodup := nd.erase _
  have h2 := (List.Nodup.mem_erase_iff nd2).mp h
  have h3 := (List.Nodup.mem_erase_iff nd).mp h2.2
  exact ⟨h3.1, h2.1⟩
theorem worth_move {d : List Int} {o i k : Int} {row : List Int} (ho : 0 ≤ o ∧ o < d.length) : worth row (lot (setI d o i) k) = worth row (lot d k) + (if i = k then gI row o else 0) - (if gI d o = k then gI row o else 0) := by
  rw [worth_eq, worth_eq]
  unfold lot
  rw [setI_len]
  have h1 := sum_upd (f := fun o => gI row o) (p := fun x => decide (x ≠ o) && decide (gI d x = k)) (p' := fun x => decide (gI d x = k)) (o := o) (by simp) (rng_nodup 0 d.length) (mem_rng.mpr ho) (fun y hy _ => by simp [hy])
  have h2 := sum_upd (f := fun o => gI row o) (p := fun x => decide (x ≠ o) && decide (gI d x = k)) (p' := fun x => decide (gI (setI d o i) x = k)) (o := o) (by simp) (rng_nodup 0 d.length) (mem_rng.mpr ho) (fun y hy hm => by
    rw [gI_set_ne ho.1 (mem_rng.mp hm).1 (fun z => hy z.symm)]
    simp [hy])
  rw [h1, h2, gI_set_eq ho.1 ho.2]
  simp only [decide_eq_true_eq]
  omega
section
variable {ws : List (List Int)} {d : List Int} {o i j : Int}
theorem own_move (ho : o ∈ lot d j) (hij : i ≠ j) : val ws (setI d o i) i i = val ws d i i + gI (gI ws i) o ∧ val ws (setI d o i) j j = val ws d j j - gI (gI ws j) o ∧ ∀ k, k ≠ i → k ≠ j → val ws (setI d o i) k k = val ws d k k := by
  obtain ⟨h1, h2⟩ := lot_mem.mp ho
  simp only [val_eq, worth_move h1, h2]
  refine ⟨?_, ?_, fun k ki kj => ?_⟩
  · rw [if_pos trivial, if_neg (fun z => hij z.symm)]; omega
  · rw [if_neg hij, if_pos trivial]; omega
  · rw [if_neg (fun z => ki z.symm), if_neg (fun z => kj z.symm)]; omega
theorem own_sumf (f : Int → Int) (ws : List (List Int)) (d : List Int) : ((own ws d).map f).sum = ((rng 0 ws.length).map fun k => f (val ws d k k)).sum := by
  unfold own
  rw [List.map_map]
  rfl
theorem move_sum (f : Int → Int) (hi : 0 ≤ i ∧ i < ws.length) (hj : 0 ≤ j ∧ j < ws.length) (ho : o ∈ lot d j) (hij : i ≠ j) : ((own ws (setI d o i)).map f).sum = ((own ws d).map f).sum + (f (val ws d i i + gI (gI ws i) o) - f (val ws d i i)) + (f (val ws d j j - gI (gI ws j) o) - f (val ws d j j)) := by
  obtain ⟨e1, e2, e3⟩ := own_move (ws := ws) ho hij
  have hp := two_perm hi hj hij
  rw [own_sumf, own_sumf, sum_perm (hp.map _), sum_perm (hp.map fun k => f (val ws d k k))]
  simp only [List.map_cons, List.sum_cons, e1, e2]
  have : (((rng 0 (ws.length : Int)).erase i).erase j).map (fun k => f (val ws (setI d o i) k k)) = (((rng 0 (ws.length : Int)).erase i).erase j).map fun k => f (val ws d k k) := List.map_congr_left fun k hk => by
    obtain ⟨a, b⟩ := two_rest hk
    rw [e3 k a b]
  rw [this]
  omega
theorem move_prd (hi : 0 ≤ i ∧ i < ws.length) (hj : 0 ≤ j ∧ j < ws.length) (ho : o ∈ lot d j) (hij : i ≠ j) : ∃ r, 1 ≤ r ∧ kp (own ws d) = pp (val ws d i i) * (pp (val ws d j j) * r) ∧ kp (own ws (setI d o i)) = pp (val ws d i i + gI (gI ws i) o) * (pp (val ws d j j - gI (gI ws j) o) * r) := by
  obtain ⟨e1, e2, e3⟩ := own_move (ws := ws) ho hij
  have hp := two_perm hi hj hij
  have hk : ∀ e, kp (own ws e) = prd ((rng 0 ws.length).map fun k => pp (val ws e k k)) := fun e => by
    rw [kp_eq]
    unfold own
    rw [List.map_map]
    rfl
  have hpos : ∀ xs : List Int, 1 ≤ prd (xs.map fun k => pp (val ws d k k)) := fun xs => by
    have := prd_pos (xs.map fun k => val ws d k k)
    rw [List.map_map] at this
    exact this
  refine ⟨prd ((((rng 0 (ws.length : Int)).erase i).erase j).map fun k => pp (val ws d k k)), hpos _, ?_, ?_⟩
  · rw [hk, prd_perm (hp.map fun k => pp (val ws d k k))]
    rfl
  · rw [hk, prd_perm (hp.map fun k => pp (val ws (setI d o i) k k))]
    simp only [List.map_cons, prd, e1, e2]
    have : (((rng 0 (ws.length : Int)).erase i).erase j).map (fun k => pp (val ws (setI d o i) k k)) = (((rng 0 (ws.length : Int)).erase i).erase j).map fun k => pp (val ws d k k) := List.map_congr_left fun k hk => by
      obtain ⟨a, b⟩ := two_rest hk
      rw [e3 k a b]
    rw [this]
end
/-! the first of the greatest -/
section
variable {κ : Type} [Inhabited κ] {lt : κ → κ → Bool} {ky : List Int → κ}
def fst1 (lt : κ → κ → Bool) (ky : List Int → κ) (t : Option κ × Option (List Int)) (x : List Int) : Option κ × Option (List Int) := if (t.1.isNone || lt (t.1.getD default) (ky x)) = true then (some (ky x), some x) else t
@[irreducible] def fsel (lt : κ → κ → Bool) (ky : List Int → κ) (ds : List (List Int)) : Option κ × Option (List Int) := ds.foldl (fst1 lt ky) (none, none)
theorem fsel_nil : fsel lt ky [] = (none, none) := by unfold fsel; rfl
theorem fsel_snoc (ds : List (List Int)) (x : List Int) : fsel lt ky (ds ++ [x]) = fst1 lt ky (fsel lt ky ds) x := by unfold fsel; rw [List.foldl_append]; rfl
theorem fsel_inv (o : LtOk lt) (ds : List (List Int)) : (ds = [] ∧ fsel lt ky ds = (none, none)) ∨ ∃ d ∈ ds, fsel lt ky ds = (some (ky d), some d) ∧ ∀ e ∈ ds, lt (ky d) (ky e) = false := by
  induction ds using snoc_ind with
  | nil => exact .inl ⟨rfl, fsel_nil⟩
  | snoc ds x ih =>
    right
    rw [fsel_snoc]
    rcases ih with ⟨h1, h2⟩ | ⟨d, h1, h2, h3⟩
    · rw [h2, h1]
      exact ⟨x, by simp, by simp [fst1], fun e he => by simp at he; subst he; exact o.irr _⟩
    · rw [h2]
      unfold fst1
      by_cases c : lt (ky d) (ky x) = true
      · refine ⟨x, by simp, by simp [c], fun e he => ?_⟩
        rcases List.mem_append.mp he with g | g
        · exact o.tr (ky e) (ky d) (ky x) (h3 e g) (o.asym _ _ c)
        · rw [List.mem_singleton] at g; subst g; exact o.irr _
      · refine ⟨d, by simp [h1], by simp [c], fun e he => ?_⟩
        rcases List.mem_append.mp he with g | g
        · exact h3 e g
        · rw [List.mem_singleton] at g; subst g; simpa using c
end
theorem ratio_min (f g : Int → Int) : ∀ {xs : List Int}, xs ≠ [] → (∀ x ∈ xs, 0 < f x) → ∃ o ∈ xs, ∀ x ∈ xs, g o * f x ≤ g x * f o
  | [], h, _ => absurd rfl h
  | [x], _, _ => ⟨x, by simp, fun y hy => by simp at hy; subst hy; exact Int.le_refl _⟩
  | x :: y :: ys, _, hf => by
    obtain ⟨o, ho, h⟩ := ratio_min f g (xs := y :: ys) (by simp) fun z hz => hf z (List.mem_cons_of_mem _ hz)
    have fx := hf x (List.mem_cons_self ..)
    have fo := hf o (List.mem_cons_of_mem _ ho)
    by_cases c : g x * f o < g o * f x
    · refine ⟨x, List.mem_cons_self .., fun z hz => ?_⟩
      rcases List.mem_cons.mp hz with rfl | hz
      · exact Int.le_refl _
      · have fz := hf z (List.mem_cons_of_mem _ hz)
        have a1 : g x * f o * f z ≤ g o * f x * f z := Int.mul_le_mul_of_nonneg_right (by omega) (by omega)
        have a2 : g o * f z * f x ≤ g z * f o * f x := Int.mul_le_mul_of_nonneg_right (h z hz) (by omega)
        have e1 : g x * f z * f o = g x * f o * f z := by rw [Int.mul_assoc, Int.mul_comm (f z), ← Int.mul_assoc]
        have e2 : g z * f x * f o = g z * f o * f x := by rw [Int.mul_assoc, Int.mul_comm (f x), ← Int.mul_assoc]
        have e3 : g o * f z * f x = g o * f x * f z := by rw [Int.mul_assoc, Int.mul_comm (f z), ← Int.mul_assoc]
        have : g x * f z * f o ≤ g z * f x * f o := by rw [e1, e2]; omega
        exact Int.le_of_mul_le_mul_right this fo
    · refine ⟨o, List.mem_cons_of_mem _ ho, fun z hz => ?_⟩
      rcases List.mem_cons.mp hz with rfl | hz
      · omega
      · exact h z hz
theorem sum_mul (f : Int → Int) (c : Int) : ∀ xs : List Int, (xs.map f).sum * c = (xs.map fun x => f x * c).sum
  | [] => by simp
  | x :: xs => by rw [List.map_cons, List.sum_cons, List.map_cons, List.sum_cons, Int.add_mul, sum_mul f c xs]
theorem setI_deal {n m : Int} {d : List Int} {o i : Int} (hm : 0 ≤ m) (hd : d ∈ deals n m) (hi : 0 ≤ i ∧ i < n) : setI d o i ∈ deals n m := by
  obtain ⟨h1, h2⟩ := (deals_mem hm).mp hd
  refine (deals_mem hm).mpr ⟨by rw [setI_len]; exact h1, fun p hp => ?_⟩
  unfold setI at hp
  rcases List.mem_or_eq_of_mem_set hp with h | h
  · exact h2 p h
  · subst h; exact hi
/-- the greatest product is free but for one -/
theorem nash_free {ws : List (List Int)} {d : List Int} (ok : Ok ws d) (hd : d ∈ deals ws.length d.length) (hb : ∀ e ∈ deals ws.length d.length, pLt (key (own ws d)) (key (own ws e)) = false) : free1 ws d = true := by
  rw [free1_eq, decide_eq_true_eq]
  rintro ⟨i, j⟩ hq
  refine Classical.byContradiction fun hn => ?_
  obtain ⟨hi, hj, hS⟩ := env_mem.mp hq
  have hne := ok.lne hq
  dsimp only at hi hj hS hne
  have hij : i ≠ j := fun z => by subst z; omega
  have hw : ∀ x ∈ lot d j, 0 ≤ gI (gI ws i) x ∧ 0 ≤ gI (gI ws j) x := fun x hx => ⟨ok.pos hi.1 hi.2 hx, ok.pos hj.1 hj.2 hx⟩
  have hone : ∀ o ∈ lot d j, val ws d i i < val ws d i j - gI (gI ws i) o := fun o ho => by
    unfold but1 at hn
    dsimp only at hn
    have := le_mxI (List.mem_map.mpr ⟨o, ho, rfl⟩ : (fun o => gI (gI ws i) o) o ∈ (lot d j).map fun o => gI (gI ws i) o)
    dsimp only at this
    omega
  have hA0 := ok.valpos i hi.1 hi.2
  have hB0 := ok.valpos j hj.1 hj.2
  have hfne : (lot d j).filter (fun o => decide (0 < gI (gI ws i) o)) ≠ [] := fun z => by
    have hz : val ws d i j ≤ 0 := by
      rw [val_eq, worth_eq]
      have : (lot d j).map (fun o => gI (gI ws i) o) = (lot d j).map fun _ => (0 : Int) := List.map_congr_left fun x hx => by
        have h1 := List.filter_eq_nil_iff.mp z x hx
        rw [decide_eq_true_eq] at h1
        have := (hw x hx).1
        omega
      rw [this]
      have : ∀ ys : List Int, (ys.map fun _ => (0 : Int)).sum = 0 := fun ys => by
        induction ys with
        | nil => rfl
        | cons y ys ih => rw [List.map_cons, List.sum_cons, ih]; rfl
      rw [this]
      exact Int.le_refl _
    omega
  obtain ⟨o, hof, hr⟩ := ratio_min (fun o => gI (gI ws i) o) (fun o => gI (gI ws j) o) hfne fun x hx => by
    have := (List.mem_filter.mp hx).2
    rw [decide_eq_true_eq] at this
    exact this
  have ho := (List.mem_filter.mp hof).1
  have ha := (List.mem_filter.mp hof).2
  rw [decide_eq_true_eq] at ha
  have hsum : gI (gI ws j) o * val ws d i j ≤ gI (gI ws i) o * val ws d j j := by
    rw [Int.mul_comm, Int.mul_comm (gI (gI ws i) o), val_eq, val_eq, worth_eq, worth_eq, sum_mul, sum_mul]
    refine sum_le fun x hx => ?_
    by_cases c : 0 < gI (gI ws i) x
    · have := hr x (List.mem_filter.mpr ⟨hx, by rw [decide_eq_true_eq]; exact c⟩)
      rw [Int.mul_comm] at this
      exact this
    · have h0 : gI (gI ws i) x = 0 := by have := (hw x hx).1; omega
      rw [h0, Int.zero_mul]
      exact Int.mul_nonneg (hw x hx).2 (by omega)
  have h1 := hone o ho
  have hbn := (hw o ho).2
  have hk := hb _ (setI_deal (o := o) (by omega) hd hi)
  have mc := move_sum pc hi hj ho hij
  obtain ⟨r, hr1, hp1, hp2⟩ := move_prd hi hj ho hij
  rw [pLt_no] at hk
  unfold key at hk
  dsimp only at hk
  rw [← kc_eq, ← kc_eq] at mc
  generalize hA : val ws d i i = A at *
  generalize hB : val ws d j j = B at *
  generalize hSS : val ws d i j = S at *
  generalize gI (gI ws i) o = a at *
  generalize gI (gI ws j) o = b at *
  generalize kc (own ws (setI d o i)) = k2 at *
  generalize kp (own ws (setI d o i)) = p2 at *
  generalize kc (own ws d) = k1 at *
  generalize kp (own ws d) = p1 at *
  have hbB : b = 0 ∨ (0 < b ∧ b * (A + a) < a * B) := by
    by_cases c : b = 0
    · exact .inl c
    · right
      have hb0 : 0 < b := by omega
      have : b * (A + a) < b * S := Int.mul_lt_mul_of_pos_left (by omega) hb0
      exact ⟨hb0, by omega⟩
  have pA : pc (A + a) = 1 := by unfold pc; rw [if_pos (by omega)]
  have ppA : pp (A + a) = A + a := by unfold pp; rw [if_pos (by omega)]
  by_cases cA : A = 0
  · subst cA
    have p0 : pc 0 = 0 := by unfold pc; rw [if_neg (by omega)]
    have hpb : pc B ≤ pc (B - b) := by
      rcases hbB with c | ⟨c, c2⟩
      · rw [c, Int.sub_zero]; exact Int.le_refl _
      · rw [Int.zero_add, Int.mul_comm] at c2
        have : b < B := Int.lt_of_mul_lt_mul_left c2 (by omega)
        unfold pc
        rw [if_pos (by omega : 0 < B - b)]
        split <;> omega
    omega
  · have pA2 : pc A = 1 := by unfold pc; rw [if_pos (by omega)]
    have ppA2 : pp A = A := by unfold pp; rw [if_pos (by omega)]
    by_cases cB : B = 0
    · subst cB
      have hb0 : b = 0 := by
        rcases hbB with c | ⟨c, c2⟩
        · exact c
        · have : 0 ≤ b * (A + a) := Int.mul_nonneg (by omega) (by omega)
          rw [Int.mul_zero] at c2; omega
      subst hb0
      rw [Int.sub_zero] at mc hp2
      rw [ppA, pA] at *
      rw [ppA2] at hp1
      have hpp0 : 1 ≤ pp 0 * r := by
        have h1 := pp_pos 0
        have : 1 * 1 ≤ pp 0 * r := Int.mul_le_mul h1 hr1 (by omega) (by omega)
        omega
      have : A * (pp 0 * r) < (A + a) * (pp 0 * r) := Int.mul_lt_mul_of_pos_right (by omega) (by omega)
      omega
    · have hBp : 0 < B := by omega
      have hprod : A * B < (A + a) * (B - b) ∧ 0 < B - b := by
        have e1 : (A + a) * (B - b) = A * B + a * B - b * (A + a) := by rw [Int.mul_sub, Int.add_mul, Int.mul_comm (A + a) b]
        have hAB : 0 < A * B := Int.mul_pos (by omega) hBp
        have haB : 0 < a * B := Int.mul_pos ha hBp
        have h3 : A * B < (A + a) * (B - b) := by
          rw [e1]
          rcases hbB with c | ⟨c, c2⟩
          · subst c; rw [Int.zero_mul]; omega
          · omega
        refine ⟨h3, ?_⟩
        refine Classical.byContradiction fun z => ?_
        have : (A + a) * (B - b) ≤ 0 := Int.mul_nonpos_of_nonneg_of_nonpos (by omega) (by omega)
        omega
      have pB : pc B = 1 := by unfold pc; rw [if_pos hBp]
      have pB2 : pc (B - b) = 1 := by unfold pc; rw [if_pos hprod.2]
      have ppB : pp B = B := by unfold pp; rw [if_pos hBp]
      have ppB2 : pp (B - b) = B - b := by unfold pp; rw [if_pos hprod.2]
      rw [ppA2, ppB, ← Int.mul_assoc] at hp1
      rw [ppA, ppB2, ← Int.mul_assoc] at hp2
      have : A * B * r < (A + a) * (B - b) * r := Int.mul_lt_mul_of_pos_right hprod.1 (by omega)
      omega
/-- the lex deal of alike people is free but for any -/
theorem lex_free {row : List Int} {n : Int} {d : List Int} (ok : Ok (repL [row] n) d) (hp : ∀ x ∈ row, 1 ≤ x) (hd : d ∈ deals n d.length) (hb : ∀ e ∈ deals n d.length, lxLt ltI (srt ltI (own (repL [row] n) d)) (srt ltI (own (repL [row] n) e)) = false) : freeA (repL [row] n) d = true := by
  rw [freeA_eq, decide_eq_true_eq]
  rintro ⟨i, j⟩ hq
  refine Classical.byContradiction fun hn => ?_
  obtain ⟨hi, hj, hS⟩ := env_mem.mp hq
  have hne := ok.lne hq
  have hlen := repG_len row n
  dsimp only at hi hj hS hne
  have hij : i ≠ j := fun z => by subst z; omega
  have ri : gI (repL [row] n) i = row := gI_repG hi.1 (by omega)
  have rj : gI (repL [row] n) j = row := gI_repG hj.1 (by omega)
  have hSB : val (repL [row] n) d i j = val (repL [row] n) d j j := by rw [val_eq, val_eq, ri, rj]
  obtain ⟨o, ho, eo⟩ := List.mem_map.mp (mnI_mem (xs := (lot d j).map fun o => gI (gI (repL [row] n) i) o) (by simpa using hne))
  have ha : 1 ≤ gI row o := by
    have h1 := ok.inb (ok.row hi.1 hi.2) ho
    rw [ri] at h1
    exact hp _ (gI_mem h1)
  have hv : val (repL [row] n) d i i < val (repL [row] n) d j j - gI row o := by
    unfold butA at hn
    dsimp only at hn
    rw [← eo, ri, hSB] at hn
    omega
  have hk := hb _ (setI_deal (o := o) (by omega) hd ⟨hi.1, by omega⟩)
  have hc : ∀ v, cle v (own (repL [row] n) (setI d o i)) = cle v (own (repL [row] n) d) + ((if val (repL [row] n) d i i + gI row o ≤ v then 1 else 0) - (if val (repL [row] n) d i i ≤ v then 1 else 0)) + ((if val (repL [row] n) d j j - gI row o ≤ v then 1 else 0) - (if val (repL [row] n) d j j ≤ v then 1 else 0)) := fun v => by
    have := move_sum (fun x => if x ≤ v then 1 else 0) hi hj ho hij
    rw [ri, rj] at this
    exact this
  have := lex_srt (xs := own (repL [row] n) d) (ys := own (repL [row] n) (setI d o i)) (a := val (repL [row] n) d i i) (by rw [own_len, own_len]) (fun v h => by
    have x1 : ¬ (val (repL [row] n) d i i + gI row o ≤ v) := by omega
    have x3 : ¬ (val (repL [row] n) d j j - gI row o ≤ v) := by omega
    have x4 : ¬ (val (repL [row] n) d j j ≤ v) := by omega
    rw [hc v, if_neg x1, if_neg x3, if_neg x4]
    split <;> omega) (by
    have x1 : ¬ (val (repL [row] n) d i i + gI row o ≤ val (repL [row] n) d i i) := by omega
    have x3 : ¬ (val (repL [row] n) d j j - gI row o ≤ val (repL [row] n) d i i) := by omega
    have x4 : ¬ (val (repL [row] n) d j j ≤ val (repL [row] n) d i i) := by omega
    rw [hc, if_neg x1, if_neg x3, if_neg x4, if_pos (Int.le_refl _)]
    omega)
  rw [this] at hk
  cases hk
theorem own_nn {ws : List (List Int)} {d : List Int} (ok : Ok ws d) : ∀ x ∈ own ws d, 0 ≤ x := fun x hx => by
  unfold own at hx
  obtain ⟨i, hi, rfl⟩ := List.mem_map.mp hx
  have := mem_rng.mp hi
  exact ok.valpos i this.1 this.2
theorem bet_iff {ws : List (List Int)} {d e : List Int} (h : bet ws d e = true) : own ws d ≠ own ws e ∧ ∀ i : Nat, i < (own ws d).length → (own ws d).getD i default ≤ (own ws e).getD i default := by
  rw [bet_eq, zip_all (by rw [own_len, own_len]), Bool.and_eq_true, Bool.not_eq_true', decide_eq_false_iff_not, decide_eq_true_eq] at h
  refine ⟨fun z => h.1 z.symm, fun i hi => h.2 i ?_⟩
  rw [own_len] at hi ⊢
  exact hi
theorem nash_good {ws : List (List Int)} {d : List Int} (ok : Ok ws d) (hb : ∀ e ∈ deals ws.length d.length, pLt (key (own ws d)) (key (own ws e)) = false) : better ws d = [] := by
  rw [better_eq, List.filter_eq_nil_iff]
  intro e he h
  obtain ⟨h1, h2⟩ := bet_iff h
  obtain ⟨⟨k1, k2⟩, k3⟩ := key_lt (by rw [own_len, own_len]) h2
  have := hb e he
  rw [pLt_no] at this
  unfold key at this
  dsimp only at this
  rcases k3 h1 (own_nn ok) with g | g <;> omega
theorem lex_good {ws : List (List Int)} {d : List Int} (hb : ∀ e ∈ deals ws.length d.length, lxLt ltI (srt ltI (own ws d)) (srt ltI (own ws e)) = false) : better ws d = [] := by
  rw [better_eq, List.filter_eq_nil_iff]
  intro e he h
  obtain ⟨h1, h2⟩ := bet_iff h
  obtain ⟨c1, c2⟩ := dom_cnt (by rw [own_len, own_len]) h2
  obtain ⟨a, ha⟩ := c2 h1
  have := lex_srt (xs := own ws d) (ys := own ws e) (a := a) (by rw [own_len, own_len]) (fun v _ => c1 v) ha
  rw [hb e he] at this
  cases this
/-- the order of rows -/
theorem lx_asym : ∀ xs ys : List Int, lxLt ltI xs ys = true → lxLt ltI ys xs = false
  | [], [], h => by simp [lxLt] at h
  | [], _ :: _, _ => rfl
  | _ :: _, [], h => by simp [lxLt] at h
  | x :: xs, y :: ys, h => by
    rw [lxLt] at h ⊢
    by_cases e : x = y
    · rw [if_pos e] at h
      rw [if_pos e.symm]
      exact lx_asym xs ys h
    · rw [if_neg e] at h
      rw [if_neg (fun z => e z.symm)]
      exact ltI_ok.asym _ _ h
theorem lx_tr : ∀ xs ys zs : List Int, lxLt ltI ys xs = false → lxLt ltI zs ys = false → lxLt ltI zs xs = false
  | [], [], [], _, _ => rfl
  | [], [], _ :: _, _, _ => rfl
  | [], _ :: _, [], _, h => by simp [lxLt] at h
  | [], _ :: _, _ :: _, _, _ => rfl
  | _ :: _, [], _, h, _ => by simp [lxLt] at h
  | _ :: _, _ :: _, [], _, h => by simp [lxLt] at h
  | x :: xs, y :: ys, z :: zs, h1, h2 => by
    rw [lxLt] at h1 h2 ⊢
    unfold ltI at *
    by_cases e1 : y = x
    · by_cases e2 : z = y
      · rw [if_pos e1] at h1
        rw [if_pos e2] at h2
        rw [if_pos (e2.trans e1)]
        exact lx_tr xs ys zs h1 h2
      · rw [if_neg e2, decide_eq_false_iff_not] at h2
        rw [if_neg (fun w => e2 (w.trans e1.symm)), decide_eq_false_iff_not]
        omega
    · rw [if_neg e1, decide_eq_false_iff_not] at h1
      by_cases e2 : z = y
      · rw [if_neg (fun w => e1 (e2.symm.trans w)), decide_eq_false_iff_not]
        omega
      · rw [if_neg e2, decide_eq_false_iff_not] at h2
        rw [if_neg (by omega), decide_eq_false_iff_not]
        omega
theorem lx_ok : LtOk (lxLt ltI) := ⟨lx_asym, lx_tr⟩
theorem kp_B {xs : List Int} (h : ∀ x ∈ xs, x ≤ 1000000000) : Fr.Bd (1 + 30 * xs.length) (kp xs) := by
  induction xs using snoc_ind with
  | nil => rw [kp_eq]; unfold Fr.Bd; decide
  | snoc xs x ih =>
    rw [kp_snoc, List.length_append, List.length_singleton]
    have h1 := ih fun y hy => h y (List.mem_append_left _ hy)
    have h2 : Fr.Bd 30 (pp x) := by
      have := h x (by simp)
      have hp := pp_pos x
      have hle : pp x ≤ 1000000000 := by unfold pp; split <;> omega
      unfold Fr.Bd
      omega
    exact (h1.mul h2).mono (by omega)
theorem own_le {ws : List (List Int)} {d : List Int} (ok : Ok ws d) (hw : ∀ r ∈ ws, ∀ x ∈ r, x ≤ 1000) : ∀ x ∈ own ws d, x ≤ 1000000 := fun x hx => by
  unfold own at hx
  obtain ⟨i, hi, rfl⟩ := List.mem_map.mp hx
  have hi := mem_rng.mp hi
  rw [val_eq, worth_eq]
  have h2 : ∀ xs : List Int, (∀ o ∈ xs, gI (gI ws i) o ≤ 1000) → (xs.map fun o => gI (gI ws i) o).sum ≤ 1000 * xs.length := fun xs => by
    induction xs with
    | nil => intro _; simp
    | cons y ys ih =>
      intro h
      have a := ih fun o ho => h o (List.mem_cons_of_mem _ ho)
      have b := h y (List.mem_cons_self ..)
      rw [List.map_cons, List.sum_cons, List.length_cons]
      omega
  have h1 := h2 (lot d i) fun o ho => hw _ (ok.row hi.1 hi.2) _ (gI_mem (ok.inb (ok.row hi.1 hi.2) ho))
  have h3 := lot_len d i
  have h4 := ok.m
  omega
@[irreducible] def psel (ws : List (List Int)) (ds : List (List Int)) : Option (Int × Int) × Option (List Int) := fsel pLt (fun d => key (own ws d)) ds
@[irreducible] def lsel (ws : List (List Int)) (ds : List (List Int)) : Option (List Int) × Option (List Int) := fsel (lxLt ltI) (fun d => srt ltI (own ws d)) ds
theorem psel_nil (ws : List (List Int)) : psel ws [] = (none, none) := by unfold psel; exact fsel_nil
theorem lsel_nil (ws : List (List Int)) : lsel ws [] = (none, none) := by unfold lsel; exact fsel_nil
theorem psel_snoc (ws ds : List (List Int)) (x : List Int) : psel ws (ds ++ [x]) = if ((psel ws ds).1.isNone || pLt ((psel ws ds).1.getD default) (key (own ws x))) = true then (some (key (own ws x)), some x) else psel ws ds := by unfold psel; rw [fsel_snoc]; rfl
theorem lsel_snoc (ws ds : List (List Int)) (x : List Int) : lsel ws (ds ++ [x]) = if ((lsel ws ds).1.isNone || lxLt ltI ((lsel ws ds).1.getD default) (srt ltI (own ws x))) = true then (some (srt ltI (own ws x)), some x) else lsel ws ds := by unfold lsel; rw [fsel_snoc]; rfl
theorem psel_get {ws : List (List Int)} {m : Int} (hn : 0 < ws.length) : ∃ d ∈ deals ws.length m, psel ws (deals ws.length m) = (some (key (own ws d)), some d) ∧ ∀ e ∈ deals ws.length m, pLt (key (own ws d)) (key (own ws e)) = false := by
  unfold psel
  rcases fsel_inv (ky := fun d => key (own ws d)) pLt_ok (deals ws.length m) with ⟨h, _⟩ | h
  · exact absurd h (deals_ne (by omega))
  · exact h
theorem lsel_get {ws : List (List Int)} {m : Int} (hn : 0 < ws.length) : ∃ d ∈ deals ws.length m, lsel ws (deals ws.length m) = (some (srt ltI (own ws d)), some d) ∧ ∀ e ∈ deals ws.length m, lxLt ltI (srt ltI (own ws d)) (srt ltI (own ws e)) = false := by
  unfold lsel
  rcases fsel_inv (ky := fun d => srt ltI (own ws d)) lx_ok (deals ws.length m) with ⟨h, _⟩ | h
  · exact absurd h (deals_ne (by omega))
  · exact h
end Th

set_option maxRecDepth 100000
namespace Th
open PySem PySem.Spec PyProof.Rows L2 TW Lh
/-! all sets of things -/
def setsN : Nat → List (List Int)
  | 0 => [[]]
  | k + 1 => setsN k ++ (setsN k).map fun s => s ++ [(k : Int)]
theorem setsN_len : ∀ k, (setsN k).length = 2 ^ k
  | 0 => rfl
  | k + 1 => by rw [setsN, List.length_append, List.length_map, setsN_len k, Nat.pow_succ]; omega
theorem setsN_mem : ∀ {k : Nat} {s : List Int}, s ∈ setsN k → s.length ≤ k ∧ ∀ o ∈ s, 0 ≤ o ∧ o < k
  | 0, s, h => by rw [setsN, List.mem_singleton] at h; subst h; exact ⟨Nat.le_refl _, fun o ho => by cases ho⟩
  | k + 1, s, h => by
    rw [setsN] at h
    rcases List.mem_append.mp h with h | h
    · obtain ⟨h1, h2⟩ := setsN_mem h
      exact ⟨by omega, fun o ho => by have := h2 o ho; omega⟩
    · obtain ⟨t, ht, rfl⟩ := List.mem_map.mp h
      obtain ⟨h1, h2⟩ := setsN_mem ht
      refine ⟨by simp; omega, fun o ho => ?_⟩
      rcases List.mem_append.mp ho with g | g
      · have := h2 o g; omega
      · rw [List.mem_singleton] at g; omega
theorem setsN_has (p : Int → Bool) : ∀ k : Nat, (rng 0 k).filter p ∈ setsN k
  | 0 => by
    show (rng 0 0).filter p ∈ setsN 0
    rw [rng_self, setsN]; simp
  | k + 1 => by
    have e : (((k + 1 : Nat)) : Int) = (k : Int) + 1 := by omega
    rw [e, rng_succ (by omega), List.filter_append, setsN, List.mem_append]
    have ih := setsN_has p k
    by_cases h : p (k : Int) = true
    · right
      rw [List.filter_cons_of_pos h]
      exact List.mem_map.mpr ⟨_, ih, rfl⟩
    · left
      rw [List.filter_cons_of_neg h]
      simpa using ih
@[irreducible] def sets (m : Int) : List (List Int) := setsN m.toNat
theorem sets_eq (m : Int) : sets m = setsN m.toNat := by unfold sets; rfl
theorem sets_mem {m : Int} {s : List Int} (h : s ∈ sets m) : s.length ≤ m.toNat ∧ ∀ o ∈ s, 0 ≤ o ∧ o < m := by
  rw [sets_eq] at h
  obtain ⟨h1, h2⟩ := setsN_mem h
  exact ⟨h1, fun o ho => by have := h2 o ho; omega⟩
theorem lot_sets (deal : List Int) (j : Int) : lot deal j ∈ sets deal.length := by
  rw [sets_eq]
  unfold lot
  have := setsN_has (fun o => decide (gI deal o = j)) deal.length
  rw [show ((deal.length : Int)).toNat = deal.length by omega]
  exact this
theorem sets_step (pre : List Int) (x : Int) (hx : x = pre.length) : setsN (pre ++ [x]).length = setsN pre.length ++ (setsN pre.length).map fun s => s ++ [x] := by
  rw [List.length_append, List.length_singleton, hx]
  rfl
/-! markets -/
@[irreducible] def cost (prices : List (Int × Int)) (s : List Int) : Int × Int := Fr.total (s.map fun o => gI prices o)
theorem cost_eq (prices : List (Int × Int)) (s : List Int) : cost prices s = Fr.total (s.map fun o => gI prices o) := by unfold cost; rfl
theorem fold_B {n : Nat} : ∀ {xs : List (Int × Int)} {k : Nat} {a : Int × Int}, (∀ x ∈ xs, Fr.FrB n x) → Fr.FrB k a → Fr.FrB (k + (n + 1) * xs.length) (xs.foldl Fr.add a)
  | [], k, a, _, h => by simpa using h
  | x :: xs, k, a, hx, h => by
    rw [List.foldl_cons]
    have := fold_B (xs := xs) (fun y hy => hx y (List.mem_cons_of_mem _ hy)) (Fr.add_B h (hx x (List.mem_cons_self ..)))
    refine this.mono ?_
    rw [List.length_cons, Nat.mul_succ]
    omega
theorem one_B : Fr.FrB 1 ((0, 1) : Int × Int) := ⟨by unfold Fr.Bd; decide, by unfold Fr.Bd; decide, by decide⟩
theorem unit_B : Fr.FrB 1 ((1, 1) : Int × Int) := ⟨by unfold Fr.Bd; decide, by unfold Fr.Bd; decide, by decide⟩
structure Pr (prices : List (Int × Int)) : Prop where
  l : prices.length ≤ 12
  b : ∀ p ∈ prices, Fr.FrB 10 p
theorem Pr.map {prices : List (Int × Int)} (h : Pr prices) {s : List Int} (hs : ∀ o ∈ s, InB prices.length o) : ∀ x ∈ s.map (fun o => gI prices o), Fr.FrB 10 x := fun x hx => by
  obtain ⟨o, ho, rfl⟩ := List.mem_map.mp hx
  exact h.b _ (gI_mem (hs o ho))
theorem Pr.tot {prices : List (Int × Int)} (h : Pr prices) {s : List Int} (hs : ∀ o ∈ s, InB prices.length o) (hl : s.length ≤ 12) : Fr.TotOk (s.map fun o => gI prices o) (0, 1) :=
  Fr.totOk_of (n := 10) (k := 1) (h.map hs) one_B (by rw [List.length_map]; omega)
theorem Pr.cmp {prices : List (Int × Int)} (h : Pr prices) {s : List Int} (hs : ∀ o ∈ s, InB prices.length o) (hl : s.length ≤ 12) : CMulW (cost prices s).1 1 ∧ CMulW 1 (cost prices s).2 := by
  rw [cost_eq, Fr.total_eq]
  have hb := fold_B (n := 10) (k := 1) (h.map hs) one_B
  rw [List.length_map] at hb
  have := hb.ltOk unit_B (by omega)
  exact this
theorem fold_pos : ∀ {xs : List (Int × Int)} {a : Int × Int}, 0 < a.2 → (∀ x ∈ xs, 0 < x.2) → 0 < (xs.foldl Fr.add a).2
  | [], a, h, _ => h
  | x :: xs, a, h, hx => by
    rw [List.foldl_cons]
    refine fold_pos ?_ fun y hy => hx y (List.mem_cons_of_mem _ hy)
    have := hx x (List.mem_cons_self ..)
    exact Fr.low_pos (Int.ne_of_gt (Int.mul_pos h this))
theorem zip_self {α β : Type} (f : α → β) : ∀ xs : List α, xs.zip (xs.map f) = xs.map fun x => (x, f x)
  | [] => rfl
  | x :: xs => by rw [List.map_cons, List.zip_cons_cons, List.map_cons, zip_self f xs]
def Mk (ws : List (List Int)) (deal : List Int) (prices : List (Int × Int)) (i : Int) : Prop := ¬ Fr.lt (1, 1) (cost prices (lot deal i)) ∧ ∀ s ∈ sets deal.length, ¬ (worth (gI ws i) (lot deal i) < worth (gI ws i) s ∧ ¬ Fr.lt (1, 1) (cost prices s))
instance (ws : List (List Int)) (deal : List Int) (prices : List (Int × Int)) (i : Int) : Decidable (Mk ws deal prices i) := by unfold Mk; infer_instance
@[irreducible] def isM (ws : List (List Int)) (deal : List Int) (prices : List (Int × Int)) : Bool := decide ((prices.length = deal.length ∧ ∀ p ∈ prices, 0 < p.1) ∧ ∀ i ∈ rng 0 ws.length, Mk ws deal prices i)
theorem isM_eq (ws : List (List Int)) (deal : List Int) (prices : List (Int × Int)) : isM ws deal prices = decide ((prices.length = deal.length ∧ ∀ p ∈ prices, 0 < p.1) ∧ ∀ i ∈ rng 0 ws.length, Mk ws deal prices i) := by unfold isM; rfl
/-- no envy -/
theorem isM_free {ws : List (List Int)} {deal : List Int} {prices : List (Int × Int)} (h : isM ws deal prices = true) : env ws deal = [] := by
  rw [isM_eq, decide_eq_true_eq] at h
  rw [List.eq_nil_iff_forall_not_mem]
  rintro ⟨i, j⟩ hq
  obtain ⟨h1, h2, h3⟩ := env_mem.mp hq
  dsimp only at h1 h2 h3
  rw [val_eq, val_eq] at h3
  exact (h.2 i (mem_rng.mpr h1)).2 _ (lot_sets deal j) ⟨h3, (h.2 j (mem_rng.mpr h2)).1⟩
/-! each has one dear thing -/
theorem fold_ones (k : Nat) (a : Int) : (List.replicate k ((1, 1) : Int × Int)).foldl Fr.add (a, 1) = (a + k, 1) := by
  induction k generalizing a with
  | zero => simp
  | succ k ih =>
    have : Fr.add (a, 1) (1, 1) = (a + 1, 1) := by
      unfold Fr.add Fr.low
      have hg : Fr.gcdZ (a * 1 + 1 * 1) (1 * 1) = 1 := by unfold Fr.gcdZ; simp
      simp only [hg]
      simp
    rw [List.replicate_succ, List.foldl_cons, this, ih]
    congr 1
    omega
theorem cost_ones {n : Int} {s : List Int} (hs : ∀ o ∈ s, 0 ≤ o ∧ o < n) : cost (repL [((1, 1) : Int × Int)] n) s = ((s.length : Int), 1) := by
  rw [cost_eq, Fr.total_eq]
  have : (s.map fun o => gI (repL [((1, 1) : Int × Int)] n) o) = List.replicate s.length ((1, 1) : Int × Int) := by
    rw [List.eq_replicate_iff]
    refine ⟨by rw [List.length_map], fun x hx => ?_⟩
    obtain ⟨o, ho, rfl⟩ := List.mem_map.mp hx
    exact gI_repG (hs o ho).1 (hs o ho).2
  rw [this, fold_ones]
  simp
theorem lot_rng {n i : Int} (h0 : 0 ≤ i) (h1 : i < n) : lot (rng 0 n) i = [i] := by
  unfold lot
  rw [rng_len, show (((n - 0).toNat : Nat) : Int) = n by omega]
  have : ((rng 0 n).filter fun o => decide (gI (rng 0 n) o = i)) = (rng 0 n).filter fun o => decide (o = i) := List.filter_congr fun o ho => by
    have := mem_rng.mp ho
    rw [gI_rng this.1 this.2]
  rw [this, rng_app (b := i) h0 (by omega), rng_cons (a := i) (by omega), List.filter_append, List.filter_cons_of_pos (by simp), List.filter_eq_nil_iff.mpr, List.filter_eq_nil_iff.mpr]
  · rfl
  · intro o ho; have := mem_rng.mp ho; simp; omega
  · intro o ho; have := mem_rng.mp ho; simp; omega
theorem dear_market {ws : List (List Int)} {n : Int} (hn : (ws.length : Int) = n) (hr : ∀ i o : Int, 0 ≤ i → i < n → 0 ≤ o → o < n → gI (gI ws i) o = if o = i then 5 else 1) : isM ws (rng 0 n) (repL [((1, 1) : Int × Int)] n) = true := by
  have hl : ((rng 0 n).length : Int) = n := by rw [rng_len]; omega
  rw [isM_eq, decide_eq_true_eq]
  refine ⟨⟨by rw [repG_len, rng_len]; omega, fun p hp => by rw [repG_mem hp]; decide⟩, fun i hi => ?_⟩
  rw [hn] at hi
  have hi := mem_rng.mp hi
  unfold Mk
  rw [lot_rng hi.1 hi.2, hl]
  refine ⟨?_, fun s hs => ?_⟩
  · rw [cost_ones (fun o ho => by rw [List.mem_singleton] at ho; subst ho; exact hi)]
    unfold Fr.lt
    simp
  · obtain ⟨s1, s2⟩ := sets_mem hs
    rw [cost_ones s2]
    rintro ⟨h1, h2⟩
    have hl1 : s.length ≤ 1 := by
      unfold Fr.lt at h2
      dsimp only at h2
      omega
    rw [worth_eq, worth_eq] at h1
    simp only [List.map_cons, List.map_nil, List.sum_cons, List.sum_nil] at h1
    rw [hr i i hi.1 hi.2 hi.1 hi.2, if_pos rfl] at h1
    match s, hl1, s2, h1 with
    | [], _, _, h1 => simp at h1
    | [o], _, s2, h1 =>
      have ho := s2 o (List.mem_cons_self ..)
      simp only [List.map_cons, List.map_nil, List.sum_cons, List.sum_nil] at h1
      rw [hr i o hi.1 hi.2 ho.1 ho.2] at h1
      by_cases c : o = i
      · rw [if_pos c] at h1; omega
      · rw [if_neg c] at h1; omega
theorem cutL_mem {α : Type} {xs : List α} {lo hi : Option Int} {x : α} (h : x ∈ cutL xs lo hi) : x ∈ xs := by
  unfold cutL at h
  exact List.mem_of_mem_drop (List.mem_of_mem_take h)
theorem cutL_len {α : Type} (xs : List α) (lo hi : Option Int) : (cutL xs lo hi).length ≤ xs.length := by
  unfold cutL
  rw [List.length_take, List.length_drop]
  omega
theorem isM_chk (ws : List (List Int)) (deal : List Int) (prices : List (Int × Int)) : (isM ws deal prices && (!decide (env ws deal = []) || !decide (env ws deal = []))) = false := by
  by_cases h : isM ws deal prices = true
  · rw [isM_free h]; simp
  · simp [h]
end Th

set_option maxRecDepth 100000
/-! fractions in lowest terms, lists: what several laws use -/
namespace Fr
theorem low_scale {p q k : Int} (hq : 0 < q) (hk : 0 < k) : low (p * k) (q * k) = low p q := by
  have hqk : 0 < q * k := Int.mul_pos hq hk
  have hg : gcdZ (p * k) (q * k) = gcdZ p q * k := by
    unfold gcdZ
    rw [Int.natAbs_mul, Int.natAbs_mul, Nat.gcd_mul_right, Int.natCast_mul, Int.natAbs_of_nonneg (by omega)]
  unfold low
  rw [if_pos hqk, if_pos hq, hg, Int.mul_ediv_mul_of_pos_left _ _ hk, Int.mul_ediv_mul_of_pos_left _ _ hk]
theorem low_congr {p q p' q' : Int} (hq : 0 < q) (hq' : 0 < q') (h : p * q' = p' * q) : low p q = low p' q' := by
  rw [← low_scale (p := p) hq hq', ← low_scale (p := p') hq' hq, h, Int.mul_comm q q']
theorem low_spec {p q : Int} (hq : 0 < q) : (low p q).1 * q = p * (low p q).2 := by
  have hg := gcdZ_pos (a := p) (b := q) (by omega)
  obtain ⟨a, ha⟩ := gcdZ_dvd_left p q
  obtain ⟨b, hb⟩ := gcdZ_dvd_right p q
  have e1 : p / gcdZ p q = a := by rw [Int.ediv_eq_of_eq_mul_right (by omega) ha]
  have e2 : q / gcdZ p q = b := by rw [Int.ediv_eq_of_eq_mul_right (by omega) hb]
  unfold low
  rw [if_pos hq, e1, e2]
  show a * q = p * b
  calc a * q = a * (gcdZ p q * b) := by rw [← hb]
    _ = gcdZ p q * a * b := by rw [← Int.mul_assoc, Int.mul_comm a]
    _ = p * b := by rw [← ha]
/-- low p q = low p' q' just if p / q = p' / q' -/
theorem low_iff {p q p' q' : Int} (hq : 0 < q) (hq' : 0 < q') : low p q = low p' q' ↔ p * q' = p' * q := by
  refine ⟨fun h => ?_, low_congr hq hq'⟩
  have h1 := low_spec (p := p) hq
  have h2 := low_spec (p := p') hq'
  have h3 := low_pos (p := p') (q := q') (by omega)
  rw [h] at h1
  have : (low p' q').2 * (p * q') = (low p' q').2 * (p' * q) := by
    calc (low p' q').2 * (p * q') = (p * (low p' q').2) * q' := by rw [← Int.mul_assoc, Int.mul_comm (low p' q').2]
      _ = (low p' q').1 * q * q' := by rw [← h1]
      _ = (low p' q').1 * q' * q := by rw [Int.mul_assoc, Int.mul_comm q, ← Int.mul_assoc]
      _ = p' * (low p' q').2 * q := by rw [h2]
      _ = (low p' q').2 * (p' * q) := by rw [Int.mul_comm p', Int.mul_assoc]
  exact Int.eq_of_mul_eq_mul_left (by omega) this
theorem add_low {p q d e : Int} (hd : 0 < d) (he : 0 < e) : add (low p d) (low q e) = low (p * e + q * d) (d * e) := by
  have h1 := low_spec (p := p) hd
  have h2 := low_spec (p := q) he
  have p1 := low_pos (p := p) (q := d) (by omega)
  have p2 := low_pos (p := q) (q := e) (by omega)
  generalize hx : low p d = x at h1 p1 ⊢
  generalize hy : low q e = y at h2 p2 ⊢
  unfold add
  refine low_congr (Int.mul_pos p1 p2) (Int.mul_pos hd he) ?_
  grind
theorem less_low {p q d e : Int} (hd : 0 < d) (he : 0 < e) : less (low p d) (low q e) = low (p * e - q * d) (d * e) := by
  have h1 := low_spec (p := p) hd
  have h2 := low_spec (p := q) he
  have p1 := low_pos (p := p) (q := d) (by omega)
  have p2 := low_pos (p := q) (q := e) (by omega)
  generalize hx : low p d = x at h1 p1 ⊢
  generalize hy : low q e = y at h2 p2 ⊢
  unfold less
  refine low_congr (Int.mul_pos p1 p2) (Int.mul_pos hd he) ?_
  grind
theorem low_one (p : Int) : low p 1 = (p, 1) := by
  have hg : gcdZ p 1 = 1 := by unfold gcdZ; simp
  unfold low
  rw [if_pos (by decide), hg, Int.ediv_one]; rfl
theorem add_same {p q d : Int} (hd : 0 < d) : add (low p d) (low q d) = low (p + q) d := by
  rw [add_low hd hd]
  exact low_congr (Int.mul_pos hd hd) hd (by grind)
theorem total_same {d : Int} (hd : 0 < d) (xs : List Int) : total (xs.map fun x => low x d) = low xs.sum d := by
  rw [total_eq]
  have : ∀ (xs : List Int) (a : Int), (xs.map fun x => low x d).foldl add (low a d) = low (a + xs.sum) d := by
    intro xs
    induction xs with
    | nil => intro a; simp
    | cons x xs ih => intro a; rw [List.map_cons, List.foldl_cons, add_same hd, ih, List.sum_cons, Int.add_assoc]
  have h0 : ((0, 1) : Int × Int) = low 0 d := by
    rw [← low_one 0]
    exact low_congr (by decide) hd (by omega)
  rw [h0, this, Int.zero_add]
end Fr
namespace Lh
open PySem PySem.Spec PyProof.Rows L2 TW
theorem cutL_to {α : Type} (xs : List α) {k : Int} (h : 0 ≤ k) : cutL xs none (some k) = xs.take k.toNat := by
  unfold cutL
  show (xs.drop 0).take ((if k < 0 then (k + (xs.length : Int)).toNat else min k.toNat xs.length) - 0) = _
  rw [if_neg (by omega), List.drop_zero, Nat.sub_zero]
  by_cases hk : k.toNat ≤ xs.length
  · rw [Nat.min_eq_left hk]
  · rw [Nat.min_eq_right (by omega), List.take_length, List.take_of_length_le (by omega)]
theorem cutL_from {α : Type} (xs : List α) {k : Int} (h : 0 ≤ k) : cutL xs (some k) none = xs.drop k.toNat := by
  unfold cutL
  show (xs.drop (if k < 0 then (k + (xs.length : Int)).toNat else min k.toNat xs.length)).take (xs.length - (if k < 0 then (k + (xs.length : Int)).toNat else min k.toNat xs.length)) = _
  rw [if_neg (by omega)]
  by_cases hk : k.toNat ≤ xs.length
  · rw [Nat.min_eq_left hk, List.take_of_length_le (by rw [List.length_drop]; omega)]
  · rw [Nat.min_eq_right (by omega), List.drop_length, List.drop_of_length_le (by omega)]; simp
theorem gI_appL {α : Type} [Inhabited α] {xs ys : List α} {i : Int} (h0 : 0 ≤ i) (h1 : i < xs.length) : gI (xs ++ ys) i = gI xs i := by
  rw [gI_nn _ h0, gI_nn _ h0, List.getD_eq_getElem?_getD, List.getD_eq_getElem?_getD, List.getElem?_append_left (by omega)]
theorem gI_appR {α : Type} [Inhabited α] {xs ys : List α} {y : α} {i : Int} (h : i = xs.length) : gI (xs ++ y :: ys) i = y := by
  rw [h, gI_nat, List.getD_eq_getElem?_getD, List.getElem?_append_right (Nat.le_refl _), Nat.sub_self]; rfl
theorem split_at {α : Type} [Inhabited α] {xs : List α} {i : Int} (h0 : 0 ≤ i) (h1 : i < xs.length) : xs = xs.take i.toNat ++ gI xs i :: xs.drop (i.toNat + 1) := by
  rw [gI_nn _ h0, List.getD_eq_getElem?_getD, List.getElem?_eq_getElem (by omega), Option.getD_some, ← List.drop_eq_getElem_cons (by omega), List.take_append_drop]
theorem enum_split {α : Type} [Inhabited α] {xs : List α} {pre post : List (Int × α)} {x : Int × α} (h : enum xs = pre ++ x :: post) : x.1 = pre.length ∧ pre.length < xs.length ∧ x.2 = gI xs pre.length := by
  rw [Th.enum_gen] at h
  obtain ⟨l1, l2, e1, e2, e3⟩ := List.map_eq_append_iff.mp h
  obtain ⟨y, l3, e4, e5, e6⟩ := List.map_eq_cons_iff.mp e3
  subst e4
  obtain ⟨h1, h2, h3, h4⟩ := rng_split e1
  have hl : pre.length = l1.length := by rw [← e2, List.length_map]
  subst e5
  have hy : y = pre.length := by omega
  subst hy
  exact ⟨rfl, by omega, rfl⟩
theorem enum_len {α : Type} [Inhabited α] (xs : List α) : (enum xs).length = xs.length := by rw [Th.enum_gen, List.length_map, rng_len]; omega
theorem gI_ext {α : Type} [Inhabited α] {xs ys : List α} (hl : xs.length = ys.length) (h : ∀ i : Int, 0 ≤ i → i < xs.length → gI xs i = gI ys i) : xs = ys := by
  apply List.ext_getElem hl
  intro i h1 h2
  have := h i (by omega) (by omega)
  rw [gI_nat, gI_nat, List.getD_eq_getElem?_getD, List.getD_eq_getElem?_getD, List.getElem?_eq_getElem h1, List.getElem?_eq_getElem h2] at this
  exact this
theorem cmul {a b : Int} (ha : a.natAbs < 2 ^ 60) (hb : b.natAbs < 2 ^ 60) : CMulW a b := Fr.Bd.mulOk (n := 60) (k := 60) ha hb (by decide)
end Lh

set_option maxRecDepth 100000
namespace Rg
open PySem PySem.Spec PyProof.Rows L2 TW Lh Th
def lt (ws ls : List (List Int)) (i j : Int) : Bool := decide (worth (gI ws i) (gI ls i) < worth (gI ws i) (gI ls j))
@[irreducible] def fr (ws ls : List (List Int)) (j : Int) : List Int := (rng 0 ws.length).filter fun i => lt ws ls i j
@[irreducible] def free (ws ls : List (List Int)) : List Int := (rng 0 ws.length).filter fun j => decide (fr ws ls j = [])
def ringF (f : Int → Int) : Nat → List Int → Int → List Int
  | 0, row, _ => row
  | k + 1, row, x => if x ∈ row then row.drop (row.idxOf x) else ringF f k (row ++ [x]) (f x)
def mnF (ps : List (Int × Int)) (x : Int) : Int := mnI ((ps.filter fun q => decide (q.2 = x)).map Prod.fst)
@[irreducible] def ringP (ps : List (Int × Int)) (n : Int) : List Int := ringF (mnF ps) (n.toNat + 1) [] 0
def F (ws ls : List (List Int)) (x : Int) : Int := gI (fr ws ls x) 0
@[irreducible] def ring (ws ls : List (List Int)) : List Int := ringF (F ws ls) (ws.length + 1) [] 0
@[irreducible] def rot (ls : List (List Int)) (r : List Int) : List (List Int) := (rng 0 r.length).foldl (fun t k => setI t (gI r k) (gI ls (gI r (k - 1)))) ls
structure ROk (ps : List (Int × Int)) (n : Int) : Prop where
  n0 : 0 < n
  n1 : n ≤ 1000
  l : ps.length ≤ 1000000
  c : ∀ q ∈ ps, (0 ≤ q.1 ∧ q.1 < n)
  f : ∀ x : Int, 0 ≤ x → x < n → ∃ q ∈ ps, q.2 = x
structure Sq (ws ls : List (List Int)) : Prop where
  n0 : 0 < ws.length
  n : ws.length ≤ 1000
  l : ls.length = ws.length
  s : ∀ l ∈ ls, l.length ≤ 1000 ∧ ∀ r ∈ ws, ∀ o ∈ l, InB r.length o
structure Pre (ws : List (List Int)) (th : List Int) : Prop where
  n0 : 0 < ws.length
  n : ws.length ≤ 1000
  t0 : 0 < th.length
  t : th.length ≤ 1000
  r : ∀ r ∈ ws, r.length = th.length
  p : th.Perm (rng 0 th.length)
  c : ∀ r ∈ ws, ∀ x ∈ r, 0 ≤ x ∧ x ≤ 1000000
@[irreducible] def isDeal (d : List Int) (n m : Int) : Bool := decide ((d.length : Int) = m) && decide (∀ i ∈ d, 0 ≤ i ∧ i < n)
/-! the pairs of envy -/
@[irreducible] def PS (ws ls : List (List Int)) : List (Int × Int) := pairsOf (tableOf ws ls).length fun a b => gI (gI (tableOf ws ls) a) b
theorem PS_eq (ws ls : List (List Int)) : PS ws ls = pairsOf (tableOf ws ls).length fun a b => gI (gI (tableOf ws ls) a) b := by unfold PS; rfl
theorem PS_mem {ws ls : List (List Int)} (h : ls.length = ws.length) {q : Int × Int} : q ∈ PS ws ls ↔ (0 ≤ q.1 ∧ q.1 < ws.length) ∧ (0 ≤ q.2 ∧ q.2 < ws.length) ∧ lt ws ls q.1 q.2 = true := by
  rw [PS_eq, pairsOf_mem, table_len]
  constructor
  · rintro ⟨h1, h2, h3⟩
    rw [gI_table h1 ⟨h2.1, by omega⟩, gI_table h1 ⟨h1.1, by omega⟩] at h3
    exact ⟨h1, h2, decide_eq_true h3⟩
  · rintro ⟨h1, h2, h3⟩
    refine ⟨h1, h2, ?_⟩
    rw [gI_table h1 ⟨h2.1, by omega⟩, gI_table h1 ⟨h1.1, by omega⟩]
    exact of_decide_eq_true h3
theorem fr_mem {ws ls : List (List Int)} {i j : Int} : i ∈ fr ws ls j ↔ (0 ≤ i ∧ i < ws.length) ∧ lt ws ls i j = true := by
  unfold fr
  rw [List.mem_filter, mem_rng]
theorem free_mem {ws ls : List (List Int)} {j : Int} : j ∈ free ws ls ↔ (0 ≤ j ∧ j < ws.length) ∧ fr ws ls j = [] := by
  unfold free
  rw [List.mem_filter, mem_rng, decide_eq_true_eq]
theorem free_eq (ws ls : List (List Int)) : free ws ls = (rng 0 ws.length).filter fun j => decide (fr ws ls j = []) := by unfold free; rfl
theorem fr_eq (ws ls : List (List Int)) (j : Int) : fr ws ls j = (rng 0 ws.length).filter fun i => lt ws ls i j := by unfold fr; rfl
theorem fr_ne {ws ls : List (List Int)} (h : free ws ls = []) {x : Int} (x0 : 0 ≤ x) (x1 : x < ws.length) : fr ws ls x ≠ [] := fun e => by
  have : x ∈ free ws ls := free_mem.mpr ⟨⟨x0, x1⟩, e⟩
  rw [h] at this; cases this
theorem dV_fold {α : Type} (f : α → Int) : ∀ (xs : List α) (d : DK Bool) (k : Int), (dV (xs.foldl (fun d x => dPut d (f x) true) d) k).isSome = ((dV d k).isSome || decide (∃ x ∈ xs, f x = k))
  | [], d, k => by simp
  | x :: xs, d, k => by
    rw [List.foldl_cons, dV_fold f xs, dV_put]
    by_cases h : k = f x
    · subst h
      simp
    · have h2 : f x ≠ k := fun e => h e.symm
      rw [if_neg h]
      simp [h2]
theorem unen {ws ls : List (List Int)} (h : ls.length = ws.length) : (rng 0 (ls.length : Int)).filter (fun j => !(dV ((PS ws ls).foldl (fun d (x : Int × Int) => dPut d x.2 true) []) j).isSome) = free ws ls := by
  rw [free_eq, h]
  refine List.filter_congr fun j hj => ?_
  rw [dV_fold (fun x : Int × Int => x.2)]
  have e0 : (dV ([] : DK Bool) j).isSome = false := rfl
  rw [e0, Bool.false_or]
  have : (∃ x ∈ PS ws ls, x.2 = j) ↔ fr ws ls j ≠ [] := by
    constructor
    · rintro ⟨x, hx, rfl⟩ e
      obtain ⟨h1, h2, h3⟩ := (PS_mem h).mp hx
      have : x.1 ∈ fr ws ls x.2 := fr_mem.mpr ⟨h1, h3⟩
      rw [e] at this; cases this
    · intro e
      obtain ⟨i, hi⟩ := List.exists_mem_of_ne_nil _ e
      obtain ⟨h1, h3⟩ := fr_mem.mp hi
      exact ⟨(i, j), (PS_mem h).mpr ⟨h1, mem_rng.mp hj, h3⟩, rfl⟩
  by_cases e : fr ws ls j = []
  · rw [decide_eq_true e, decide_eq_false (fun z => this.mp z e)]; rfl
  · rw [decide_eq_false e, decide_eq_true (this.mpr e)]; rfl
/-! the ring -/
structure Rw (n : Nat) (f : Int → Int) (row : List Int) (x : Int) : Prop where
  nd : row.Nodup
  b : ∀ y ∈ row, 0 ≤ y ∧ y < n
  x0 : 0 ≤ x
  x1 : x < n
  ch : ∀ k : Int, 1 ≤ k → k < row.length → gI row k = f (gI row (k - 1))
  la : row ≠ [] → x = f (gI row (row.length - 1))
theorem nd_len {n : Nat} {row : List Int} (nd : row.Nodup) (b : ∀ y ∈ row, 0 ≤ y ∧ y < n) : row.length ≤ n := by
  have := nd.length_le_of_subset (l₂ := rng 0 n) fun y hy => mem_rng.mpr (b y hy)
  rw [rng_len] at this
  omega
theorem Rw.len {n : Nat} {f : Int → Int} {row : List Int} {x : Int} (h : Rw n f row x) : row.length ≤ n := nd_len h.nd h.b
theorem gI_app1 {α : Type} [Inhabited α] {xs ys : List α} {k : Int} (h0 : 0 ≤ k) (h1 : k < xs.length) : gI (xs ++ ys) k = gI xs k := by
  rw [gI_nn _ h0, gI_nn _ h0, List.getD_eq_getElem?_getD, List.getD_eq_getElem?_getD, List.getElem?_append_left (by omega)]
theorem gI_appl {α : Type} [Inhabited α] (xs : List α) (x : α) : gI (xs ++ [x]) xs.length = x := by
  rw [gI_nat, List.getD_eq_getElem?_getD, List.getElem?_append_right (Nat.le_refl _)]; simp
theorem Rw.nx {n : Nat} {f : Int → Int} {row : List Int} {x : Int} (h : Rw n f row x) (hx : x ∉ row) (hf : ∀ y : Int, 0 ≤ y → y < n → 0 ≤ f y ∧ f y < n) : Rw n f (row ++ [x]) (f x) := by
  have hfx := hf x h.x0 h.x1
  refine ⟨List.nodup_append.mpr ⟨h.nd, by simp, fun a ha b hb => by rw [List.mem_singleton.mp hb]; exact fun e => hx (e ▸ ha)⟩, fun y hy => ?_, hfx.1, hfx.2, fun k k1 k2 => ?_, fun _ => ?_⟩
  · rcases List.mem_append.mp hy with hy | hy
    · exact h.b y hy
    · rw [List.mem_singleton.mp hy]; exact ⟨h.x0, h.x1⟩
  · rw [List.length_append, List.length_singleton] at k2
    by_cases e : k = row.length
    · subst e
      rw [gI_appl, gI_app1 (by omega) (by omega)]
      exact h.la fun e => by rw [e] at k1; simp at k1
    · rw [gI_app1 (by omega) (by omega), gI_app1 (by omega) (by omega)]
      exact h.ch k k1 (by omega)
  · rw [List.length_append, List.length_singleton, show ((row.length + 1 : Nat) : Int) - 1 = row.length by omega, gI_appl]
/-- a ring -/
structure Cy (n : Nat) (f : Int → Int) (r : List Int) : Prop where
  ne : r ≠ []
  nd : r.Nodup
  b : ∀ y ∈ r, 0 ≤ y ∧ y < n
  ch : ∀ k : Int, 1 ≤ k → k < r.length → gI r k = f (gI r (k - 1))
  la : gI r 0 = f (gI r (r.length - 1))
theorem gI_drop {α : Type} [Inhabited α] {xs : List α} (d : Nat) {k : Int} (h0 : 0 ≤ k) : gI (xs.drop d) k = gI xs (k + d) := by
  rw [gI_nn _ h0, gI_nn _ (by omega), List.getD_eq_getElem?_getD, List.getD_eq_getElem?_getD, List.getElem?_drop]
  congr 2
  omega
theorem Rw.cy {n : Nat} {f : Int → Int} {row : List Int} {x : Int} (h : Rw n f row x) (hx : x ∈ row) : Cy n f (row.drop (row.idxOf x)) := by
  have hl : row.idxOf x < row.length := List.idxOf_lt_length_iff.mpr hx
  have ln : (row.drop (row.idxOf x)).length = row.length - row.idxOf x := List.length_drop ..
  refine ⟨fun e => ?_, h.nd.sublist (List.drop_sublist _ _), fun y hy => h.b y (List.mem_of_mem_drop hy), fun k k1 k2 => ?_, ?_⟩
  · rw [e] at ln; simp at ln; omega
  · rw [gI_drop _ (by omega), gI_drop _ (by omega), h.ch _ (by omega) (by omega)]
    congr 2
    omega
  · rw [gI_drop _ (by omega), gI_drop _ (by omega), ln, show (0 : Int) + (row.idxOf x : Nat) = (row.idxOf x : Nat) by omega, gI_nat, List.getD_eq_getElem?_getD, List.getElem?_eq_getElem hl, Option.getD_some, List.getElem_idxOf]
    have := h.la (List.ne_nil_of_mem hx)
    rw [show ((row.length - row.idxOf x : Nat) : Int) - 1 + (row.idxOf x : Nat) = row.length - 1 by omega]
    exact this
theorem ringF_cy {n : Nat} {f : Int → Int} (hf : ∀ y : Int, 0 ≤ y → y < n → 0 ≤ f y ∧ f y < n) : ∀ (k : Nat) (row : List Int) (x : Int), Rw n f row x → row.length + k = n + 1 → Cy n f (ringF f k row x)
  | 0, row, x, h, e => by have := h.len; omega
  | k + 1, row, x, h, e => by
    unfold ringF
    split
    · rename_i hx; exact h.cy hx
    · rename_i hx; exact ringF_cy hf k _ _ (h.nx hx hf) (by rw [List.length_append, List.length_singleton]; omega)
theorem ringF_congr {n : Nat} {f g : Int → Int} (hf : ∀ y : Int, 0 ≤ y → y < n → 0 ≤ f y ∧ f y < n) (e : ∀ y : Int, 0 ≤ y → y < n → f y = g y) : ∀ (k : Nat) (row : List Int) (x : Int), 0 ≤ x → x < n → ringF f k row x = ringF g k row x
  | 0, row, x, _, _ => rfl
  | k + 1, row, x, h0, h1 => by
    unfold ringF
    split
    · rfl
    · have := hf x h0 h1
      rw [ringF_congr hf e k _ _ this.1 this.2, e x h0 h1]
theorem Rw.zero {n : Nat} {f : Int → Int} (h : 0 < n) : Rw n f [] 0 := ⟨by simp, fun y hy => (by cases hy), by omega, by omega, fun k k1 k2 => by simp at k2; omega, fun e => absurd rfl e⟩
theorem ringF_hit {f : Int → Int} {k : Nat} {row : List Int} {x : Int} (hx : x ∈ row) : ringF f (k + 1) row x = row.drop (row.idxOf x) := by
  conv => lhs; unfold ringF
  rw [if_pos hx]
theorem ringF_nx {f : Int → Int} {k : Nat} {row : List Int} {x : Int} (hx : x ∉ row) : ringF f (k + 1) row x = ringF f k (row ++ [x]) (f x) := by
  conv => lhs; unfold ringF
  rw [if_neg hx]
section
variable {ws ls : List (List Int)}
theorem F_mem (h : free ws ls = []) {x : Int} (x0 : 0 ≤ x) (x1 : x < ws.length) : F ws ls x ∈ fr ws ls x := by
  have := List.length_pos_iff.mpr (fr_ne h x0 x1)
  exact gI_mem ⟨by omega, by omega⟩
theorem F_ok (h : free ws ls = []) {x : Int} (x0 : 0 ≤ x) (x1 : x < ws.length) : (0 ≤ F ws ls x ∧ F ws ls x < ws.length) ∧ lt ws ls (F ws ls x) x = true := fr_mem.mp (F_mem h x0 x1)
theorem sorted_first {l : List Int} (hs : l.Pairwise (· < ·)) (hne : l ≠ []) : ∀ y ∈ l, gI l 0 ≤ y := by
  match l, hne with
  | a :: l, _ =>
    intro y hy
    have e : gI (a :: l) 0 = a := by rw [show (0 : Int) = ((0 : Nat) : Int) from rfl, gI_nat]; rfl
    rw [e]
    rcases List.mem_cons.mp hy with rfl | hy
    · omega
    · have := (List.pairwise_cons.mp hs).1 y hy; omega
theorem mnF_eq (hl : ls.length = ws.length) (h : free ws ls = []) {x : Int} (x0 : 0 ≤ x) (x1 : x < ws.length) : mnF (PS ws ls) x = F ws ls x := by
  have m : ∀ i, i ∈ ((PS ws ls).filter fun q => decide (q.2 = x)).map Prod.fst ↔ i ∈ fr ws ls x := fun i => by
    rw [List.mem_map, fr_mem]
    constructor
    · rintro ⟨q, hq, rfl⟩
      rw [List.mem_filter, decide_eq_true_eq] at hq
      obtain ⟨h1, h2, h3⟩ := (PS_mem hl).mp hq.1
      rw [hq.2] at h3
      exact ⟨h1, h3⟩
    · rintro ⟨h1, h3⟩
      exact ⟨(i, x), List.mem_filter.mpr ⟨(PS_mem hl).mpr ⟨h1, ⟨x0, x1⟩, h3⟩, decide_eq_true rfl⟩, rfl⟩
  have hF := F_mem h x0 x1
  have hne : ((PS ws ls).filter fun q => decide (q.2 = x)).map Prod.fst ≠ [] := fun e => by
    have := (m _).mpr hF
    rw [e] at this; cases this
  have h1 := mnI_mem hne
  have h2 := mnI_le' ((m _).mpr hF)
  have h3 := sorted_first (l := fr ws ls x) (by unfold fr; exact List.Pairwise.filter _ (rng_sorted _ _)) (fr_ne h x0 x1) _ ((m _).mp h1)
  unfold mnF
  show _ = gI (fr ws ls x) 0
  have h2' : mnI (((PS ws ls).filter fun q => decide (q.2 = x)).map Prod.fst) ≤ gI (fr ws ls x) 0 := h2
  omega
theorem ring_eq (hl : ls.length = ws.length) (h : free ws ls = []) (h0 : 0 < ws.length) : ringP (PS ws ls) ws.length = ring ws ls := by
  unfold ringP ring
  rw [show ((ws.length : Int)).toNat + 1 = ws.length + 1 by omega]
  refine ringF_congr (n := ws.length) (fun y y0 y1 => ?_) (fun y y0 y1 => mnF_eq hl h y0 y1) _ _ _ (by omega) (by omega)
  rw [mnF_eq hl h y0 y1]
  exact (F_ok h y0 y1).1
theorem ring_cy (h : free ws ls = []) (h0 : 0 < ws.length) : Cy ws.length (F ws ls) (ring ws ls) := by
  unfold ring
  exact ringF_cy (fun y y0 y1 => (F_ok h y0 y1).1) _ _ _ (Rw.zero h0) (by simp)
theorem ps_ok (hl : ls.length = ws.length) (h : free ws ls = []) (h0 : 0 < ws.length) (h1 : ws.length ≤ 1000) : ROk (PS ws ls) ws.length := ⟨by omega, by omega, by
  rw [PS_eq, table_len]
  have h2 := pairsOf_len ws.length fun a b => gI (gI (tableOf ws ls) a) b
  have h3 : ((ws.length : Int)).toNat * ((ws.length : Int)).toNat ≤ 1000 * 1000 := Nat.mul_le_mul (by omega) (by omega)
  omega, fun q hq => ((PS_mem hl).mp hq).1, fun x x0 x1 => by
  obtain ⟨h2, h3⟩ := F_ok h x0 x1
  exact ⟨(F ws ls x, x), (PS_mem hl).mpr ⟨h2, ⟨x0, x1⟩, h3⟩, rfl⟩⟩
end
end Rg
namespace Rg
open PySem PySem.Spec PyProof.Rows L2 TW Lh Th
/-! the ring goes round -/
section
variable {ls : List (List Int)} {r : List Int}
theorem gI_m1 {α : Type} [Inhabited α] {xs : List α} (h : xs ≠ []) : gI xs (-1) = gI xs (xs.length - 1) := by
  have := List.length_pos_iff.mpr h
  have e : gI xs (-1) = xs.getD (xs.length - 1) default := by
    unfold gI
    rw [if_neg (by omega)]
    congr 1
    omega
  rw [e, gI_nn _ (by omega)]
  congr 1
  omega
/-- whose lot each one gets -/
def src (r : List Int) (p : Int) : Int := if p ∈ r then gI r ((r.idxOf p : Nat) - 1) else p
theorem fold_len (f : Int → Int) (g : Int → List Int) : ∀ (ks : List Int) (t : List (List Int)), (ks.foldl (fun t k => setI t (f k) (g k)) t).length = t.length
  | [], t => rfl
  | k :: ks, t => by rw [List.foldl_cons, fold_len f g ks, setI_len]
theorem rot_len (ls : List (List Int)) (r : List Int) : (rot ls r).length = ls.length := by unfold rot; exact fold_len _ _ _ _
theorem idx_gI {r : List Int} (nd : r.Nodup) {k : Int} (h0 : 0 ≤ k) (h1 : k < r.length) : ((r.idxOf (gI r k) : Nat) : Int) = k := by
  have hm : gI r k ∈ r := gI_mem ⟨by omega, by omega⟩
  have hl := List.idxOf_lt_length_iff.mpr hm
  refine gI_inj nd ⟨by omega, by omega⟩ ⟨h0, h1⟩ ?_
  rw [gI_nat, List.getD_eq_getElem?_getD, List.getElem?_eq_getElem hl, Option.getD_some, List.getElem_idxOf]
theorem rot_pre (nd : r.Nodup) (b : ∀ y ∈ r, 0 ≤ y ∧ y < ls.length) (m : Nat) (hm : m ≤ r.length) {p : Int} (p0 : 0 ≤ p) (p1 : p < ls.length) :
    gI ((rng 0 m).foldl (fun t k => setI t (gI r k) (gI ls (gI r (k - 1)))) ls) p = if p ∈ r ∧ r.idxOf p < m then gI ls (gI r ((r.idxOf p : Nat) - 1)) else gI ls p := by
  induction m with
  | zero => rw [if_neg (by omega)]; unfold rng; rfl
  | succ m ih =>
    have ih := ih (by omega)
    rw [show ((m + 1 : Nat) : Int) = (m : Int) + 1 by omega, rng_succ (by omega), List.foldl_append, List.foldl_cons, List.foldl_nil]
    have hr := b _ (gI_mem (xs := r) (i := (m : Int)) ⟨by omega, by omega⟩)
    have hi := idx_gI nd (k := (m : Int)) (by omega) (by omega)
    have hmm : gI r (m : Int) ∈ r := gI_mem ⟨by omega, by omega⟩
    by_cases e : p = gI r m
    · rw [e, gI_set_eq hr.1 (by rw [fold_len]; exact hr.2), if_pos ⟨hmm, by omega⟩, hi]
    · rw [gI_set_ne hr.1 p0 (fun z => e z.symm), ih]
      have : (p ∈ r ∧ r.idxOf p < m + 1) ↔ (p ∈ r ∧ r.idxOf p < m) := by
        constructor
        · rintro ⟨h1, h2⟩
          refine ⟨h1, ?_⟩
          rcases Nat.lt_or_ge (r.idxOf p) m with z | z
          · exact z
          · exfalso
            apply e
            have hl := List.idxOf_lt_length_iff.mpr h1
            have e2 : r.idxOf p = m := by omega
            rw [gI_nat, List.getD_eq_getElem?_getD, List.getElem?_eq_getElem (by omega), Option.getD_some]
            simp only [← e2, List.getElem_idxOf]
        · rintro ⟨h1, h2⟩; exact ⟨h1, by omega⟩
      simp only [this]
theorem rot_gI (nd : r.Nodup) (b : ∀ y ∈ r, 0 ≤ y ∧ y < ls.length) {p : Int} (p0 : 0 ≤ p) (p1 : p < ls.length) : gI (rot ls r) p = gI ls (src r p) := by
  unfold rot
  rw [rot_pre nd b r.length (Nat.le_refl _) p0 p1]
  unfold src
  by_cases h : p ∈ r
  · rw [if_pos ⟨h, List.idxOf_lt_length_iff.mpr h⟩, if_pos h]
  · rw [if_neg (fun z => h z.1), if_neg h]
theorem perm_sub : ∀ {a b : List Int}, a.Nodup → a ⊆ b → b.length ≤ a.length → a.Perm b
  | [], b, _, _, h => by
    have : b = [] := List.eq_nil_of_length_eq_zero (by simpa using h)
    rw [this]
  | x :: a, b, nd, hs, hl => by
    rw [List.nodup_cons] at nd
    have hx : x ∈ b := hs List.mem_cons_self
    have hp := List.perm_cons_erase hx
    have := perm_sub (a := a) (b := b.erase x) nd.2 (fun y hy => (List.mem_erase_of_ne (fun e => nd.1 (by rw [← e]; exact hy))).mpr (hs (List.mem_cons_of_mem _ hy))) (by rw [List.length_erase_of_mem hx]; rw [List.length_cons] at hl; omega)
    exact (this.cons x).trans hp.symm
theorem src_on (ne : r ≠ []) (b : ∀ y ∈ r, 0 ≤ y ∧ y < (n : Int)) {p : Int} (p0 : 0 ≤ p) (p1 : p < n) : 0 ≤ src r p ∧ src r p < n := by
  unfold src
  split
  · rename_i h
    have := List.idxOf_lt_length_iff.mpr h
    exact b _ (gI_mem ⟨by omega, by omega⟩)
  · exact ⟨p0, p1⟩
theorem rot_perm (ne : r ≠ []) (nd : r.Nodup) (b : ∀ y ∈ r, 0 ≤ y ∧ y < ls.length) : (rot ls r).Perm ls := by
  have e1 : rot ls r = ((rng 0 ls.length).map (src r)).map (gI ls) := by
    rw [List.map_map, ← map_gI (rot ls r), rot_len]
    exact List.map_congr_left fun p hp => rot_gI nd b (mem_rng.mp hp).1 (mem_rng.mp hp).2
  have e2 := map_gI ls
  rw [e1]
  conv => rhs; rw [← e2]
  refine List.Perm.map _ (perm_sub (rng_nodup _ _) (fun q hq => ?_) (Nat.le_of_eq (List.length_map ..))).symm
  obtain ⟨q0, q1⟩ := mem_rng.mp hq
  rw [List.mem_map]
  have hl := List.length_pos_iff.mpr ne
  by_cases hr : q ∈ r
  · have hi := List.idxOf_lt_length_iff.mpr hr
    have hq : gI r (r.idxOf q : Nat) = q := by rw [gI_nat, List.getD_eq_getElem?_getD, List.getElem?_eq_getElem hi, Option.getD_some, List.getElem_idxOf]
    by_cases e : r.idxOf q + 1 = r.length
    · refine ⟨gI r 0, mem_rng.mpr (b _ (gI_mem ⟨by omega, by omega⟩)), ?_⟩
      unfold src
      rw [if_pos (gI_mem ⟨by omega, by omega⟩), idx_gI nd (by omega) (by omega), show (0 : Int) - 1 = -1 from rfl, gI_m1 ne, ← hq]
      congr 1
      omega
    · refine ⟨gI r ((r.idxOf q : Nat) + 1), mem_rng.mpr (b _ (gI_mem ⟨by omega, by omega⟩)), ?_⟩
      unfold src
      rw [if_pos (gI_mem ⟨by omega, by omega⟩), idx_gI nd (by omega) (by omega), show ((r.idxOf q : Nat) : Int) + 1 - 1 = (r.idxOf q : Nat) by omega, hq]
  · refine ⟨q, hq, ?_⟩
    unfold src
    rw [if_neg hr]
end
/-! what is kept -/
section
variable {ws ls : List (List Int)} {pre th : List Int}
structure SI (ws : List (List Int)) (ls : List (List Int)) (pre : List Int) : Prop where
  l : ls.length = ws.length
  pm : ls.flatten.Perm pre
  ef : ∀ i j : Int, 0 ≤ i → i < ws.length → 0 ≤ j → j < ws.length → lt ws ls i j = true → ∃ o ∈ gI ls j, worth (gI ws i) (gI ls j) - gI (gI ws i) o ≤ worth (gI ws i) (gI ls i)
theorem cy_src {r : List Int} (hf : free ws ls = []) (h : Cy ws.length (F ws ls) r) {p : Int} (hp : p ∈ r) : lt ws ls p (src r p) = true := by
  have hi := List.idxOf_lt_length_iff.mpr hp
  have hq : gI r (r.idxOf p : Nat) = p := by rw [gI_nat, List.getD_eq_getElem?_getD, List.getElem?_eq_getElem hi, Option.getD_some, List.getElem_idxOf]
  unfold src
  rw [if_pos hp]
  have key : ∀ k : Int, InB r.length k → lt ws ls (F ws ls (gI r k)) (gI r k) = true := fun k hk => by
    have := h.b _ (gI_mem hk)
    exact (F_ok hf this.1 this.2).2
  by_cases e : r.idxOf p = 0
  · have h1 := h.la
    have h2 := key (r.length - 1) ⟨by omega, by omega⟩
    rw [← h1] at h2
    rw [e, show ((0 : Nat) : Int) - 1 = -1 from rfl, gI_m1 h.ne]
    rw [e] at hq
    have hq2 : gI r 0 = p := hq
    rw [hq2] at h2
    exact h2
  · have h1 := h.ch (r.idxOf p : Nat) (by omega) (by omega)
    have h2 := key ((r.idxOf p : Nat) - 1) ⟨by omega, by omega⟩
    rw [← h1, hq] at h2
    exact h2
theorem rot_own (hf : free ws ls = []) (hl : ls.length = ws.length) {r : List Int} (h : Cy ws.length (F ws ls) r) {i : Int} (i0 : 0 ≤ i) (i1 : i < ws.length) :
    worth (gI ws i) (gI ls i) ≤ worth (gI ws i) (gI (rot ls r) i) ∧ (i ∈ r → worth (gI ws i) (gI ls i) < worth (gI ws i) (gI (rot ls r) i)) := by
  rw [rot_gI h.nd (fun y hy => by rw [hl]; exact h.b y hy) i0 (by omega)]
  by_cases hi : i ∈ r
  · have := of_decide_eq_true (cy_src hf h hi)
    exact ⟨by omega, fun _ => this⟩
  · have : src r i = i := by unfold src; rw [if_neg hi]
    rw [this]
    exact ⟨Int.le_refl _, fun z => absurd z hi⟩
theorem SI.rot (s : SI ws ls pre) (hf : free ws ls = []) {r : List Int} (h : Cy ws.length (F ws ls) r) : SI ws (rot ls r) pre := by
  have b : ∀ y ∈ r, 0 ≤ y ∧ y < ls.length := fun y hy => by rw [s.l]; exact h.b y hy
  refine ⟨by rw [rot_len, s.l], (rot_perm h.ne h.nd b).flatten.trans s.pm, fun i j i0 i1 j0 j1 hlt => ?_⟩
  have ho := (rot_own hf s.l h i0 i1).1
  have hlt := of_decide_eq_true hlt
  have hs := src_on (n := ws.length) h.ne h.b j0 j1
  rw [rot_gI h.nd b j0 (by rw [s.l]; exact j1)] at hlt ⊢
  obtain ⟨o, h1, h2⟩ := s.ef i (src r j) i0 i1 hs.1 hs.2 (decide_eq_true (by omega))
  exact ⟨o, h1, by omega⟩
theorem flat_set {j : Int} {x : Int} (j0 : 0 ≤ j) (j1 : j < ls.length) : (setI ls j (gI ls j ++ [x])).flatten.Perm (ls.flatten ++ [x]) := by
  have hj : j.toNat < ls.length := by omega
  have e : gI ls j = ls[j.toNat] := by rw [gI_nn _ j0, List.getD_eq_getElem?_getD, List.getElem?_eq_getElem hj]; rfl
  have e1 : posI ls.length j = j.toNat := by unfold posI; rw [if_pos j0]
  unfold setI
  rw [e, e1]
  have split : ls = ls.take j.toNat ++ ls[j.toNat] :: ls.drop (j.toNat + 1) := by rw [← List.drop_eq_getElem_cons hj, List.take_append_drop]
  have e2 : ls.set j.toNat (ls[j.toNat] ++ [x]) = ls.take j.toNat ++ (ls[j.toNat] ++ [x]) :: ls.drop (j.toNat + 1) := by rw [List.set_eq_take_append_cons_drop, if_pos hj]
  have e3 : ls.flatten = (ls.take j.toNat).flatten ++ (ls[j.toNat] ++ (ls.drop (j.toNat + 1)).flatten) := by
    conv => lhs; rw [split]
    rw [List.flatten_append, List.flatten_cons]
  rw [e2, e3, List.flatten_append, List.flatten_cons, List.append_assoc, List.append_assoc, List.append_assoc]
  refine List.Perm.append_left _ (List.Perm.append_left _ ?_)
  exact List.perm_append_comm
theorem worth_snoc (row l : List Int) (x : Int) : worth row (l ++ [x]) = worth row l + gI row x := by
  rw [worth_eq, worth_eq, List.map_append, List.sum_append]; simp
theorem SI.give (s : SI ws ls pre) {x : Int} (hx : ∀ i : Int, 0 ≤ i → i < ws.length → 0 ≤ gI (gI ws i) x) (hf : free ws ls ≠ []) : SI ws (setI ls (gI (free ws ls) 0) (gI ls (gI (free ws ls) 0) ++ [x])) (pre ++ [x]) := by
  have hl := List.length_pos_iff.mpr hf
  have hm : gI (free ws ls) 0 ∈ free ws ls := gI_mem ⟨by omega, by omega⟩
  generalize gI (free ws ls) 0 = k at hm ⊢
  obtain ⟨⟨k0, k1⟩, hk⟩ := free_mem.mp hm
  have hno : ∀ i : Int, 0 ≤ i → i < ws.length → worth (gI ws i) (gI ls k) ≤ worth (gI ws i) (gI ls i) := fun i i0 i1 => by
    refine Int.not_lt.mp fun h => ?_
    have : i ∈ fr ws ls k := fr_mem.mpr ⟨⟨i0, i1⟩, decide_eq_true h⟩
    rw [hk] at this; cases this
  refine ⟨by rw [setI_len]; exact s.l, (flat_set k0 (by rw [s.l]; exact k1)).trans (s.pm.append_right _), fun i j i0 i1 j0 j1 hlt => ?_⟩
  have hlt := of_decide_eq_true hlt
  have own : worth (gI ws i) (gI ls i) ≤ worth (gI ws i) (gI (setI ls k (gI ls k ++ [x])) i) := by
    by_cases e : i = k
    · rw [e, gI_set_eq k0 (by rw [s.l]; exact k1), worth_snoc]
      have := hx k k0 k1; omega
    · rw [gI_set_ne k0 i0 (fun z => e z.symm)]; exact Int.le_refl _
  by_cases ej : j = k
  · subst ej
    rw [gI_set_eq j0 (by rw [s.l]; exact j1), worth_snoc]
    have := hno i i0 i1
    exact ⟨x, by simp, by omega⟩
  · rw [gI_set_ne k0 j0 (fun z => ej z.symm)] at hlt ⊢
    obtain ⟨o, h1, h2⟩ := s.ef i j i0 i1 j0 j1 (decide_eq_true (by omega))
    exact ⟨o, h1, by omega⟩
end
end Rg
namespace Rg
open PySem PySem.Spec PyProof.Rows L2 TW Lh Th
/-! until one is free of envy -/
def it (ws : List (List Int)) : Nat → List (List Int) → List (List Int)
  | 0, ls => ls
  | k + 1, ls => it ws k (rot ls (ring ws ls))
inductive Ends (ws : List (List Int)) : List (List Int) → List (List Int) → Prop
  | stop {ls} : free ws ls ≠ [] → Ends ws ls ls
  | go {ls r} : free ws ls = [] → Ends ws (rot ls (ring ws ls)) r → Ends ws ls r
noncomputable def pick (P : List (List Int) → Prop) : List (List Int) := open Classical in if h : ∃ r, P r then h.choose else []
@[irreducible] noncomputable def settle (ws ls : List (List Int)) : List (List Int) := pick (Ends ws ls)
theorem settle_stop {ws ls : List (List Int)} (h : free ws ls ≠ []) : settle ws ls = ls := by
  have hx : ∃ r, Ends ws ls r := ⟨ls, .stop h⟩
  have : pick (Ends ws ls) = hx.choose := by unfold pick; rw [dif_pos hx]
  unfold settle
  rw [this]
  have hc := hx.choose_spec
  generalize hx.choose = r at hc
  cases hc with
  | stop _ => rfl
  | go z _ => exact absurd z h
theorem settle_go {ws ls : List (List Int)} (h : free ws ls = []) : settle ws ls = settle ws (rot ls (ring ws ls)) := by
  unfold settle
  congr 1
  funext r
  apply propext
  constructor
  · intro z
    cases z with
    | stop z => exact absurd h z
    | go _ z => exact z
  · exact .go h
@[irreducible] noncomputable def give (ws : List (List Int)) (ls : List (List Int)) (x : Int) : List (List Int) := setI (settle ws ls) (gI (free ws (settle ws ls)) 0) (gI (settle ws ls) (gI (free ws (settle ws ls)) 0) ++ [x])
theorem give_eq (ws ls : List (List Int)) (x : Int) : give ws ls x = setI (settle ws ls) (gI (free ws (settle ws ls)) 0) (gI (settle ws ls) (gI (free ws (settle ws ls)) 0) ++ [x]) := by unfold give; rfl
@[irreducible] noncomputable def lotsR (ws : List (List Int)) (th : List Int) : List (List Int) := th.foldl (give ws) ((rng 0 ws.length).map fun _ => [])
@[irreducible] def tell (ls : List (List Int)) (m : Int) : List (Option Int) := (rng 0 ls.length).foldl (fun t i => (gI ls i).foldl (fun t o => setI t o (some i)) t) (repL [none] m)
@[irreducible] noncomputable def ringed (ws : List (List Int)) (th : List Int) : List Int := (tell (lotsR ws th) th.length).map fun x => x.getD default
theorem lotsR_snoc (ws : List (List Int)) (pre : List Int) (x : Int) : lotsR ws (pre ++ [x]) = give ws (lotsR ws pre) x := by unfold lotsR; rw [List.foldl_append]; rfl
theorem lotsR_nil (ws : List (List Int)) : lotsR ws [] = (rng 0 ws.length).map fun _ => [] := by unfold lotsR; rfl
section
variable {ws ls : List (List Int)} {pre th : List Int}
theorem Pre.el (h : Pre ws th) {o : Int} (ho : o ∈ th) : 0 ≤ o ∧ o < th.length := mem_rng.mp (h.p.mem_iff.mp ho)
theorem Pre.nd (h : Pre ws th) : th.Nodup := h.p.nodup_iff.mpr (rng_nodup _ _)
theorem Pre.row (h : Pre ws th) {i : Int} (i0 : 0 ≤ i) (i1 : i < ws.length) : gI ws i ∈ ws := gI_mem ⟨by omega, by omega⟩
theorem Pre.x (h : Pre ws th) {x : Int} (hx : x ∈ th) : ∀ i : Int, 0 ≤ i → i < ws.length → 0 ≤ gI (gI ws i) x := fun i i0 i1 => by
  have hr := h.row i0 i1
  have he := h.el hx
  exact (h.c _ hr _ (gI_mem ⟨by rw [h.r _ hr]; omega, by rw [h.r _ hr]; omega⟩)).1
theorem SI.sub (s : SI ws ls pre) (hs : ∀ x ∈ pre, x ∈ th) {l : List Int} (hl : l ∈ ls) : ∀ o ∈ l, o ∈ th := fun o ho => hs o (s.pm.mem_iff.mp (List.mem_flatten.mpr ⟨l, hl, ho⟩))
theorem SI.llen (s : SI ws ls pre) (hp : pre.length ≤ 1000) {l : List Int} (hl : l ∈ ls) : l.length ≤ 1000 := by
  have h1 := (List.sublist_flatten_of_mem hl).length_le
  have h2 := s.pm.length_eq
  omega
theorem SI.sq (s : SI ws ls pre) (h : Pre ws th) (hs : ∀ x ∈ pre, x ∈ th) (hp : pre.length ≤ 1000) : Sq ws ls := ⟨h.n0, h.n, s.l, fun l hl => ⟨s.llen hp hl, fun r hr o ho => by
  have := h.el (s.sub hs hl o ho)
  have := h.r r hr
  exact ⟨by omega, by omega⟩⟩⟩
theorem SI.zero (h : 0 < ws.length) : SI ws ((rng 0 ws.length).map fun _ => []) [] := by
  have g : ∀ i : Int, 0 ≤ i → i < ws.length → gI ((rng 0 (ws.length : Int)).map fun _ => ([] : List Int)) i = [] := fun i i0 i1 => gI_mapR (fun _ => ([] : List Int)) i0 i1
  refine ⟨by rw [List.length_map, rng_len]; omega, ?_, fun i j i0 i1 j0 j1 hlt => ?_⟩
  · have : ((rng 0 (ws.length : Int)).map fun _ => ([] : List Int)).flatten = [] := by
      rw [List.flatten_eq_nil_iff]
      intro l hl
      obtain ⟨_, _, rfl⟩ := List.mem_map.mp hl
      rfl
    rw [this]
  · have := of_decide_eq_true hlt
    rw [g i i0 i1, g j j0 j1] at this
    omega
theorem free_zero (h : 0 < ws.length) : free ws ((rng 0 ws.length).map fun _ => []) ≠ [] := fun e => by
  have g : ∀ i : Int, 0 ≤ i → i < ws.length → gI ((rng 0 (ws.length : Int)).map fun _ => ([] : List Int)) i = [] := fun i i0 i1 => gI_mapR (fun _ => ([] : List Int)) i0 i1
  obtain ⟨i, hi⟩ := List.exists_mem_of_ne_nil _ (fr_ne e (x := 0) (by omega) (by omega))
  obtain ⟨h1, h3⟩ := fr_mem.mp hi
  have := of_decide_eq_true h3
  rw [g i h1.1 h1.2, g 0 (by omega) (by omega)] at this
  omega
/-- what all hold by their own worths -/
@[irreducible] def owns (ws ls : List (List Int)) : Int := ((rng 0 ws.length).map fun i => worth (gI ws i) (gI ls i)).sum
theorem sum_le {f g : Int → Int} : ∀ {xs : List Int}, (∀ x ∈ xs, f x ≤ g x) → (xs.map f).sum ≤ (xs.map g).sum
  | [], _ => by simp
  | x :: xs, h => by
    have h1 := sum_le (xs := xs) fun y hy => h y (List.mem_cons_of_mem _ hy)
    have h2 := h x List.mem_cons_self
    simp only [List.map_cons, List.sum_cons]; omega
theorem sum_lt {f g : Int → Int} : ∀ {xs : List Int}, (∀ x ∈ xs, f x ≤ g x) → (∃ x ∈ xs, f x < g x) → (xs.map f).sum < (xs.map g).sum
  | [], _, ⟨x, hx, _⟩ => by cases hx
  | x :: xs, h, ⟨y, hy, hlt⟩ => by
    have h1 := sum_le (xs := xs) fun y hy => h y (List.mem_cons_of_mem _ hy)
    have h2 := h x List.mem_cons_self
    simp only [List.map_cons, List.sum_cons]
    rcases List.mem_cons.mp hy with rfl | hy
    · omega
    · have := sum_lt (xs := xs) (fun y hy => h y (List.mem_cons_of_mem _ hy)) ⟨y, hy, hlt⟩
      omega
theorem owns_grow (hf : free ws ls = []) (hl : ls.length = ws.length) (h0 : 0 < ws.length) : owns ws ls < owns ws (rot ls (ring ws ls)) := by
  have hc := ring_cy hf h0
  unfold owns
  refine sum_lt (fun i hi => (rot_own hf hl hc (mem_rng.mp hi).1 (mem_rng.mp hi).2).1) ?_
  have hp := List.length_pos_iff.mpr hc.ne
  have hm : gI (ring ws ls) 0 ∈ ring ws ls := gI_mem ⟨by omega, by omega⟩
  have hb := hc.b _ hm
  exact ⟨_, mem_rng.mpr hb, (rot_own hf hl hc hb.1 hb.2).2 hm⟩
theorem sum_cap {f : Int → Int} {c : Int} : ∀ {xs : List Int}, (∀ x ∈ xs, f x ≤ c) → (xs.map f).sum ≤ xs.length * c
  | [], _ => by simp
  | x :: xs, h => by
    have h1 := sum_cap (xs := xs) fun y hy => h y (List.mem_cons_of_mem _ hy)
    have h2 := h x List.mem_cons_self
    simp only [List.map_cons, List.sum_cons, List.length_cons]
    rw [Int.natCast_add, Int.add_mul]
    omega
theorem owns_cap (s : SI ws ls pre) (h : Pre ws th) (hs : ∀ x ∈ pre, x ∈ th) (hp : pre.length ≤ 1000) : owns ws ls ≤ 1000000000000 := by
  unfold owns
  have := sum_cap (xs := rng 0 ws.length) (f := fun i => worth (gI ws i) (gI ls i)) (c := 1000000000) fun i hi => by
    obtain ⟨i0, i1⟩ := mem_rng.mp hi
    have hm : gI ls i ∈ ls := gI_mem ⟨by have := s.l; omega, by have := s.l; omega⟩
    have hr := h.row i0 i1
    show worth (gI ws i) (gI ls i) ≤ _
    rw [worth_eq]
    have := sum_cap (xs := gI ls i) (f := fun o => gI (gI ws i) o) (c := 1000000) fun o ho => by
      have he := h.el (s.sub hs hm o ho)
      exact (h.c _ hr _ (gI_mem ⟨by rw [h.r _ hr]; omega, by rw [h.r _ hr]; omega⟩)).2
    have := s.llen hp hm
    omega
  rw [rng_len] at this
  have := h.n
  omega
theorem SI.go (s : SI ws ls pre) (h0 : 0 < ws.length) (hf : free ws ls = []) : SI ws (Rg.rot ls (ring ws ls)) pre := s.rot hf (ring_cy hf h0)
end
end Rg
namespace Rg
open PySem PySem.Spec PyProof.Rows L2 TW Lh Th
section
variable {ws ls : List (List Int)} {pre th : List Int}
theorem settle_SI (h : Pre ws th) (hs : ∀ x ∈ pre, x ∈ th) (hp : pre.length ≤ 1000) : ∀ (k : Nat) (ls : List (List Int)), (1000000000000 - owns ws ls).toNat ≤ k → SI ws ls pre → SI ws (settle ws ls) pre ∧ free ws (settle ws ls) ≠ []
  | k, ls, hk, s => by
    by_cases hf : free ws ls = []
    · have g := owns_grow hf s.l h.n0
      have s2 := s.go h.n0 hf
      have c2 := owns_cap s2 h hs hp
      rw [settle_go hf]
      match k, hk with
      | 0, hk => omega
      | k + 1, hk => exact settle_SI h hs hp k _ (by omega) s2
    · rw [settle_stop hf]; exact ⟨s, hf⟩
theorem SI.settle (s : SI ws ls pre) (h : Pre ws th) (hs : ∀ x ∈ pre, x ∈ th) (hp : pre.length ≤ 1000) : SI ws (Rg.settle ws ls) pre ∧ free ws (Rg.settle ws ls) ≠ [] := settle_SI h hs hp _ ls (Nat.le_refl _) s
theorem SI.gv (s : SI ws ls pre) (h : Pre ws th) (hs : ∀ x ∈ pre, x ∈ th) (hp : pre.length ≤ 1000) {x : Int} (hx : x ∈ th) : SI ws (Rg.give ws ls x) (pre ++ [x]) := by
  obtain ⟨s1, s2⟩ := s.settle h hs hp
  rw [give_eq]
  exact s1.give (h.x hx) s2
theorem lots_SI (h : Pre ws th) : ∀ (post pre : List Int), th = pre ++ post → SI ws (lotsR ws pre) pre → SI ws (lotsR ws th) th
  | [], pre, e, s => by rw [List.append_nil] at e; rw [e]; exact s
  | x :: post, pre, e, s => by
    refine lots_SI h post (pre ++ [x]) (by rw [e]; simp) ?_
    have := h.t
    rw [lotsR_snoc]
    exact s.gv h (fun y hy => by rw [e]; exact List.mem_append_left _ hy) (by have : th.length = pre.length + (x :: post).length := by rw [e, List.length_append]
                                                                              omega) (by rw [e]; simp)
theorem lots_ok (h : Pre ws th) : SI ws (lotsR ws th) th := lots_SI h th [] rfl (by rw [lotsR_nil]; exact SI.zero h.n0)
/-! the deal that is told -/
theorem inn_len (i : Int) : ∀ (l : List Int) (t : List (Option Int)), (l.foldl (fun t o => setI t o (some i)) t).length = t.length
  | [], t => rfl
  | o :: l, t => by rw [List.foldl_cons, inn_len i l, setI_len]
theorem inn_gI (i : Int) : ∀ (l : List Int) (t : List (Option Int)), (∀ o ∈ l, 0 ≤ o ∧ o < t.length) → ∀ p : Int, 0 ≤ p → p < t.length → gI (l.foldl (fun t o => setI t o (some i)) t) p = if p ∈ l then some i else gI t p
  | [], t, _, p, p0, p1 => by simp
  | o :: l, t, hl, p, p0, p1 => by
    have ho := hl o List.mem_cons_self
    rw [List.foldl_cons, inn_gI i l (setI t o (some i)) (fun q hq => by rw [setI_len]; exact hl q (List.mem_cons_of_mem _ hq)) p p0 (by rw [setI_len]; exact p1)]
    by_cases h1 : p ∈ l
    · rw [if_pos h1, if_pos (List.mem_cons_of_mem _ h1)]
    · rw [if_neg h1]
      by_cases h2 : p = o
      · rw [h2, gI_set_eq ho.1 ho.2, if_pos List.mem_cons_self]
      · rw [gI_set_ne ho.1 p0 (fun e => h2 e.symm), if_neg (by simp [h1, h2])]
theorem out_len : ∀ (ks : List Int) (t : List (Option Int)), (ks.foldl (fun t i => (gI ls i).foldl (fun t o => setI t o (some i)) t) t).length = t.length
  | [], t => rfl
  | k :: ks, t => by rw [List.foldl_cons, out_len ks, inn_len]
theorem out_gI {p q : Int} (p0 : 0 ≤ p) (hq : p ∈ gI ls q) : ∀ (ks : List Int) (t : List (Option Int)), (∀ k ∈ ks, (∀ o ∈ gI ls k, 0 ≤ o ∧ o < t.length) ∧ (p ∈ gI ls k → k = q)) → p < t.length → gI (ks.foldl (fun t i => (gI ls i).foldl (fun t o => setI t o (some i)) t) t) p = if q ∈ ks then some q else gI t p
  | [], t, _, _ => by simp
  | k :: ks, t, h, p1 => by
    have hk := h k List.mem_cons_self
    rw [List.foldl_cons, out_gI p0 hq ks _ (fun j hj => ⟨fun o ho => by rw [inn_len]; exact (h j (List.mem_cons_of_mem _ hj)).1 o ho, (h j (List.mem_cons_of_mem _ hj)).2⟩) (by rw [inn_len]; exact p1), inn_gI k _ _ hk.1 p p0 p1]
    by_cases h1 : q ∈ ks
    · rw [if_pos h1, if_pos (List.mem_cons_of_mem _ h1)]
    · rw [if_neg h1]
      by_cases h2 : p ∈ gI ls k
      · have := hk.2 h2
        rw [if_pos h2, this, if_pos List.mem_cons_self]
      · have : q ≠ k := fun e => h2 (e ▸ hq)
        rw [if_neg h2, if_neg (by simp [h1, this])]
theorem own1 (s : SI ws ls th) (h : Pre ws th) {o p q : Int} (p0 : 0 ≤ p) (p1 : p < ls.length) (q0 : 0 ≤ q) (q1 : q < ls.length) (hp : o ∈ gI ls p) (hq : o ∈ gI ls q) : p = q := by
  have nd : ls.flatten.Nodup := s.pm.nodup_iff.mpr h.nd
  have e : ∀ i : Int, 0 ≤ i → (hi : i < ls.length) → gI ls i = ls[i.toNat]'(by omega) := fun i i0 hi => by rw [gI_nn _ i0, List.getD_eq_getElem?_getD, List.getElem?_eq_getElem (by omega)]; rfl
  have pw := (List.pairwise_flatten.mp nd).2
  rw [List.pairwise_iff_getElem] at pw
  rw [e p p0 p1] at hp
  rw [e q q0 q1] at hq
  rcases Int.lt_trichotomy p q with hlt | rfl | hlt
  · exact absurd rfl (pw p.toNat q.toNat (by omega) (by omega) (by omega) o hp o hq)
  · rfl
  · exact absurd rfl (pw q.toNat p.toNat (by omega) (by omega) (by omega) o hq o hp)
theorem owner (s : SI ws ls th) (h : Pre ws th) {o : Int} (o0 : 0 ≤ o) (o1 : o < th.length) : ∃ p : Int, (0 ≤ p ∧ p < ls.length) ∧ o ∈ gI ls p := by
  have ho : o ∈ ls.flatten := s.pm.mem_iff.mpr (h.p.mem_iff.mpr (mem_rng.mpr ⟨o0, o1⟩))
  obtain ⟨l, hl, hol⟩ := List.mem_flatten.mp ho
  obtain ⟨k, hk, rfl⟩ := List.getElem_of_mem hl
  refine ⟨k, ⟨by omega, by omega⟩, ?_⟩
  rw [gI_nat, List.getD_eq_getElem?_getD, List.getElem?_eq_getElem hk]
  exact hol
theorem tell_gI (s : SI ws ls th) (h : Pre ws th) {o p : Int} (p0 : 0 ≤ p) (p1 : p < ls.length) (ho : o ∈ gI ls p) : gI (tell ls th.length) o = some p := by
  have hm : ∀ q : Int, 0 ≤ q → q < ls.length → gI ls q ∈ ls := fun q q0 q1 => gI_mem ⟨by omega, by omega⟩
  have he := h.el (s.sub (fun _ z => z) (hm p p0 p1) o ho)
  have len : (repL [(none : Option Int)] (th.length : Int)).length = th.length := by rw [rep_none, List.length_map, rng_len]; omega
  unfold tell
  rw [out_gI he.1 ho _ _ (fun k hk => ?_) (by rw [len]; exact he.2), if_pos (mem_rng.mpr ⟨p0, p1⟩)]
  obtain ⟨k0, k1⟩ := mem_rng.mp hk
  exact ⟨fun x hx => by rw [len]; exact h.el (s.sub (fun _ z => z) (hm k k0 k1) x hx), fun hk2 => own1 s h k0 k1 p0 p1 hk2 ho⟩
theorem tell_len (ls : List (List Int)) (m : Nat) : (tell ls m).length = m := by
  unfold tell
  rw [out_len, rep_none, List.length_map, rng_len]; omega
theorem tell_all (s : SI ws ls th) (h : Pre ws th) : ∀ x ∈ tell ls th.length, x.isSome = true := fun x hx => by
  obtain ⟨k, hk, rfl⟩ := List.getElem_of_mem hx
  have hk2 : k < th.length := by rw [tell_len] at hk; exact hk
  obtain ⟨p, hp, ho⟩ := owner s h (o := (k : Int)) (by omega) (by omega)
  have := tell_gI s h hp.1 hp.2 ho
  rw [gI_nat, List.getD_eq_getElem?_getD, List.getElem?_eq_getElem hk, Option.getD_some] at this
  rw [this]; rfl
theorem ringed_eq (ws : List (List Int)) (th : List Int) : ringed ws th = (tell (lotsR ws th) th.length).map fun x => x.getD default := by unfold ringed; rfl
theorem ringed_len (ws : List (List Int)) (th : List Int) : (ringed ws th).length = th.length := by rw [ringed_eq, List.length_map, tell_len]
theorem ringed_gI (h : Pre ws th) {o p : Int} (p0 : 0 ≤ p) (p1 : p < (lotsR ws th).length) (ho : o ∈ gI (lotsR ws th) p) : gI (ringed ws th) o = p := by
  have s := lots_ok h
  have he := h.el (s.sub (fun _ z => z) (gI_mem (xs := lotsR ws th) (i := p) ⟨by omega, by omega⟩) o ho)
  rw [ringed_eq, gI_map _ ⟨by rw [tell_len]; omega, by rw [tell_len]; omega⟩, tell_gI s h p0 p1 ho]; rfl
theorem ringed_lot (h : Pre ws th) {p : Int} (p0 : 0 ≤ p) (p1 : p < (lotsR ws th).length) : (lot (ringed ws th) p).Perm (gI (lotsR ws th) p) := by
  have s := lots_ok h
  have hm : gI (lotsR ws th) p ∈ lotsR ws th := gI_mem ⟨by omega, by omega⟩
  have nd : (lotsR ws th).flatten.Nodup := s.pm.nodup_iff.mpr h.nd
  have n1 := (List.pairwise_flatten.mp nd).1 _ hm
  have n2 : (lot (ringed ws th) p).Nodup := by unfold lot; exact List.Pairwise.filter _ (rng_nodup _ _)
  refine (List.perm_ext_iff_of_nodup n2 n1).mpr fun o => ?_
  rw [lot_mem, ringed_len]
  constructor
  · rintro ⟨h1, h2⟩
    obtain ⟨q, hq, ho⟩ := owner s h h1.1 h1.2
    have := ringed_gI h hq.1 hq.2 ho
    rw [h2] at this
    rw [this]; exact ho
  · intro ho
    exact ⟨h.el (s.sub (fun _ z => z) hm o ho), ringed_gI h p0 p1 ho⟩
theorem worth_perm {row a b : List Int} (h : a.Perm b) : worth row a = worth row b := by
  rw [worth_eq, worth_eq]
  have : ∀ {x y : List Int}, x.Perm y → x.sum = y.sum := fun h => by
    induction h with
    | nil => rfl
    | cons _ _ ih => rw [List.sum_cons, List.sum_cons, ih]
    | swap => simp only [List.sum_cons]; omega
    | trans _ _ i1 i2 => rw [i1, i2]
  exact this (h.map _)
theorem ringed_free1 (h : Pre ws th) : free1 ws (ringed ws th) = true := by
  have s := lots_ok h
  rw [free1_eq]
  refine decide_eq_true fun q hq => ?_
  obtain ⟨h1, h2, h3⟩ := env_mem.mp hq
  have hl := s.l
  have v : ∀ i j : Int, 0 ≤ j → j < ws.length → worth (gI ws i) (lot (ringed ws th) j) = worth (gI ws i) (gI (lotsR ws th) j) := fun i j j0 j1 => worth_perm (ringed_lot h j0 (by omega))
  unfold val at h3
  rw [but1_iff, v _ _ h2.1 h2.2, v _ _ h1.1 h1.2]
  rw [v _ _ h2.1 h2.2, v _ _ h1.1 h1.2] at h3
  obtain ⟨o, o1, o2⟩ := s.ef q.1 q.2 h1.1 h1.2 h2.1 h2.2 (decide_eq_true h3)
  have := le_mxI (List.mem_map.mpr ⟨o, (ringed_lot h h2.1 (by omega)).mem_iff.mpr o1, rfl⟩ : gI (gI ws q.1) o ∈ (lot (ringed ws th) q.2).map fun o => gI (gI ws q.1) o)
  omega
theorem ringed_vals (h : Pre ws th) : ∀ i ∈ ringed ws th, 0 ≤ i ∧ i < ws.length := fun i hi => by
  have s := lots_ok h
  obtain ⟨k, hk, rfl⟩ := List.getElem_of_mem hi
  have hk2 : k < th.length := by rw [ringed_len] at hk; exact hk
  obtain ⟨p, hp, ho⟩ := owner s h (o := (k : Int)) (by omega) (by omega)
  have := ringed_gI h hp.1 hp.2 ho
  rw [gI_nat, List.getD_eq_getElem?_getD, List.getElem?_eq_getElem hk, Option.getD_some] at this
  rw [this]
  have := s.l
  omega
theorem ringed_ok (h : Pre ws th) : Ok ws (ringed ws th) := ⟨h.n, by rw [ringed_len]; exact h.t, fun r hr => by rw [ringed_len]; exact h.r r hr, fun r hr x hx => (h.c r hr x hx).1⟩
theorem ringed_deal (h : Pre ws th) : isDeal (ringed ws th) ws.length th.length = true := by
  unfold isDeal
  rw [ringed_len, decide_eq_true rfl, decide_eq_true (ringed_vals h)]; rfl
end
end Rg
namespace Rg
open PySem PySem.Spec PyProof.Rows L2 TW Lh Th
theorem rot_eq (ls : List (List Int)) (r : List Int) : rot ls r = (rng 0 r.length).foldl (fun t k => setI t (gI r k) (gI ls (gI r (k - 1)))) ls := by unfold rot; rfl
theorem rot_enum (ls : List (List Int)) (r : List Int) : (enum r).foldl (fun t q => setI t q.2 (gI ls (gI r (q.1 - 1)))) ls = rot ls r := by
  rw [rot_eq, Th.enum_eq, List.foldl_map]
theorem tell_enum (ls : List (List Int)) (m : Int) : (enum ls).foldl (fun t q => q.2.foldl (fun t o => setI t o (some q.1)) t) (repL [none] m) = tell ls m := by
  unfold tell
  rw [Th.enum_gen, List.foldl_map]
theorem foldP_len (g : Int → List Int) : ∀ (ks : List (Int × Int)) (t : List (List Int)), (ks.foldl (fun t q => setI t q.2 (g q.1)) t).length = t.length
  | [], t => rfl
  | k :: ks, t => by rw [List.foldl_cons, foldP_len g ks, setI_len]
theorem foldT_len : ∀ (ks : List (Int × List Int)) (t : List (Option Int)), (ks.foldl (fun t q => q.2.foldl (fun t o => setI t o (some q.1)) t) t).length = t.length
  | [], t => rfl
  | k :: ks, t => by rw [List.foldl_cons, foldT_len ks, inn_len]
theorem rep_len (m : Nat) : (repL [(none : Option Int)] (m : Int)).length = m := by rw [rep_none, List.length_map, rng_len]; omega
theorem pairs_ok {ws ls : List (List Int)} (sq : Sq ws ls) : ((ws.length ≤ 1000 ∧ ls.length ≤ 1000 ∧ ∀ l ∈ ls, l.length ≤ 1000 ∧ ∀ r ∈ ws, ∀ o ∈ l, InB r.length o) ∧ (tableOf ws ls).length ≤ 1000 ∧ ∀ r ∈ tableOf ws ls, (tableOf ws ls).length ≤ r.length) := by
  have hl := sq.l
  have hn := sq.n
  have tl := table_len ws ls
  exact ⟨⟨hn, by omega, sq.s⟩, by omega, fun r hr => by rw [table_row hr]; omega⟩
end Rg
namespace Rg
open PySem PySem.Spec PyProof.Rows L2 TW Lh Th
theorem cut_mid {α : Type} (xs : List α) (x : α) {k : Nat} (hk : k ≤ xs.length) : cutL (xs ++ [x]) (some (k : Int)) (some (-1)) = xs.drop k := by
  unfold cutL HT.sIx
  simp only [List.length_append, List.length_singleton]
  have e1 : ∀ a : Nat, a = k → ∀ b : Nat, b = xs.length → ((xs ++ [x]).drop a).take (b - a) = xs.drop k := fun a ha b hb => by
    rw [ha, hb, List.drop_append_of_le_length hk, List.take_append_of_le_length (by rw [List.length_drop]; omega), List.take_of_length_le (by rw [List.length_drop]; omega)]
  refine e1 _ ?_ _ ?_
  · split <;> omega
  · split <;> omega
section
variable {ws ls : List (List Int)}
theorem tb1 (sq : Sq ws ls) : ∀ x ∈ rng 0 (ws.length : Int), ls.length ≤ sizeLine ∧ ∀ l ∈ ls, InB ws.length x ∧ l.length ≤ 100000 ∧ ∀ o ∈ l, InB (gI ws x).length o := fun x hx => by
  obtain ⟨x0, x1⟩ := mem_rng.mp hx
  have hl := sq.l
  have hn := sq.n
  refine ⟨sz (by omega), fun l hm => ⟨⟨by omega, by omega⟩, by have := (sq.s l hm).1; omega, fun o ho => (sq.s l hm).2 _ (gI_mem ⟨by omega, by omega⟩) o ho⟩⟩
theorem tb2 (sq : Sq ws ls) {x y : Int} (x0 : 0 ≤ x) (x1 : x < ws.length) (y0 : 0 ≤ y) (y1 : y < ws.length) : InB (tableOf ws ls).length y ∧ InB (gI (tableOf ws ls) y).length x := by
  have tl := table_len ws ls
  have hl := sq.l
  have hm : gI (tableOf ws ls) y ∈ tableOf ws ls := gI_mem ⟨by omega, by omega⟩
  have := table_row hm
  exact ⟨⟨by omega, by omega⟩, ⟨by omega, by omega⟩⟩
theorem tb3 (sq : Sq ws ls) : ∀ x ∈ rng 0 (ws.length : Int), ∀ y ∈ rng 0 (ws.length : Int), ((InB (tableOf ws ls).length y ∧ InB (gI (tableOf ws ls) y).length x) ∧ InB (tableOf ws ls).length y ∧ InB (gI (tableOf ws ls) y).length y) := fun x hx y hy => by
  obtain ⟨x0, x1⟩ := mem_rng.mp hx
  obtain ⟨y0, y1⟩ := mem_rng.mp hy
  exact ⟨tb2 sq x0 x1 y0 y1, tb2 sq y0 y1 y0 y1⟩
theorem frT (hl : ls.length = ws.length) {j : Int} (j0 : 0 ≤ j) (j1 : j < ws.length) : (rng 0 (ws.length : Int)).filter (fun i => decide (gI (gI (tableOf ws ls) i) i < gI (gI (tableOf ws ls) i) j)) = fr ws ls j := by
  rw [fr_eq]
  refine List.filter_congr fun i hi => ?_
  obtain ⟨i0, i1⟩ := mem_rng.mp hi
  rw [gI_table ⟨i0, i1⟩ ⟨i0, by omega⟩, gI_table ⟨i0, i1⟩ ⟨j0, by omega⟩]; rfl
theorem freeT (hl : ls.length = ws.length) : (rng 0 (ws.length : Int)).filter (fun j => decide ((rng 0 (ws.length : Int)).filter (fun i => decide (gI (gI (tableOf ws ls) i) i < gI (gI (tableOf ws ls) i) j)) = [])) = free ws ls := by
  rw [free_eq]
  refine List.filter_congr fun j hj => ?_
  obtain ⟨j0, j1⟩ := mem_rng.mp hj
  rw [frT hl j0 j1]
theorem foldR_len (f : Int → Int) (g : Int → List Int) (ks : List Int) (t : List (List Int)) : (ks.foldl (fun t k => setI t (f k) (g k)) t).length = t.length := fold_len f g ks t
end
end Rg

set_option maxRecDepth 100000
/-! rooms -/
namespace Rm
open PySem PySem.Spec PyProof.Rows L2 TW Lh
abbrev lxI : List Int → List Int → Bool := lxLt (fun a b : Int => decide (a < b))
/-! all ways -/
def nxt (n : Int) (x : List Int) : List (List Int) := ((rng 0 n).filter fun o => !decide (o ∈ x)).map fun o => x ++ [o]
def apN (n : Int) : Nat → List (List Int)
  | 0 => [[]]
  | k + 1 => (apN n k).flatMap (nxt n)
@[irreducible] def AP (n : Int) : List (List Int) := apN n n.toNat
theorem AP_eq (n : Int) : AP n = apN n n.toNat := by unfold AP; rfl
theorem nxt_len (n : Int) (x : List Int) : (nxt n x).length ≤ n.toNat := by
  unfold nxt
  rw [List.length_map]
  refine Nat.le_trans (List.length_filter_le _ _) ?_
  rw [rng_len]; omega
theorem fm_len {f : List Int → List (List Int)} {m : Nat} (h : ∀ x, (f x).length ≤ m) : ∀ l : List (List Int), (l.flatMap f).length ≤ m * l.length
  | [] => by simp
  | x :: l => by
    have := fm_len h l
    have := h x
    rw [List.flatMap_cons, List.length_append, List.length_cons, Nat.mul_succ]; omega
theorem apN_len (n : Int) : ∀ k, (apN n k).length ≤ n.toNat ^ k
  | 0 => by simp [apN]
  | k + 1 => by
    rw [apN, Nat.pow_succ, Nat.mul_comm]
    exact Nat.le_trans (fm_len (nxt_len n) _) (Nat.mul_le_mul_left _ (apN_len n k))
theorem pow5 {n k : Nat} (h : n ≤ 5) (hk : k ≤ n) : n ^ k ≤ 3125 := by
  have : n ^ k ≤ 5 ^ k := Nat.pow_le_pow_left h k
  have : 5 ^ k ≤ 5 ^ 5 := Nat.pow_le_pow_right (by decide) (by omega)
  omega
theorem nxt_mem {n : Int} {x y : List Int} : y ∈ nxt n x ↔ ∃ o, 0 ≤ o ∧ o < n ∧ o ∉ x ∧ y = x ++ [o] := by
  unfold nxt
  simp only [List.mem_map, List.mem_filter, mem_rng, Bool.not_eq_true', decide_eq_false_iff_not]
  constructor
  · rintro ⟨o, ⟨⟨a, b⟩, c⟩, d⟩; exact ⟨o, a, b, c, d.symm⟩
  · rintro ⟨o, a, b, c, d⟩; exact ⟨o, ⟨⟨a, b⟩, c⟩, d.symm⟩
structure Wy (n : Int) (k : Nat) (x : List Int) : Prop where
  l : x.length = k
  nd : x.Nodup
  b : ∀ o ∈ x, 0 ≤ o ∧ o < n
theorem apN_mem (n : Int) : ∀ (k : Nat) (x : List Int), x ∈ apN n k ↔ Wy n k x
  | 0, x => by
    simp only [apN, List.mem_singleton]
    constructor
    · rintro rfl; exact ⟨rfl, .nil, fun o h => by cases h⟩
    · intro h; exact List.eq_nil_of_length_eq_zero h.l
  | k + 1, x => by
    rw [apN, List.mem_flatMap]
    constructor
    · rintro ⟨y, hy, hx⟩
      have w := (apN_mem n k y).mp hy
      obtain ⟨o, o0, o1, no, rfl⟩ := nxt_mem.mp hx
      refine ⟨by rw [List.length_append, w.l]; rfl, List.nodup_append.mpr ⟨w.nd, by simp, fun a ha b hb e => no (by rw [List.mem_singleton.mp hb] at e; rw [← e]; exact ha)⟩, fun p hp => ?_⟩
      rcases List.mem_append.mp hp with hp | hp
      · exact w.b p hp
      · rw [List.mem_singleton.mp hp]; exact ⟨o0, o1⟩
    · intro h
      have hne : x ≠ [] := fun z => by have := h.l; rw [z] at this; cases this
      obtain ⟨y, o, rfl⟩ : ∃ y o, x = y ++ [o] := ⟨x.dropLast, x.getLast hne, (List.dropLast_concat_getLast hne).symm⟩
      have nd := List.nodup_append.mp h.nd
      refine ⟨y, (apN_mem n k y).mpr ⟨by have := h.l; rw [List.length_append, List.length_singleton] at this; omega, nd.1, fun p hp => h.b p (List.mem_append_left _ hp)⟩, nxt_mem.mpr ⟨o, (h.b o (by simp)).1, (h.b o (by simp)).2, fun z => nd.2.2 o z o (by simp) rfl, rfl⟩⟩
/-! rising order -/
theorem lx_pre : ∀ {a b : List Int} {x y : Int}, a.length = b.length → lxI a b = true → lxI (a ++ [x]) (b ++ [y]) = true
  | [], [], _, _, _, h => by simp [lxI, lxLt] at h
  | a :: as, b :: bs, x, y, hl, h => by
    have hl : as.length = bs.length := by simpa using hl
    show (if a = b then lxI (as ++ [x]) (bs ++ [y]) else decide (a < b)) = true
    have h : (if a = b then lxI as bs else decide (a < b)) = true := h
    split
    · rename_i e; rw [if_pos e] at h; exact lx_pre hl h
    · rename_i e; rw [if_neg e] at h; exact h
theorem lx_last : ∀ {a : List Int} {x y : Int}, x < y → lxI (a ++ [x]) (a ++ [y]) = true
  | [], x, y, h => by
    show (if x = y then lxI [] [] else decide (x < y)) = true
    rw [if_neg (by omega)]; exact decide_eq_true h
  | a :: as, x, y, h => by
    show (if a = a then lxI (as ++ [x]) (as ++ [y]) else decide (a < a)) = true
    rw [if_pos rfl]; exact lx_last h
theorem rng_up (a b : Int) : (rng a b).Pairwise (· < ·) := by
  unfold rng
  rw [List.pairwise_map]
  exact List.pairwise_lt_range.imp fun h => by omega
theorem apN_up (n : Int) : ∀ k, (apN n k).Pairwise fun a b => lxI a b = true
  | 0 => by simp [apN]
  | k + 1 => by
    rw [apN]
    have key : ∀ l : List (List Int), (∀ x ∈ l, x.length = k) → l.Pairwise (fun a b => lxI a b = true) → (l.flatMap (nxt n)).Pairwise fun a b => lxI a b = true := by
      intro l
      induction l with
      | nil => intro _ _; simp
      | cons x l ih =>
        intro hl hp
        rw [List.pairwise_cons] at hp
        rw [List.flatMap_cons]
        refine List.pairwise_append.mpr ⟨?_, ih (fun y hy => hl y (List.mem_cons_of_mem _ hy)) hp.2, fun a ha b hb => ?_⟩
        · unfold nxt
          rw [List.pairwise_map]
          exact ((rng_up 0 n).sublist List.filter_sublist).imp fun h => lx_last h
        · obtain ⟨o, _, _, _, rfl⟩ := nxt_mem.mp ha
          obtain ⟨y, hy, hb⟩ := List.mem_flatMap.mp hb
          obtain ⟨p, _, _, _, rfl⟩ := nxt_mem.mp hb
          exact lx_pre (by rw [hl x List.mem_cons_self, hl y (List.mem_cons_of_mem _ hy)]) (hp.1 y hy)
    exact key _ (fun x hx => ((apN_mem n k x).mp hx).l) (apN_up n k)
/-! the first of the greatest -/
def bf (s : List Int → Int) (t : Option (List Int)) (x : List Int) : Option (List Int) := if (t.isNone || decide (s (t.getD default) < s x)) = true then some x else t
structure Fm (s : List Int → Int) (l : List (List Int)) (r : List Int) : Prop where
  m : r ∈ l
  mx : ∀ x ∈ l, s x ≤ s r
  fst : l.Pairwise (fun a b => lxI a b = true) → ∀ x ∈ l, s x = s r → x = r ∨ lxI r x = true
theorem Fm.one (s : List Int → Int) (x : List Int) : Fm s [x] x := ⟨by simp, fun y hy => by rw [List.mem_singleton.mp hy]; exact Int.le_refl _, fun _ y hy _ => .inl (List.mem_singleton.mp hy)⟩
theorem Fm.next {s : List Int → Int} {l : List (List Int)} {r x : List Int} (h : Fm s l r) : (s r < s x → Fm s (l ++ [x]) x) ∧ (¬ s r < s x → Fm s (l ++ [x]) r) := by
  constructor
  · intro c
    refine ⟨by simp, fun y hy => ?_, fun _ y hy e => ?_⟩
    · rcases List.mem_append.mp hy with hy | hy
      · have := h.mx y hy; omega
      · rw [List.mem_singleton.mp hy]; exact Int.le_refl _
    · rcases List.mem_append.mp hy with hy | hy
      · have := h.mx y hy; omega
      · exact .inl (List.mem_singleton.mp hy)
  · intro c
    refine ⟨List.mem_append_left _ h.m, fun y hy => ?_, fun p y hy e => ?_⟩
    · rcases List.mem_append.mp hy with hy | hy
      · exact h.mx y hy
      · rw [List.mem_singleton.mp hy]; omega
    · have q := List.pairwise_append.mp p
      rcases List.mem_append.mp hy with hy | hy
      · exact h.fst q.1 y hy e
      · exact .inr (q.2.2 r h.m y hy)
theorem Fm.uniq {s : List Int → Int} {l : List (List Int)} {r q : List Int} (hp : l.Pairwise fun a b => lxI a b = true) (as : ∀ a b, lxI a b = true → lxI b a = false) (h : Fm s l r) (k : Fm s l q) : r = q := by
  have e : s r = s q := Int.le_antisymm (k.mx r h.m) (h.mx q k.m)
  rcases h.fst hp q k.m e.symm with z | z
  · exact z.symm
  · rcases k.fst hp r h.m e with y | y
    · exact y
    · have := as _ _ z; rw [y] at this; cases this
def sumR (ws : List (List Int)) (r : List Int) : Int := ((ws.zip r).map fun x => gI x.1 x.2).sum
structure Tb (ws : List (List Int)) : Prop where
  n : 1 ≤ ws.length ∧ ws.length ≤ 5
  sq : ∀ row ∈ ws, row.length = ws.length
open Classical in
@[irreducible] noncomputable def bestR (ws : List (List Int)) : List Int := if h : ∃ r, Fm (sumR ws) (AP ws.length) r then Classical.choose h else []
theorem lx_as (a b : List Int) : lxI a b = true → lxI b a = false := Th.lx_asym a b
theorem AP_up (n : Int) : (AP n).Pairwise fun a b => lxI a b = true := by rw [AP_eq]; exact apN_up n _
theorem AP_mem {n : Nat} {x : List Int} : x ∈ AP (n : Int) ↔ Wy (n : Int) n x := by rw [AP_eq]; exact apN_mem _ _ _
theorem AP_few {n : Nat} (h : n ≤ 5) : (AP (n : Int)).length ≤ 3125 := by
  rw [AP_eq]
  exact Nat.le_trans (apN_len _ _) (pow5 (n := (n : Int).toNat) (by omega) (by omega))
theorem bestR_eq {ws : List (List Int)} {r : List Int} (h : Fm (sumR ws) (AP ws.length) r) : r = bestR ws := by
  unfold bestR
  have h' : ∃ r, Fm (sumR ws) (AP ws.length) r := ⟨r, h⟩
  rw [dif_pos h']
  exact Fm.uniq (AP_up _) lx_as h (Classical.choose_spec h')
theorem fm_ex (s : List Int → Int) : ∀ l : List (List Int), l ≠ [] → ∃ r, Fm s l r := by
  intro l
  induction l using snoc_ind with
  | nil => intro h; exact absurd rfl h
  | snoc l x ih =>
    intro _
    by_cases c : l = []
    · subst c; exact ⟨x, Fm.one s x⟩
    · obtain ⟨r, hr⟩ := ih c
      by_cases d : s r < s x
      · exact ⟨x, hr.next.1 d⟩
      · exact ⟨r, hr.next.2 d⟩
theorem idR (n : Nat) : Wy (n : Int) n (rng 0 (n : Int)) := ⟨by rw [rng_len]; omega, rng_nodup _ _, fun o h => mem_rng.mp h⟩
theorem AP_ne (n : Nat) : AP (n : Int) ≠ [] := fun z => by
  have := AP_mem.mpr (idR n)
  rw [z] at this; cases this
theorem bestR_ok (ws : List (List Int)) : Fm (sumR ws) (AP ws.length) (bestR ws) := by
  obtain ⟨r, h⟩ := fm_ex (sumR ws) (AP ws.length) (AP_ne _)
  rw [← bestR_eq h]; exact h
theorem bestR_wy (ws : List (List Int)) : Wy ws.length ws.length (bestR ws) := AP_mem.mp (bestR_ok ws).m
end Rm

set_option maxRecDepth 100000
/-! rings of rooms -/
namespace Rm
open PySem PySem.Spec PyProof.Rows L2 TW Lh
variable {n : Nat}
theorem Wy.mem {x : List Int} (h : Wy n n x) {v : Int} (v0 : 0 ≤ v) (v1 : v < n) : v ∈ x := by
  have := Rg.perm_sub (a := x) (b := rng 0 (n : Int)) h.nd (fun y hy => mem_rng.mpr (h.b y hy)) (by rw [rng_len, h.l]; omega)
  exact this.mem_iff.mpr (mem_rng.mpr ⟨v0, v1⟩)
theorem Wy.at {x : List Int} (h : Wy n n x) {i : Int} (i0 : 0 ≤ i) (i1 : i < n) : 0 ≤ gI x i ∧ gI x i < n := h.b _ (gI_mem ⟨by have := h.l; omega, by have := h.l; omega⟩)
theorem gI_inj {x : List Int} (nd : x.Nodup) {i j : Int} (i0 : 0 ≤ i) (i1 : i < x.length) (j0 : 0 ≤ j) (j1 : j < x.length) (e : gI x i = gI x j) : i = j := by
  rw [← Rg.idx_gI nd i0 i1, ← Rg.idx_gI nd j0 j1, e]
theorem gI_idx {x : List Int} {v : Int} (h : v ∈ x) : gI x (x.idxOf v : Nat) = v := by
  rw [gI_nat, List.getD_eq_getElem?_getD, List.getElem?_eq_getElem (List.idxOf_lt_length_of_mem h)]
  exact List.getElem_idxOf _
def fI (best rooms : List Int) (i : Int) : Int := (rooms.idxOf (gI best i) : Nat)
theorem fI_ok {best rooms : List Int} (hb : Wy n n best) (hr : Wy n n rooms) {i : Int} (i0 : 0 ≤ i) (i1 : i < n) : (0 ≤ fI best rooms i ∧ fI best rooms i < n) ∧ gI rooms (fI best rooms i) = gI best i := by
  have m := hr.mem (hb.at i0 i1).1 (hb.at i0 i1).2
  refine ⟨⟨by unfold fI; omega, ?_⟩, gI_idx m⟩
  have := List.idxOf_lt_length_of_mem m
  have := hr.l
  unfold fI; omega
theorem fI_inj {best rooms : List Int} (hb : Wy n n best) (hr : Wy n n rooms) {i j : Int} (i0 : 0 ≤ i) (i1 : i < n) (j0 : 0 ≤ j) (j1 : j < n) (e : fI best rooms i = fI best rooms j) : i = j := by
  have a := (fI_ok hb hr i0 i1).2
  have b := (fI_ok hb hr j0 j1).2
  rw [e, b] at a
  have l := hb.l
  exact gI_inj hb.nd i0 (by omega) j0 (by omega) a.symm
structure Or (f : Int → Int) (n : Nat) (s : Int) (r : List Int) : Prop where
  ne : 0 < r.length
  h0 : gI r 0 = s
  nd : r.Nodup
  b : ∀ y ∈ r, 0 ≤ y ∧ y < n
  ch : ∀ k : Int, 0 ≤ k → k + 1 < r.length → gI r (k + 1) = f (gI r k)
theorem Or.one {f : Int → Int} {s : Int} (s0 : 0 ≤ s) (s1 : s < n) : Or f n s [s] := ⟨by simp, by rw [gI_cons0], by simp, fun y hy => by rw [List.mem_singleton.mp hy]; exact ⟨s0, s1⟩, fun k k0 k1 => by simp at k1; omega⟩
theorem Or.len {f : Int → Int} {s : Int} {r : List Int} (h : Or f n s r) : r.length ≤ n := Rg.nd_len h.nd h.b
theorem gI_last {r : List Int} (h : 0 < r.length) : gI r (-1) = gI r (r.length - 1) := Rg.gI_m1 (fun z => by rw [z] at h; simp at h)
theorem Or.last {f : Int → Int} {s : Int} {r : List Int} (h : Or f n s r) : gI r (-1) ∈ r := gI_mem ⟨by have := h.ne; omega, by have := h.ne; omega⟩
theorem mem_gI {r : List Int} {y : Int} (h : y ∈ r) : ∃ k : Int, 0 ≤ k ∧ k < r.length ∧ gI r k = y := by
  refine ⟨(r.idxOf y : Nat), by omega, ?_, gI_idx h⟩
  have := List.idxOf_lt_length_of_mem h
  omega
/-- a map that is one to one -/
structure Inj (f : Int → Int) (n : Nat) : Prop where
  b : ∀ i : Int, 0 ≤ i → i < n → 0 ≤ f i ∧ f i < n
  i : ∀ i j : Int, 0 ≤ i → i < n → 0 ≤ j → j < n → f i = f j → i = j
theorem Or.next {f : Int → Int} (hf : Inj f n) {s : Int} {r : List Int} (h : Or f n s r) (hc : f (gI r (-1)) ≠ s) : Or f n s (r ++ [f (gI r (-1))]) := by
  have ne := h.ne
  have bl := h.b _ h.last
  have no : f (gI r (-1)) ∉ r := fun z => by
    obtain ⟨k, k0, k1, e⟩ := mem_gI z
    by_cases c : k = 0
    · rw [c, h.h0] at e; exact hc e.symm
    · have ek := h.ch (k - 1) (by omega) (by omega)
      rw [show k - 1 + 1 = k by omega, e] at ek
      have bk := h.b _ (gI_mem (xs := r) (i := k - 1) ⟨by omega, by omega⟩)
      have := hf.i _ _ bl.1 bl.2 bk.1 bk.2 ek
      rw [gI_last ne] at this
      have := gI_inj h.nd (by omega) (by omega) (by omega) (by omega) this
      omega
  refine ⟨by simp, ?_, List.nodup_append.mpr ⟨h.nd, by simp, fun a ha b hb e => no (by rw [List.mem_singleton.mp hb] at e; rw [← e]; exact ha)⟩, fun y hy => ?_, fun k k0 k1 => ?_⟩
  · rw [Rg.gI_app1 (by omega) (by omega)]; exact h.h0
  · rcases List.mem_append.mp hy with hy | hy
    · exact h.b y hy
    · rw [List.mem_singleton.mp hy]; exact hf.b _ bl.1 bl.2
  · rw [List.length_append, List.length_singleton] at k1
    by_cases c : k + 1 < r.length
    · rw [Rg.gI_app1 (by omega) (by omega), Rg.gI_app1 (by omega) (by omega)]; exact h.ch k k0 c
    · have e : k + 1 = r.length := by omega
      rw [e, Rg.gI_appl, Rg.gI_app1 (by omega) (by omega), gI_last ne, show ((r.length : Int) - 1) = k by omega]
/-- a ring -/
structure Ri (f : Int → Int) (n : Nat) (s : Int) (r : List Int) : Prop extends Or f n s r where
  cl : f (gI r (-1)) = s
theorem Ri.f_in {f : Int → Int} {s : Int} {r : List Int} (h : Ri f n s r) {y : Int} (hy : y ∈ r) : f y ∈ r := by
  obtain ⟨k, k0, k1, e⟩ := mem_gI hy
  by_cases c : k + 1 < r.length
  · rw [← e, ← h.ch k k0 c]; exact gI_mem ⟨by omega, by omega⟩
  · have ek : k = r.length - 1 := by omega
    rw [← e, ek, ← gI_last h.ne, h.cl, ← h.h0]; exact gI_mem ⟨by omega, by have := h.ne; omega⟩
theorem Ri.f_on {f : Int → Int} {s : Int} {r : List Int} (h : Ri f n s r) {y : Int} (hy : y ∈ r) : ∃ x ∈ r, f x = y := by
  obtain ⟨k, k0, k1, e⟩ := mem_gI hy
  by_cases c : k = 0
  · rw [c, h.h0] at e
    exact ⟨_, h.last, by rw [h.cl, e]⟩
  · refine ⟨gI r (k - 1), gI_mem ⟨by omega, by omega⟩, ?_⟩
    have := h.ch (k - 1) (by omega) (by omega)
    rw [← this, show k - 1 + 1 = k by omega, e]
theorem nd_perm {a b : List Int} (ha : a.Nodup) (hb : b.Nodup) (h : ∀ z, z ∈ a ↔ z ∈ b) : a.Perm b :=
  Rg.perm_sub ha (fun z hz => (h z).mp hz) (by rw [nd_len hb ha fun z => (h z).symm]; exact Nat.le_refl _)
theorem all_le {f g : Int → Int} (hf : Inj f n) (hc : ∀ s : Int, 0 ≤ s → s < n → ∃ r, Ri f n s r ∧ (r.map g).sum ≤ 0) : ∀ (m : Nat) (S : List Int), S.length ≤ m → S.Nodup → (∀ y ∈ S, 0 ≤ y ∧ y < (n : Int)) → (∀ y ∈ S, f y ∈ S) → (S.map g).sum ≤ 0
  | _, [], _, _, _, _ => by simp
  | m + 1, s :: S, hl, nd, hb, hS => by
    obtain ⟨r, hr, hg⟩ := hc s (hb s List.mem_cons_self).1 (hb s List.mem_cons_self).2
    have rs : ∀ y ∈ r, y ∈ s :: S := by
      have key : ∀ k : Nat, (k : Int) < r.length → gI r (k : Int) ∈ s :: S := by
        intro k
        induction k with
        | zero => intro _; rw [show ((0 : Nat) : Int) = 0 from rfl, hr.h0]; exact List.mem_cons_self
        | succ k ih =>
          intro hk
          have := hS _ (ih (by omega))
          rw [← hr.ch (k : Int) (by omega) (by omega)] at this
          exact this
      intro y hy
      obtain ⟨k, k0, k1, e⟩ := mem_gI hy
      obtain ⟨k', rfl⟩ : ∃ k' : Nat, k = k' := ⟨k.toNat, by omega⟩
      rw [← e]; exact key k' k1
    generalize hT : s :: S = T at *
    have pm : T.Perm (r ++ T.filter fun y => !decide (y ∈ r)) := by
      refine nd_perm nd (List.nodup_append.mpr ⟨hr.nd, nd.sublist List.filter_sublist, fun a ha b hb' e => ?_⟩) fun z => ?_
      · have := (List.mem_filter.mp hb').2
        rw [← e] at this
        simp only [Bool.not_eq_true', decide_eq_false_iff_not] at this
        exact this ha
      · rw [List.mem_append, List.mem_filter]
        constructor
        · intro hz
          by_cases c : z ∈ r
          · exact .inl c
          · exact .inr ⟨hz, by rw [decide_eq_false c]; rfl⟩
        · rintro (hz | hz)
          · exact rs z hz
          · exact hz.1
    have lr : (T.filter fun y => !decide (y ∈ r)).length ≤ m := by
      have := pm.length_eq
      rw [List.length_append] at this
      have := hr.ne
      omega
    have ih := all_le hf hc m (T.filter fun y => !decide (y ∈ r)) lr (nd.sublist List.filter_sublist) (fun y hy => hb y (List.mem_filter.mp hy).1) fun y hy => by
      obtain ⟨y1, y2⟩ := List.mem_filter.mp hy
      refine List.mem_filter.mpr ⟨hS y y1, ?_⟩
      simp only [Bool.not_eq_true', decide_eq_false_iff_not] at y2 ⊢
      intro z
      obtain ⟨x, hx, ex⟩ := hr.f_on z
      have bx := hr.b x hx
      have by' := hb y y1
      have := hf.i _ _ bx.1 bx.2 by'.1 by'.2 ex
      exact y2 (by rw [← this]; exact hx)
    rw [Th.sum_perm (pm.map g), List.map_append, List.sum_append]
    omega
/-! sums -/
theorem sumR_rng {ws : List (List Int)} {r : List Int} (h : r.length = ws.length) : sumR ws r = ((rng 0 (ws.length : Int)).map fun i => gI (gI ws i) (gI r i)).sum := by
  unfold sumR
  congr 1
  apply List.ext_getElem
  · simp [h, rng_len]
  · intro k h1 h2
    have k1 : k < ws.length := by simp [h] at h1; exact h1
    rw [List.getElem_map, List.getElem_map, List.getElem_zip]
    have e : (rng 0 (ws.length : Int))[k]'(by rw [rng_len]; omega) = (k : Int) := by
      unfold rng
      simp
    rw [e, gI_nat ws, gI_nat r, List.getD_eq_getElem?_getD, List.getD_eq_getElem?_getD, List.getElem?_eq_getElem k1, List.getElem?_eq_getElem (by omega)]
    rfl
def ga (ws : List (List Int)) (best rooms : List Int) (i : Int) : Int := gI (gI ws i) (gI best i) - gI (gI ws i) (gI rooms i)
theorem sum_dif (A B : Int → Int) : ∀ l : List Int, (l.map fun i => A i - B i).sum = (l.map A).sum - (l.map B).sum
  | [] => rfl
  | x :: l => by rw [List.map_cons, List.sum_cons, sum_dif A B l, List.map_cons, List.map_cons, List.sum_cons, List.sum_cons]; omega
theorem sum_part (A B : Int → Int) (r : List Int) : ∀ l : List Int, (l.map fun i => if i ∈ r then A i else B i).sum = (l.map B).sum + ((l.filter fun i => decide (i ∈ r)).map fun i => A i - B i).sum
  | [] => rfl
  | x :: l => by
    rw [List.map_cons, List.sum_cons, sum_part A B r l, List.map_cons, List.sum_cons, List.filter_cons]
    by_cases c : x ∈ r
    · rw [if_pos c, if_pos (decide_eq_true c), List.map_cons, List.sum_cons]; omega
    · rw [if_neg c, if_neg (by rw [decide_eq_true_eq]; exact c)]; omega
/-- what a ring is told for -/
def RingOk (ws : List (List Int)) (rooms : List Int) : Option (List Int) → Prop
  | none => ∀ s : Int, 0 ≤ s → s < ws.length → ∃ r, Ri (fI (bestR ws) rooms) ws.length s r ∧ ¬ 0 < (r.map (ga ws (bestR ws) rooms)).sum
  | some r => ∃ s, Ri (fI (bestR ws) rooms) ws.length s r ∧ 0 < (r.map (ga ws (bestR ws) rooms)).sum
section
variable {ws : List (List Int)} {rooms : List Int}
theorem f_inj (hr : Wy ws.length ws.length rooms) : Inj (fI (bestR ws) rooms) ws.length :=
  ⟨fun i i0 i1 => (fI_ok (bestR_wy ws) hr i0 i1).1, fun i j i0 i1 j0 j1 e => fI_inj (bestR_wy ws) hr i0 i1 j0 j1 e⟩
theorem ring_none (hr : Wy ws.length ws.length rooms) (h : RingOk ws rooms none) : ∀ x ∈ AP ws.length, sumR ws x ≤ sumR ws rooms := by
  intro x hx
  have b := (bestR_ok ws).mx x hx
  have := all_le (g := ga ws (bestR ws) rooms) (f_inj hr) (fun s s0 s1 => by
    obtain ⟨r, a, c⟩ := h s s0 s1
    exact ⟨r, a, by omega⟩) _ (rng 0 (ws.length : Int)) (Nat.le_refl _) (rng_nodup _ _) (fun y hy => mem_rng.mp hy) fun y hy => by
      obtain ⟨y0, y1⟩ := mem_rng.mp hy
      exact mem_rng.mpr (fI_ok (bestR_wy ws) hr y0 y1).1
  have e : ((rng 0 (ws.length : Int)).map (ga ws (bestR ws) rooms)).sum = sumR ws (bestR ws) - sumR ws rooms := by
    rw [sumR_rng (bestR_wy ws).l, sumR_rng hr.l, ← sum_dif]; rfl
  omega
theorem ring_some (hr : Wy ws.length ws.length rooms) {r : List Int} (h : RingOk ws rooms (some r)) : ∃ x ∈ AP ws.length, sumR ws rooms < sumR ws x := by
  obtain ⟨s, ri, hg⟩ := h
  have bw := bestR_wy ws
  let x := (rng 0 (ws.length : Int)).map fun i => if i ∈ r then gI (bestR ws) i else gI rooms i
  have hx : x.length = ws.length := by show ((rng 0 (ws.length : Int)).map _).length = _; rw [List.length_map, rng_len]; omega
  have at_ : ∀ i : Int, 0 ≤ i → i < ws.length → gI x i = if i ∈ r then gI (bestR ws) i else gI rooms i := fun i i0 i1 => Lh.gI_mapR _ i0 i1
  have src : ∀ i : Int, 0 ≤ i → i < ws.length → gI x i = gI rooms (if i ∈ r then fI (bestR ws) rooms i else i) := fun i i0 i1 => by
    rw [at_ i i0 i1]
    split
    · rw [(fI_ok bw hr i0 i1).2]
    · rfl
  have wy : Wy ws.length ws.length x := by
    refine ⟨hx, ?_, fun o ho => ?_⟩
    · show ((rng 0 (ws.length : Int)).map _).Nodup
      rw [List.nodup_iff_pairwise_ne, List.pairwise_map]
      refine List.Pairwise.imp_of_mem (R := fun a b => a ≠ b) (fun {a b} ha hb hne e => hne ?_) (List.nodup_iff_pairwise_ne.mp (rng_nodup _ _))
      obtain ⟨a0, a1⟩ := mem_rng.mp ha
      obtain ⟨b0, b1⟩ := mem_rng.mp hb
      have e : gI x a = gI x b := by rw [at_ a a0 a1, at_ b b0 b1]; exact e
      rw [src a a0 a1, src b b0 b1] at e
      have fa := (fI_ok bw hr a0 a1).1
      have fb := (fI_ok bw hr b0 b1).1
      have rl := hr.l
      have e2 := gI_inj hr.nd (by split <;> omega) (by split <;> omega) (by split <;> omega) (by split <;> omega) e
      by_cases ca : a ∈ r <;> by_cases cb : b ∈ r
      · rw [if_pos ca, if_pos cb] at e2
        exact (f_inj hr).i _ _ a0 a1 b0 b1 e2
      · rw [if_pos ca, if_neg cb] at e2
        exact absurd (by rw [← e2]; exact ri.f_in ca) cb
      · rw [if_neg ca, if_pos cb] at e2
        exact absurd (by rw [e2]; exact ri.f_in cb) ca
      · rw [if_neg ca, if_neg cb] at e2; exact e2
    · obtain ⟨i, hi, e⟩ := List.mem_map.mp ho
      obtain ⟨i0, i1⟩ := mem_rng.mp hi
      rw [← e]
      split
      · exact bw.at i0 i1
      · exact hr.at i0 i1
  refine ⟨x, AP_mem.mpr wy, ?_⟩
  rw [sumR_rng hx, sumR_rng hr.l]
  have e1 : ((rng 0 (ws.length : Int)).map fun i => gI (gI ws i) (gI x i)) = (rng 0 (ws.length : Int)).map fun i => if i ∈ r then gI (gI ws i) (gI (bestR ws) i) else gI (gI ws i) (gI rooms i) := by
    apply List.map_congr_left
    intro i hi
    obtain ⟨i0, i1⟩ := mem_rng.mp hi
    rw [at_ i i0 i1]
    split <;> rfl
  rw [e1, sum_part]
  have pm : ((rng 0 (ws.length : Int)).filter fun i => decide (i ∈ r)).Perm r := nd_perm ((rng_nodup _ _).sublist List.filter_sublist) ri.nd fun z => by
    rw [List.mem_filter, mem_rng, decide_eq_true_eq]
    exact ⟨fun h => h.2, fun h => ⟨ri.b z h, h⟩⟩
  rw [Th.sum_perm (pm.map _)]
  have : (r.map fun i => gI (gI ws i) (gI (bestR ws) i) - gI (gI ws i) (gI rooms i)).sum = (r.map (ga ws (bestR ws) rooms)).sum := rfl
  omega
theorem ring_two (hr : Wy ws.length ws.length rooms) {r : List Int} (h : RingOk ws rooms (some r)) : 2 ≤ r.length := by
  obtain ⟨s, ri, hg⟩ := h
  have ne := ri.ne
  by_cases c : 2 ≤ r.length
  · exact c
  · exfalso
    obtain ⟨y, rfl⟩ : ∃ y, r = [y] := by
      match r, ne, c with
      | [y], _, _ => exact ⟨y, rfl⟩
      | _ :: _ :: _, _, c => simp at c
    have b := ri.b y (by simp)
    have h0 := ri.h0
    rw [gI_cons0] at h0
    have cl := ri.cl
    rw [gI_last ne, show (([y] : List Int).length : Int) - 1 = 0 by simp, gI_cons0, ← h0] at cl
    have := (fI_ok (bestR_wy ws) hr b.1 b.2).2
    rw [cl] at this
    have e : ga ws (bestR ws) rooms y = 0 := by unfold ga; rw [this]; omega
    simp [e] at hg
/-- the law's own sum -/
theorem ring_sum (hr : Wy ws.length ws.length rooms) {s : Int} {r : List Int} (ri : Ri (fI (bestR ws) rooms) ws.length s r) : ((rng 0 (r.length : Int)).map fun k => gI (gI ws (gI r k)) (gI rooms (gI r (k + 1 - (r.length : Int)))) - gI (gI ws (gI r k)) (gI rooms (gI r k))).sum = (r.map (ga ws (bestR ws) rooms)).sum := by
  have ne := ri.ne
  have e : ((rng 0 (r.length : Int)).map fun k => gI (gI ws (gI r k)) (gI rooms (gI r (k + 1 - (r.length : Int)))) - gI (gI ws (gI r k)) (gI rooms (gI r k))) = (rng 0 (r.length : Int)).map fun k => ga ws (bestR ws) rooms (gI r k) := by
    apply List.map_congr_left
    intro k hk
    obtain ⟨k0, k1⟩ := mem_rng.mp hk
    have bk := ri.b _ (gI_mem (xs := r) (i := k) ⟨by omega, by omega⟩)
    have fo := (fI_ok (bestR_wy ws) hr bk.1 bk.2).2
    have nx : gI r (k + 1 - (r.length : Int)) = fI (bestR ws) rooms (gI r k) := by
      by_cases c : k + 1 < r.length
      · rw [← ri.ch k k0 c]
        unfold gI
        rw [if_neg (by omega), if_pos (by omega)]
        congr 2; omega
      · have ek : k = (r.length : Int) - 1 := by omega
        rw [show k + 1 - (r.length : Int) = 0 by omega, ri.h0, ek, ← gI_last ne, ri.cl]
    unfold ga
    rw [nx, fo]
  rw [e]
  congr 1
  apply List.ext_getElem
  · simp [rng_len]
  · intro k h1 h2
    have k1 : k < r.length := by simpa using h2
    rw [List.getElem_map, List.getElem_map]
    have e : (rng 0 (r.length : Int))[k]'(by rw [rng_len]; omega) = (k : Int) := by unfold rng; simp
    rw [e, gI_nat r, List.getD_eq_getElem?_getD, List.getElem?_eq_getElem k1]
    rfl
end
end Rm
namespace Rm
open PySem PySem.Spec PyProof.Rows L2 TW Lh
theorem Tb.zip {ws : List (List Int)} (h : Tb ws) {r : List Int} (hr : Wy ws.length ws.length r) : ws.length ≤ 100 ∧ ∀ x ∈ ws.zip r, InB x.1.length x.2 := by
  refine ⟨by have := h.n; omega, fun x hx => ?_⟩
  obtain ⟨a, b⟩ := List.of_mem_zip hx
  have := hr.b _ b
  rw [h.sq _ a]
  exact ⟨by omega, by omega⟩
theorem Tb.row {ws : List (List Int)} (h : Tb ws) {i : Int} (i0 : 0 ≤ i) (i1 : i < ws.length) : (gI ws i).length = ws.length := h.sq _ (gI_mem ⟨by omega, by omega⟩)
end Rm
namespace Rm
open PySem PySem.Spec PyProof.Rows L2 TW Lh
theorem rng_gI (v : List (List Int)) : (rng 0 (v.length : Int)).map (fun k => gI v k) = v := by
  apply List.ext_getElem
  · simp [rng_len]
  · intro k h1 h2
    rw [List.getElem_map]
    have e : (rng 0 (v.length : Int))[k]'(by rw [rng_len]; omega) = (k : Int) := by unfold rng; simp
    rw [e, gI_nat v, List.getD_eq_getElem?_getD, List.getElem?_eq_getElem h2]
    rfl
theorem gI_mp (s : List Int → Int) {v : List (List Int)} {k : Int} (h0 : 0 ≤ k) (h1 : k < v.length) : gI (v.map s) k = s (gI v k) := by
  rw [gI_nn _ h0, gI_nn _ h0, List.getD_eq_getElem?_getD, List.getD_eq_getElem?_getD, List.getElem?_map, List.getElem?_eq_getElem (by omega)]; rfl
theorem pick_eq (v : List (List Int)) (s : List Int → Int) (M : Int) : ((rng 0 (v.length : Int)).filter fun k => decide (gI (v.map s) k = M)).map (fun k => gI v k) = v.filter fun x => decide (s x = M) := by
  conv => rhs; rw [← rng_gI v]
  rw [List.filter_map]
  congr 1
  apply List.filter_congr
  intro k hk
  obtain ⟨k0, k1⟩ := mem_rng.mp hk
  rw [gI_mp s k0 k1]; rfl
theorem intLt_ok : LtOk (fun a b : Int => decide (a < b)) := ⟨fun a b h => by simp only [decide_eq_true_eq, decide_eq_false_iff_not] at *; omega, fun a b c h1 h2 => by simp only [decide_eq_false_iff_not] at *; omega⟩
theorem mx_is {v : List (List Int)} {s : List Int → Int} {r : List Int} (hr : r ∈ v) : s r = mxI (v.map s) ↔ ∀ x ∈ v, s x ≤ s r := by
  have ne : v.map s ≠ [] := fun z => by rw [List.map_eq_nil_iff] at z; rw [z] at hr; cases hr
  have m := mxB_mem (fun a b : Int => decide (a < b)) ne
  have le : ∀ x ∈ v, s x ≤ mxI (v.map s) := fun x hx => by
    have := mxB_le intLt_ok (xs := v.map s) (y := s x) (List.mem_map.mpr ⟨x, hx, rfl⟩)
    rw [decide_eq_false_iff_not] at this
    exact Int.not_lt.mp this
  constructor
  · intro e x hx; rw [e]; exact le x hx
  · intro h
    obtain ⟨y, hy, e⟩ := List.mem_map.mp m
    have a := h y hy
    have b := le r hr
    have e : s y = mxI (v.map s) := e
    omega
theorem lxI_ok : LtOk lxI := Th.lx_ok
theorem best_pick (ws : List (List Int)) : bestR ws = mnB lxI ((AP ws.length).filter fun x => decide (sumR ws x = mxI ((AP ws.length).map (sumR ws)))) := by
  have ok := bestR_ok ws
  have bm : bestR ws ∈ (AP ws.length).filter fun x => decide (sumR ws x = mxI ((AP ws.length).map (sumR ws))) := List.mem_filter.mpr ⟨ok.m, decide_eq_true ((mx_is ok.m).mpr ok.mx)⟩
  have m := mnB_mem lxI (List.ne_nil_of_mem bm)
  obtain ⟨m1, m2⟩ := List.mem_filter.mp m
  have le := mnB_le lxI_ok bm
  generalize mnB lxI _ = b at *
  have e : sumR ws b = sumR ws (bestR ws) := by rw [of_decide_eq_true m2]; exact ((mx_is ok.m).mpr ok.mx).symm
  rcases ok.fst (AP_up _) b m1 e with z | z
  · exact z.symm
  · rw [z] at le; cases le
theorem sums_eq {ws : List (List Int)} {n : Nat} (hn : ws.length = n) : (AP (n : Int)).map (fun x => ((rng 0 (n : Int)).map fun i => gI (gI ws i) (gI x i)).sum) = (AP (n : Int)).map (sumR ws) := by
  apply List.map_congr_left
  intro x hx
  have := (AP_mem.mp hx).l
  rw [sumR_rng (by omega), hn]
theorem ring_max {ws : List (List Int)} {rooms : List Int} (hr : rooms ∈ AP ws.length) {t : Option (List Int)} (h : RingOk ws rooms t) : t.isNone = decide (sumR ws rooms = mxI ((AP ws.length).map (sumR ws))) := by
  have wy := AP_mem.mp hr
  cases t with
  | none => exact (decide_eq_true ((mx_is hr).mpr (ring_none wy h))).symm
  | some r =>
    refine (decide_eq_false fun z => ?_).symm
    obtain ⟨x, hx, lt⟩ := ring_some wy h
    have := (mx_is hr).mp z x hx
    omega
theorem one_none {r : Option (List Int)} (h : RingOk [[5]] [0] r) : r = none := by
  cases r with
  | none => rfl
  | some r =>
    have wy : Wy (([[5]] : List (List Int)).length : Int) ([[5]] : List (List Int)).length [0] := ⟨rfl, by simp, fun o ho => by rw [List.mem_singleton.mp ho]; decide⟩
    have := ring_two wy h
    obtain ⟨s, ri, _⟩ := h
    have := ri.len
    simp at this
    omega
theorem two_best : bestR [[0, 0], [0, 0]] = [0, 1] := by
  rw [best_pick]
  have e : AP (([[0, 0], [0, 0]] : List (List Int)).length : Int) = [[0, 1], [1, 0]] := by rw [AP_eq]; decide +kernel
  rw [e]
  decide +kernel
end Rm

set_option maxRecDepth 100000
set_option maxHeartbeats 4000000
namespace Law
open PySem PySem.Spec PyProof.Rows L2 TW
def top (i : Nat) : Stmt := PySem.Challenge.pw_fairparts_k12_whole_rooms.main.body.getD i (.Pass ⟨0, 0, 0, 0⟩)
abbrev s__law_state : Stmt := top 6
abbrev s__law_all : Stmt := top 8
abbrev s__law_draw : Stmt := top 7
abbrev s_all_rooms : Stmt := top 2
abbrev s_sum_of_rooms : Stmt := top 1
abbrev s_best_rooms : Stmt := top 3
abbrev s_better_ring : Stmt := top 4
abbrev s_law : Stmt := top 9
structure Tx (mg : Str → Option Value) : Prop where
  b_abs : mg "abs" = none
  b_int : mg "int" = none
  b_len : mg "len" = none
  b_max : mg "max" = none
  b_min : mg "min" = none
  b_range : mg "range" = none
  b_set : mg "set" = none
  b_sum : mg "sum" = none
  b_tuple : mg "tuple" = none
  b_zip : mg "zip" = none
section
variable {P : Program} {w : World} {K : PySem.W.Frag} {mg : Str → Option Value} {base : Heap}
theorem sc__law_state : FnScope ["script", "seed", "cell"] ["script"] (defScope s__law_state) := ⟨rfl, rfl, rfl, by decide +kernel, rfl, by decide +kernel, by decide +kernel⟩
theorem ok__law_state (T : Tx mg) {f : Addr} {fd : FuncData} (F : FnP K "_law_state" s__law_state f fd) (hg : mg "_law_state" = some (.ref f)) : Cal P w K mg base 1 "_law_state" 1 (spState K) := by
  refine ⟨["script"], f, fd, ?_, hg, F.kp, F.bindsN fun _ _ _ _ _ _ us hl => match us, hl with | [_], _ => rfl, rfl⟩
  refine F.ok sc__law_state (fun vs H Q E h => ?_) (fun cdv A outer s H vs Q E hr h => ?_)
  · obtain ⟨a, ns, rfl, _⟩ := h
    rfl
  obtain ⟨a, ns, rfl, hS, hlen, hQ⟩ := h
  refine ⟨_, PSs.nox (pss_cons (ps_set (i := 1) sc__law_state.nd rfl (Or.inl rfl) pe_int)
    (pss_cons (ps_for PassesOwn.never rfl (pi_list (pv 0)) (pg_name (i := 2) sc__law_state.nd rfl (Or.inl rfl))
      (pss_one (ps_set (i := 1) sc__law_state.nd rfl (Or.inl rfl) (pe_op op_mod (pe_callTy call_int1 (by rfl) T.b_int bt_int (pa_cons (pe_op op_add (pe_op op_mul (pv 1) pe_int) (pv 2)) pa_nil)) pe_int))))
    (pss_one (ps_ret (pe_lst (pa_cons (pe_lc (own := [("cell", 2)]) (g := gName 2) (tt := tYes) rfl sc__law_state.nd (pi_list (pv 0)) (blkOk_by (own := [("cell", 2)]) (N := ["script", "seed", "cell"]) (sc := defScope s__law_state) (by decide +kernel)) (fun _ _ _ _ _ => pg_name (i := 2) sc__law_state.nd rfl (Or.inl rfl)) (fun _ _ _ _ _ => pts_nil) (fun _ _ _ _ _ => pe_callB call_abs (by rfl) T.b_abs bt_abs (pa_cons (pv 2) pa_nil)))
      (pa_cons (pe_op op_add (pv 1) pe_int) pa_nil))))))), ?_⟩
  refine ⟨_, rfl, a, rfl, ⟨_, hS⟩, ?_⟩
  refine for_list (xs := ns.map V.int) (fun i σ H' => H' = H ∧ ∃ (sd : Int) (z : Option V), σ = [some (.ref a), some (.int sd), z]) ⟨rfl, 7, none, rfl⟩ (fun i σ H' _ h => by rw [h.1]; exact hS) (fun i x σ H' hx ⟨e1, sd, z, e2⟩ => ?_) (fun σ H' ⟨e1, sd, z, e2⟩ => ?_)
  · have e1' := e1.symm
    subst e1' e2
    obtain ⟨k, rfl⟩ : ∃ k : Int, x = .int k := by
      rw [List.getElem?_map] at hx
      cases h : ns[i]? with
      | none => rw [h] at hx; cases hx
      | some k => rw [h] at hx; exact ⟨k, (Option.some.inj hx).symm⟩
    refine ⟨_, rfl, _, _, rfl, rfl, .inr ⟨by decide, by decide⟩, _, rfl, _, _, rfl, rfl, .inl ⟨_, rfl, _, _, rfl, rfl, (by decide : (0 : Int) < 1000003), ?_⟩⟩
    exact ⟨rfl, _, _, rfl⟩
  · have e1' := e1.symm
    subst e1' e2
    refine ⟨_, rfl, a, rfl, ⟨_, hS⟩, fun D hD => ?_⟩
    refine lc_list (xs := ns.map V.int) (fun i H' => ∃ ns' : List Int, ns'.length = i ∧ H' = upd H' D (.lst (ns'.map V.int)) ∧ ∀ b, b ≠ D → H' b = H' b ∧ H' b = H b) ⟨[], rfl, ?_, fun b hb => ⟨rfl, upd_ne hb⟩⟩ (fun i H' _ ⟨ns', _, e, k⟩ => ?_) (fun i x H' hx ⟨ns', hn, e, k⟩ => ?_) (fun H' ⟨ns', hn, e, k⟩ => ?_)
    · exact upd_upd.symm
    · rcases hS with (q | ⟨o, q⟩) | q
      · exact .inl (.inl ((k a (ne_of_none q hD)).2.trans q))
      · exact .inl (.inr ⟨o, (k a (ne_of_none q hD)).2.trans q⟩)
      · exact .inr q
    · obtain ⟨y, rfl⟩ : ∃ k : Int, x = .int k := by
        rw [List.getElem?_map] at hx
        cases h : ns[i]? with
        | none => rw [h] at hx; cases hx
        | some k => rw [h] at hx; exact ⟨k, (Option.some.inj hx).symm⟩
      have hi : i < ns.length := by
        have := (List.getElem?_eq_some_iff.mp hx).1
        simpa using this
      have hDv : H' D = some (.lst (ns'.map V.int)) := by rw [e]; exact upd_same
      refine ⟨rfl, ?_⟩
      unfold tYes
      dsimp only
      rw [if_pos rfl]
      refine ⟨_, rfl, _, rfl, _, hDv, ?_, ns' ++ [if y < 0 then -y else y], by simp [hn], ?_, fun b hb => ⟨rfl, by rw [upd_ne hb]; exact (k b hb).2⟩⟩
      · rw [List.length_map]
        exact Nat.lt_of_lt_of_le (by omega : ns'.length < 64) (by decide)
      · rw [upd_upd]; simp
    · refine ⟨_, rfl, _, _, rfl, rfl, ?_⟩
      have hDv : H' D = some (.lst (ns'.map V.int)) := by rw [e]; exact upd_same
      refine ⟨(by show 2 ≤ sizeLine; decide), fun p hp => ?_⟩
      have hpD : D ≠ p := ne_of_none hDv hp
      have hpH : H p = none := by rw [← (k p (fun z => hpD z.symm)).2]; exact hp
      refine hQ [p, D] p _ rfl ⟨p, D, ns', sd + 1, rfl, fun z => hpD z.symm, upd_same, by rw [upd_ne hpD]; exact hDv⟩ (fun b o q => ?_) (fun x hx => ?_)
      · have n1 : b ≠ D := ne_of_none q hD
        have n2 : b ≠ p := ne_of_none q hpH
        rw [upd_ne n2, (k b n1).2]; exact q
      · simp only [List.mem_cons, List.not_mem_nil, or_false] at hx
        rcases hx with rfl | rfl
        · exact hpH
        · exact hD

theorem sc__law_all : FnScope ["n", "found", "k", "longer", "row", "one"] ["n"] (defScope s__law_all) := ⟨rfl, rfl, rfl, by decide +kernel, rfl, by decide +kernel, by decide +kernel⟩
abbrev sp__law_all (K : PySem.W.Frag) : Sp := spF (fun i : Int × Unit => [Rp.pn rInt i.1]) (rList (rTupF rInt)) (fun i => 0 ≤ i.1 ∧ i.1 ≤ 5) (fun i => Rm.AP i.1)
theorem ok__law_all (T : Tx mg) {f : Addr} {fd : FuncData} (F : FnP K "_law_all" s__law_all f fd) (hg : mg "_law_all" = some (.ref f)) : Cal P w K mg base 1 "_law_all" 1 ((sp__law_all K)) := by
  refine ⟨["n"], _, fd, ?_, hg, F.kp, F.bindsN fun _ _ _ _ _ _ us hl => match us, hl with | [_], _ => rfl, rfl⟩
  refine fn_ok F sc__law_all (fun _ => rfl) (by decide) ?_
  intro cdv A outer s H E hr
  refine ⟨_, (pss_cons (ps_set (i := 1) sc__law_all.nd rfl (Or.inl rfl) (pe_lst (pa_cons (pe_tupF pa_nil) pa_nil))) (pss_cons (ps_for PassesOwn.never rfl (pi_range1 (by rfl) T.b_range (pa_cons (pv 0) pa_nil)) (pg_name (i := 2) sc__law_all.nd rfl (Or.inl rfl)) (pss_cons (ps_set (i := 3) sc__law_all.nd rfl (Or.inl rfl) (pe_lst pa_nil)) (pss_cons (ps_for PassesOwn.never rfl (pi_listK (K := K) rfl (pv 1)) (pg_name (i := 4) sc__law_all.nd rfl (Or.inr rfl)) (pss_cons (ps_set (i := 3) sc__law_all.nd rfl (Or.inl rfl) (pe_op op_cat (pv 3) (pe_lc (own := [("one", 5)]) (g := gName 5) rfl sc__law_all.nd (pi_range1 (by rfl) T.b_range (pa_cons (pv 0) pa_nil)) (blkOk_by (by kernel_rfl)) (fun _ _ _ _ _ => (pg_name (i := 5) sc__law_all.nd rfl (Or.inl rfl))) (fun _ _ _ _ _ => pts_one (pt_cmpR (op_notInTDK (K := K) rfl (un65 hr)) (pv 5) (pv 4) (by rfl))) (fun _ _ _ _ _ => (pe_op op_catF (pv 4) (pe_tupF (pa_cons (pv 5) pa_nil))))))) pss_nil)) (pss_cons (ps_set (i := 1) sc__law_all.nd rfl (Or.inl rfl) (pv 3)) pss_nil)))) (pss_cons (ps_ret (pv 1)) pss_nil))), ?_⟩
  rintro ⟨v0, _⟩ B Post Q hR hS hB
  refine SW.go (c' := [.sh .n (Rp.at rInt v0), .un, .un, .un, .un, .un]) (sw_asgP (ep_eo (eo_lstP (m := .n) (R := (rTupF rInt)) (lp_cons (ep_tupF (m := .n) (R := rInt) lp_nil) lp_nil))) (fun v2 => (sw_for (τ := (List (List Int))) (cc := fun t3 => [.sh .n (Rp.at rInt v0), .sh .n (Rp.at (rList (rTupF rInt)) t3), .un, .un, .un, .un]) (t0 := v2) (IWP.w (iw_range1P (ep_var rfl))) (Wk.keep (Wk.keep (Wk.un (Wk.un (Wk.un (Wk.un Wk.nil)))))) hR (fun _ => (gp_name (i := 2))) (fun t3 (x4 : Int) _ _ _ _ hN5 hC6 hB7 hR => (sw_asgP (ep_eo (eo_lstP (m := .n) (R := (rTupF rInt)) lp_nil)) (fun v8 => (sw_for (τ := (List (List Int))) (cc := fun t9 => [.sh .n (Rp.at rInt v0), .sh .n (Rp.at (rList (rTupF rInt)) t3), .sh .n (Rp.at rInt x4), .sh .n (Rp.at (rList (rTupF rInt)) t9), .un, .un]) (t0 := v8) (IWP.w (iw_listP (K := K) (ep_var rfl))) (Wk.keep (Wk.keep (Wk.keep (Wk.keep (Wk.un (Wk.un Wk.nil)))))) hR (fun _ => (gp_name (i := 4))) (fun t9 (x10 : (List Int)) _ _ _ _ hN11 hC12 hB13 hR => (sw_asgP (ep_eo (eo_catiP (ep_var rfl) (ep_eo (eo_lcP (cg := fun x14 => [.sh .n (Rp.at rInt v0), .sh .n (Rp.at (rList (rTupF rInt)) t3), .sh .n (Rp.at rInt x4), .sh .n (Rp.at (rList (rTupF rInt)) t9), .sh .n (Rp.at (rTupF rInt) x10), .sh .n (Rp.at rInt x14)]) (iw_range1P (ep_var rfl)) (gp_name (i := 5)) (fun x14 => (tp_e (ep_op (o2_notInT (K := K) (Nat.le_of_ble_eq_true rfl)) (ep_var rfl) (ep_yT (K := K) (ep_var rfl))))) (fun x14 => (ep_op o2_catF (ep_var rfl) (ep_tupF (m := .n) (R := rInt) (lp_cons (ep_var rfl) lp_nil)))) (us_of rfl) (js_of rfl) (fun _ => rfl) (fun _ => us_of rfl))))) (fun v15 => (sw_nx hN11 v15 (Wk.keep (Wk.keep (Wk.keep (Wk.keep (Wk.un (Wk.un Wk.nil)))))))))) (fun t9 => (sw_asg (EP.w (ep_var rfl)) (fun v16 => (sw_nx hN5 v16 (Wk.keep (Wk.keep (Wk.un (Wk.un (Wk.un (Wk.un Wk.nil)))))))))))))) (fun t3 => (sw_ret hR (EP.w (ep_var rfl))))))) rfl ?_
  dsimp only at hS ⊢
  try simp only [true_and, and_true, decide_eq_true_eq, decide_eq_false_iff_not, Bool.not_eq_true', Bool.not_eq_false', implies_true, true_implies, Lh.map_id', Lh.nc] at hS ⊢
  obtain ⟨⟨h0, h5⟩, hp⟩ := hS
  obtain ⟨n, rfl⟩ : ∃ n : Nat, v0 = n := ⟨v0.toNat, by omega⟩
  intro v hv
  refine ⟨⟨by omega, by omega⟩, fun pre t => t = Rm.apN n pre.length, by rw [hv]; rfl, fun pre x post t e it v1 hv1 => ?_, fun t it => ?_⟩
  · have it : t = Rm.apN n pre.length := it
    have e2 := congrArg List.length e
    rw [rng_len, List.length_append, List.length_cons] at e2
    refine ⟨fun q u => u = q.flatMap (Rm.nxt n), by rw [hv1]; rfl, fun q y qs u eq iu => ?_, fun u iu => ?_⟩
    · have iu : u = q.flatMap (Rm.nxt n) := iu
      have hy : y ∈ t := by rw [eq]; simp
      have wy := (Rm.apN_mem n pre.length y).mp (by rw [← it]; exact hy)
      have tl : t.length ≤ 3125 := by
        rw [it]
        exact Nat.le_trans (Rm.apN_len n _) (Rm.pow5 (by omega) (by omega))
      have e3 := congrArg List.length eq
      rw [List.length_append, List.length_cons] at e3
      have ul : u.length ≤ 15625 := by
        rw [iu]
        exact Nat.le_trans (Rm.fm_len (Rm.nxt_len n) q) (Nat.mul_le_mul (show (n : Int).toNat ≤ 5 by omega) (show q.length ≤ 3125 by omega))
      have nl := Rm.nxt_len n y
      refine ⟨⟨⟨⟨by omega, by omega⟩, by rw [rng_len]; exact Lh.sz (by omega), fun x1 _ _ => by rw [wy.l]; exact Lh.sz (by rw [List.length_singleton]; omega)⟩, ?_⟩, fun w hw => ?_⟩
      · show u.length + (Rm.nxt n y).length ≤ sizeLine
        exact Lh.sz (by omega)
      · show w = (q ++ [y]).flatMap (Rm.nxt n)
        rw [hw, iu, List.flatMap_append, List.flatMap_cons, List.flatMap_nil, List.append_nil]
        rfl
    · show u = Rm.apN n (pre ++ [x]).length
      rw [List.length_append, List.length_singleton, Rm.apN, ← it]
      exact iu
  · have it : t = Rm.apN n (rng 0 (n : Int)).length := it
    rw [rng_len] at it
    rw [Rm.AP_eq] at hp
    rw [it, show ((n : Int) - 0).toNat = (n : Int).toNat by omega]
    exact hp

theorem sc__law_draw : FnScope ["state", "many", "cells", "value", "mixed"] ["state", "many"] (defScope s__law_draw) := ⟨rfl, rfl, rfl, by decide +kernel, rfl, by decide +kernel, by decide +kernel⟩
theorem ok__law_draw (T : Tx mg) {f : Addr} {fd : FuncData} (F : FnP K "_law_draw" s__law_draw f fd) (hg : mg "_law_draw" = some (.ref f)) : Cal P w K mg base 1 "_law_draw" 2 spDraw := by
  refine ⟨["state", "many"], f, fd, ?_, hg, F.kp, F.bindsN fun _ _ _ _ _ _ us hl => match us, hl with | [_, _], _ => rfl, rfl⟩
  refine F.ok sc__law_draw (fun vs H Q E h => ?_) (fun cdv A outer s H vs Q E hr h => ?_)
  · obtain ⟨i, B, Post, ha, _⟩ := h
    exact ha.len
  obtain ⟨⟨many, _⟩, B, Post, ⟨a0, r0, vs', eB, ⟨a, c, ns, sd, eB2, nac, ha, hc⟩, rfl, hv⟩, ⟨⟨hm0, hm9⟩, hpost⟩, hQ⟩ := h
  rw [eB2] at eB
  injection eB with e1 e2
  subst e1
  subst eB2
  obtain ⟨x, rfl, hx⟩ : ∃ x, vs' = [x] ∧ x = V.int many := by
    cases hv with
    | cons q t => cases t; exact ⟨_, rfl, q⟩
  subst hx
  have fin : ∀ (d : Int) (H' : Hp) (ns' : List Int) (sd' : Int), 0 ≤ d → d < many → (∀ b, b ≠ a → b ≠ c → H' b = H b) → H' a = some (.lst [.ref c, .int sd']) → H' c = some (.lst (ns'.map V.int)) → Q (.int d) H' := by
    intro d H' ns' sd' h0 h1 hk h2 h3
    refine hQ d _ H' (hpost d h0 h1) ⟨fun b o e hb => ?_, .inr ⟨a, c, ns', sd', rfl, nac, h2, h3⟩, rfl⟩
    have hb' : ¬ b ∈ [a, c] := hb
    simp only [List.mem_cons, List.not_mem_nil, or_false, not_or] at hb'
    rw [hk b hb'.1 hb'.2]; exact e
  refine ⟨_, PSs.nox (pss_cons (ps_set (i := 2) sc__law_draw.nd rfl (Or.inl rfl) (pe_ix ix_list (pv 0) pe_int (fun _ _ => rfl)))
    (pss_cons (ps_while PassesOwn.never (PW.pt (pw_and (pt_cmpR op_gt (pe_callB call_len_seq (by rfl) T.b_len bt_len (pa_cons (pv 2) pa_nil)) pe_int (nomark _)) (pw_and1 (pt_cmpR op_eq (pe_ix ix_list (pv 2) pe_int (fun _ _ => rfl)) pe_int (nomark _)))))
      (pss_one (ps_expr (pe_bm PySem.F.plainAttrs_list PySem.F.slot_list_pop PySem.F.type_list_pop mt_popAt (pv 2) (pa_cons pe_int pa_nil)))))
    (pss_cons (ps_if (pt_cmpR op_gt (pe_callB call_len_seq (by rfl) T.b_len bt_len (pa_cons (pv 2) pa_nil)) pe_int (nomark _))
      (pss_cons (ps_set (i := 3) sc__law_draw.nd rfl (Or.inl rfl) (pe_ix ix_list (pv 2) pe_int (fun _ _ => rfl)))
      (pss_cons (ps_asg (pe_op op_fdivW (pv 3) (pv 1)) (pg_sub (pv 2) pe_int set_list))
      (pss_one (ps_ret (pe_op op_mod (pe_callTy call_int1 (by rfl) T.b_int bt_int (pa_cons (pv 3) pa_nil)) (pv 1)))))) pss_nil)
    (pss_cons (ps_set (i := 4) sc__law_draw.nd rfl (Or.inl rfl) (pe_op op_mod (pe_callTy call_int1 (by rfl) T.b_int bt_int (pa_cons (pe_op op_add (pe_op op_mul (pe_ix ix_list (pv 0) pe_int (fun _ _ => rfl)) pe_int) pe_int) pa_nil)) pe_int))
    (pss_cons (ps_asg (pv 4) (pg_sub (pv 0) pe_int set_list))
    (pss_one (ps_ret (pe_op op_mod (pe_callTy call_int1 (by rfl) T.b_int bt_int (pa_cons (pe_op op_fdiv (pv 4) pe_int) pa_nil)) (pv 1))))))))), ?_⟩
  refine ⟨.ref a, rfl, a, _, 0, _, rfl, rfl, SqL.of ha, rfl, ?_⟩
  refine ⟨fun m σ H' => σ = [some (.ref a), some (.int many), some (.ref c), none, none] ∧ ∃ ns', m = ns'.length ∧ H' c = some (.lst (ns'.map V.int)) ∧ ∀ b, b ≠ c → H' b = H b, ⟨ns.length, rfl, ns, rfl, hc, fun _ _ => rfl⟩, ?_⟩
  rintro m σ H' ⟨rfl, ns', rfl, hc', hk⟩
  have ha' : H' a = some (.lst [.ref c, .int sd]) := (hk a nac).trans ha
  refine ⟨_, rfl, c, _, rfl, .inl (SqL.of hc'), _, _, rfl, rfl, ?_⟩
  cases ns' with
  | nil =>
    refine ⟨false, rfl, ?_⟩
    refine iteF ?_
    refine iteF ?_
    refine ⟨_, rfl, c, _, rfl, .inl (SqL.of hc'), _, _, rfl, rfl, false, rfl, iteF ?_⟩
    -- the seed
    refine ⟨_, rfl, a, _, 1, _, rfl, rfl, SqL.of ha', rfl, _, _, rfl, rfl, .inr ⟨by decide, by decide⟩, _, _, rfl, rfl, .inl ⟨_, rfl, _, _, rfl, rfl, (by decide : (0 : Int) < 2147483647), ?_⟩⟩
    refine ⟨_, rfl, _, rfl, a, _, 0 + 1, 1, rfl, rfl, ha', rfl, ?_⟩
    refine ⟨_, rfl, _, _, rfl, rfl, ⟨by decide, by decide⟩, .inl ⟨_, rfl, _, rfl, _, _, rfl, rfl, hm0, ?_⟩⟩
    refine fin _ _ [] _ (Int.emod_nonneg _ (by omega)) (Int.emod_lt_of_pos _ hm0) (fun b h1 h2 => ?_) upd_same ?_
    · rw [upd_ne h1]; exact hk b h2
    · rw [upd_ne (fun z => nac z.symm)]; exact hc'
  | cons y ns2 =>
    have ix0 : ixN ((y :: ns2).map V.int).length 0 = some 0 := by unfold ixN; simp
    have pos : V.bl (decide ((0 : Int) < (((y :: ns2).map V.int).length : Nat))) = V.bl true := by simp
    refine ⟨true, pos, ?_⟩
    refine iteT ?_
    refine ⟨_, rfl, c, _, 0, V.int y, rfl, rfl, SqL.of hc', at_of (j := 0) rfl rfl, rfl, _, rfl, ?_⟩
    have e0 : decide (V.int y = V.int 0) = decide (y = 0) := by rw [Bool.eq_iff_iff]; simp
    rw [e0]
    by_cases hy : y = 0
    · rw [decide_eq_true hy]
      refine iteT ⟨fun σ H2 => σ = [some (.ref a), some (.int many), some (.ref c), none, none] ∧ H2 c = some (.lst (ns2.map V.int)) ∧ ∀ b, b ≠ c → H2 b = H b, fun σ H2 ⟨z1, z2, z3⟩ => ⟨ns2.length, Nat.lt_succ_self _, z1, ns2, rfl, z2, z3⟩, ?_⟩
      refine ⟨_, rfl, .inl ⟨rfl, _, SqL.of hc'⟩, c, _, 0, 0, V.int y, rfl, rfl, hc', by decide, by decide, (ixN_seq ix0).1, rfl, rfl, upd_same, fun b hb => ?_⟩
      rw [upd_ne hb]; exact hk b hb
    · rw [decide_eq_false hy]
      refine iteF ?_
      refine ⟨_, rfl, c, _, rfl, .inl (SqL.of hc'), _, _, rfl, rfl, true, pos, iteT ?_⟩
      refine ⟨_, rfl, c, _, 0, V.int y, rfl, rfl, SqL.of hc', at_of (j := 0) rfl rfl, ?_⟩
      refine ⟨_, rfl, _, rfl, _, _, rfl, rfl, ⟨hm0, hm9⟩, ?_⟩
      refine ⟨_, rfl, c, _, 0, 0, rfl, rfl, hc', ix0, ?_⟩
      refine ⟨_, rfl, .inl ⟨_, rfl, _, rfl, _, _, rfl, rfl, hm0, ?_⟩⟩
      refine fin _ _ ((y / many) :: ns2) sd (Int.emod_nonneg _ (by omega)) (Int.emod_lt_of_pos _ hm0) (fun b h1 h2 => ?_) ?_ upd_same
      · rw [upd_ne h2]; exact hk b h2
      · rw [upd_ne nac]; exact ha'

theorem sc_all_rooms : FnScope ["n", "told", "_", "longer", "rooms", "room"] ["n"] (defScope s_all_rooms) := ⟨rfl, rfl, rfl, by decide +kernel, rfl, by decide +kernel, by decide +kernel⟩
abbrev sp_all_rooms (K : PySem.W.Frag) : Sp := spF (fun i : Int × Unit => [Rp.pn rInt i.1]) (rList (rTupF rInt)) (fun i => 0 ≤ i.1 ∧ i.1 ≤ 5) (fun i => Rm.AP i.1)
theorem ok_all_rooms (T : Tx mg) {f : Addr} {fd : FuncData} (F : FnP K "all_rooms" s_all_rooms f fd) (hg : mg "all_rooms" = some (.ref f)) : Cal P w K mg base 1 "all_rooms" 1 ((sp_all_rooms K)) := by
  refine ⟨["n"], _, fd, ?_, hg, F.kp, F.bindsN fun _ _ _ _ _ _ us hl => match us, hl with | [_], _ => rfl, rfl⟩
  refine fn_ok F sc_all_rooms (fun _ => rfl) (by decide) ?_
  intro cdv A outer s H E hr
  refine ⟨_, (pss_cons (ps_set (i := 1) sc_all_rooms.nd rfl (Or.inl rfl) (pe_lst (pa_cons (pe_tupF pa_nil) pa_nil))) (pss_cons (ps_for PassesOwn.never rfl (pi_range1 (by rfl) T.b_range (pa_cons (pv 0) pa_nil)) (pg_name (i := 2) sc_all_rooms.nd rfl (Or.inl rfl)) (pss_cons (ps_set (i := 3) sc_all_rooms.nd rfl (Or.inl rfl) (pe_lst pa_nil)) (pss_cons (ps_for PassesOwn.never rfl (pi_listK (K := K) rfl (pv 1)) (pg_name (i := 4) sc_all_rooms.nd rfl (Or.inr rfl)) (pss_cons (ps_set (i := 3) sc_all_rooms.nd rfl (Or.inl rfl) (pe_op op_cat (pv 3) (pe_lc (own := [("room", 5)]) (g := gName 5) rfl sc_all_rooms.nd (pi_range1 (by rfl) T.b_range (pa_cons (pv 0) pa_nil)) (blkOk_by (by kernel_rfl)) (fun _ _ _ _ _ => (pg_name (i := 5) sc_all_rooms.nd rfl (Or.inl rfl))) (fun _ _ _ _ _ => pts_one (pt_cmpR (op_notInTDK (K := K) rfl (un65 hr)) (pv 5) (pv 4) (by rfl))) (fun _ _ _ _ _ => (pe_op op_catF (pv 4) (pe_tupF (pa_cons (pv 5) pa_nil))))))) pss_nil)) (pss_cons (ps_set (i := 1) sc_all_rooms.nd rfl (Or.inl rfl) (pv 3)) pss_nil)))) (pss_cons (ps_ret (pv 1)) pss_nil))), ?_⟩
  rintro ⟨v0, _⟩ B Post Q hR hS hB
  refine SW.go (c' := [.sh .n (Rp.at rInt v0), .un, .un, .un, .un, .un]) (sw_asgP (ep_eo (eo_lstP (m := .n) (R := (rTupF rInt)) (lp_cons (ep_tupF (m := .n) (R := rInt) lp_nil) lp_nil))) (fun v2 => (sw_for (τ := (List (List Int))) (cc := fun t3 => [.sh .n (Rp.at rInt v0), .sh .n (Rp.at (rList (rTupF rInt)) t3), .un, .un, .un, .un]) (t0 := v2) (IWP.w (iw_range1P (ep_var rfl))) (Wk.keep (Wk.keep (Wk.un (Wk.un (Wk.un (Wk.un Wk.nil)))))) hR (fun _ => (gp_name (i := 2))) (fun t3 (x4 : Int) _ _ _ _ hN5 hC6 hB7 hR => (sw_asgP (ep_eo (eo_lstP (m := .n) (R := (rTupF rInt)) lp_nil)) (fun v8 => (sw_for (τ := (List (List Int))) (cc := fun t9 => [.sh .n (Rp.at rInt v0), .sh .n (Rp.at (rList (rTupF rInt)) t3), .sh .n (Rp.at rInt x4), .sh .n (Rp.at (rList (rTupF rInt)) t9), .un, .un]) (t0 := v8) (IWP.w (iw_listP (K := K) (ep_var rfl))) (Wk.keep (Wk.keep (Wk.keep (Wk.keep (Wk.un (Wk.un Wk.nil)))))) hR (fun _ => (gp_name (i := 4))) (fun t9 (x10 : (List Int)) _ _ _ _ hN11 hC12 hB13 hR => (sw_asgP (ep_eo (eo_catiP (ep_var rfl) (ep_eo (eo_lcP (cg := fun x14 => [.sh .n (Rp.at rInt v0), .sh .n (Rp.at (rList (rTupF rInt)) t3), .sh .n (Rp.at rInt x4), .sh .n (Rp.at (rList (rTupF rInt)) t9), .sh .n (Rp.at (rTupF rInt) x10), .sh .n (Rp.at rInt x14)]) (iw_range1P (ep_var rfl)) (gp_name (i := 5)) (fun x14 => (tp_e (ep_op (o2_notInT (K := K) (Nat.le_of_ble_eq_true rfl)) (ep_var rfl) (ep_yT (K := K) (ep_var rfl))))) (fun x14 => (ep_op o2_catF (ep_var rfl) (ep_tupF (m := .n) (R := rInt) (lp_cons (ep_var rfl) lp_nil)))) (us_of rfl) (js_of rfl) (fun _ => rfl) (fun _ => us_of rfl))))) (fun v15 => (sw_nx hN11 v15 (Wk.keep (Wk.keep (Wk.keep (Wk.keep (Wk.un (Wk.un Wk.nil)))))))))) (fun t9 => (sw_asg (EP.w (ep_var rfl)) (fun v16 => (sw_nx hN5 v16 (Wk.keep (Wk.keep (Wk.un (Wk.un (Wk.un (Wk.un Wk.nil)))))))))))))) (fun t3 => (sw_ret hR (EP.w (ep_var rfl))))))) rfl ?_
  dsimp only at hS ⊢
  try simp only [true_and, and_true, decide_eq_true_eq, decide_eq_false_iff_not, Bool.not_eq_true', Bool.not_eq_false', implies_true, true_implies, Lh.map_id', Lh.nc] at hS ⊢
  obtain ⟨⟨h0, h5⟩, hp⟩ := hS
  obtain ⟨n, rfl⟩ : ∃ n : Nat, v0 = n := ⟨v0.toNat, by omega⟩
  intro v hv
  refine ⟨⟨by omega, by omega⟩, fun pre t => t = Rm.apN n pre.length, by rw [hv]; rfl, fun pre x post t e it v1 hv1 => ?_, fun t it => ?_⟩
  · have it : t = Rm.apN n pre.length := it
    have e2 := congrArg List.length e
    rw [rng_len, List.length_append, List.length_cons] at e2
    refine ⟨fun q u => u = q.flatMap (Rm.nxt n), by rw [hv1]; rfl, fun q y qs u eq iu => ?_, fun u iu => ?_⟩
    · have iu : u = q.flatMap (Rm.nxt n) := iu
      have hy : y ∈ t := by rw [eq]; simp
      have wy := (Rm.apN_mem n pre.length y).mp (by rw [← it]; exact hy)
      have tl : t.length ≤ 3125 := by
        rw [it]
        exact Nat.le_trans (Rm.apN_len n _) (Rm.pow5 (by omega) (by omega))
      have e3 := congrArg List.length eq
      rw [List.length_append, List.length_cons] at e3
      have ul : u.length ≤ 15625 := by
        rw [iu]
        exact Nat.le_trans (Rm.fm_len (Rm.nxt_len n) q) (Nat.mul_le_mul (show (n : Int).toNat ≤ 5 by omega) (show q.length ≤ 3125 by omega))
      have nl := Rm.nxt_len n y
      refine ⟨⟨⟨⟨by omega, by omega⟩, by rw [rng_len]; exact Lh.sz (by omega), fun x1 _ _ => by rw [wy.l]; exact Lh.sz (by rw [List.length_singleton]; omega)⟩, ?_⟩, fun w hw => ?_⟩
      · show u.length + (Rm.nxt n y).length ≤ sizeLine
        exact Lh.sz (by omega)
      · show w = (q ++ [y]).flatMap (Rm.nxt n)
        rw [hw, iu, List.flatMap_append, List.flatMap_cons, List.flatMap_nil, List.append_nil]
        rfl
    · show u = Rm.apN n (pre ++ [x]).length
      rw [List.length_append, List.length_singleton, Rm.apN, ← it]
      exact iu
  · have it : t = Rm.apN n (rng 0 (n : Int)).length := it
    rw [rng_len] at it
    rw [Rm.AP_eq] at hp
    rw [it, show ((n : Int) - 0).toNat = (n : Int).toNat by omega]
    exact hp

theorem sc_sum_of_rooms : FnScope ["table", "rooms", "row", "room"] ["table", "rooms"] (defScope s_sum_of_rooms) := ⟨rfl, rfl, rfl, by decide +kernel, rfl, by decide +kernel, by decide +kernel⟩
abbrev sp_sum_of_rooms (K : PySem.W.Frag) : Sp := spF (fun i : (List (List Int)) × (List Int) × Unit => [Rp.pn (rTup K (rTup K rInt)) i.1, Rp.pn (rTup K rInt) i.2.1]) rInt (fun i => i.1.length ≤ 100 ∧ ∀ x ∈ i.1.zip i.2.1, InB x.1.length x.2) (fun i => Rm.sumR i.1 i.2.1)
theorem ok_sum_of_rooms (T : Tx mg) {f : Addr} {fd : FuncData} (F : FnP K "sum_of_rooms" s_sum_of_rooms f fd) (hg : mg "sum_of_rooms" = some (.ref f)) : Cal P w K mg base 1 "sum_of_rooms" 2 ((sp_sum_of_rooms K)) := by
  refine ⟨["table", "rooms"], _, fd, ?_, hg, F.kp, F.bindsN fun _ _ _ _ _ _ us hl => match us, hl with | [_, _], _ => rfl, rfl⟩
  refine fn_ok F sc_sum_of_rooms (fun _ => rfl) (by decide) ?_
  intro cdv A outer s H E hr
  refine ⟨_, (pss_cons (ps_ret (pe_callB (cr_sumK (K := K) rfl rfl) (by rfl) T.b_sum bt_sum (pa_cons (pe_lc (own := [("row", 2), ("room", 3)]) (g := gTup K 2 (gCons (gName 2) (gCons (gName 3) gNil))) rfl sc_sum_of_rooms.nd (pi_zipTK (K := K) rfl (by rfl) T.b_zip (pa_cons (pv 0) (pa_cons (pv 1) pa_nil))) (blkOk_by (by kernel_rfl)) (fun _ _ _ _ _ => (pg_tupK (K := K) (n := 2) rfl rfl (pgs_cons (pg_name (i := 2) sc_sum_of_rooms.nd rfl (Or.inl rfl)) (pgs_cons (pg_name (i := 3) sc_sum_of_rooms.nd rfl (Or.inl rfl)) pgs_nil)))) (fun _ _ _ _ _ => pts_nil) (fun _ _ _ _ _ => (pe_ix (ix_tupK (K := K) rfl) (pv 2) (pv 3) (fun _ _ => rfl)))) pa_nil))) pss_nil), ?_⟩
  rintro ⟨v0, v1, _⟩ B Post Q hR hS hB
  refine SW.go (c' := [.sh .n (Rp.at (rTup K (rTup K rInt)) v0), .sh .n (Rp.at (rTup K rInt) v1), .un, .un]) (sw_ret hR (EP.w (ep_cb ob_sumL (ap_cons (ep_eo (eo_lc1P (cg := fun x3 => [.sh .n (Rp.at (rTup K (rTup K rInt)) v0), .sh .n (Rp.at (rTup K rInt) v1), .sh .n (Rp.at (rTup K rInt) x3.1), .sh .n (Rp.at rInt x3.2)]) (iw_zipTP (K := K) (ep_var rfl) (ep_var rfl)) (gp_pair (gp_name (i := 2)) (fun _ => (gp_name (i := 3)))) (fun x3 => (ep_op o2_ixT (ep_var rfl) (ep_var rfl))) (us_of rfl) (js_of rfl) (fun _ => rfl) (fun _ => us_of rfl))) ap_nil)))) rfl ?_
  dsimp only at hS ⊢
  try simp only [true_and, and_true, decide_eq_true_eq, decide_eq_false_iff_not, Bool.not_eq_true', Bool.not_eq_false', implies_true, true_implies, Lh.map_id', Lh.nc] at hS ⊢
  obtain ⟨⟨hl, hz⟩, hp⟩ := hS
  exact ⟨⟨Lh.sz (by rw [List.length_zip]; omega), fun x hx => hz x hx⟩, hp⟩

theorem sc_best_rooms : FnScope ["table", "best", "rooms"] ["table"] (defScope s_best_rooms) := ⟨rfl, rfl, rfl, by decide +kernel, rfl, by decide +kernel, by decide +kernel⟩
abbrev sp_best_rooms (K : PySem.W.Frag) : Sp := spF (fun i : (List (List Int)) × Unit => [Rp.pn (rTup K (rTup K rInt)) i.1]) (rTupF rInt) (fun i => Rm.Tb i.1) (fun i => Rm.bestR i.1)
theorem ok_best_rooms (T : Tx mg) (C_all_rooms : Cal P w K mg base 1 "all_rooms" 1 (sp_all_rooms K)) (C_sum_of_rooms : Cal P w K mg base 1 "sum_of_rooms" 2 (sp_sum_of_rooms K)) {f : Addr} {fd : FuncData} (F : FnP K "best_rooms" s_best_rooms f fd) (hg : mg "best_rooms" = some (.ref f)) : Cal P w K mg base 2 "best_rooms" 1 ((sp_best_rooms K)) := by
  refine ⟨["table"], _, fd, ?_, hg, F.kp, F.bindsN fun _ _ _ _ _ _ us hl => match us, hl with | [_], _ => rfl, rfl⟩
  refine fn_ok F sc_best_rooms (fun _ => rfl) (by decide) ?_
  intro cdv A outer s H E hr
  refine ⟨_, (pss_cons (ps_set (i := 1) sc_best_rooms.nd rfl (Or.inl rfl) pe_non) (pss_cons (ps_for PassesOwn.never rfl (pi_listK (K := K) rfl (pe_cal C_all_rooms hr (by decide) (by rfl) (pa_cons (pe_callB (call_len_seqK (K := K) rfl) (by rfl) T.b_len bt_len (pa_cons (pv 0) pa_nil)) pa_nil))) (pg_name (i := 2) sc_best_rooms.nd rfl (Or.inl rfl)) (pss_cons (ps_if (PW.pt (pw_or (pt_cmpR op_isN (pv 1) pe_non (nomark _)) (pw_or1 (pt_cmpR op_gt (pe_cal C_sum_of_rooms hr (by decide) (by rfl) (pa_cons (pv 0) (pa_cons (pv 2) pa_nil))) (pe_cal C_sum_of_rooms hr (by decide) (by rfl) (pa_cons (pv 0) (pa_cons (pv 1) pa_nil))) (nomark _))))) (pss_cons (ps_set (i := 1) sc_best_rooms.nd rfl (Or.inl rfl) (pv 2)) pss_nil) pss_nil) pss_nil)) (pss_cons (ps_ret (pv 1)) pss_nil))), ?_⟩
  rintro ⟨v0, _⟩ B Post Q hR hS hB
  refine SW.go (c' := [.sh .n (Rp.at (rTup K (rTup K rInt)) v0), .un, .un]) (sw_asg (EP.w ep_none) (fun v2 => (sw_for (τ := (Option (List Int))) (cc := fun t3 => [.sh .n (Rp.at (rTup K (rTup K rInt)) v0), .sh .n (Rp.at (rOpt (rTupF rInt)) t3), .un]) (t0 := v2) (IWP.w (iw_listP (K := K) (ep_call (_, ()) (ap_cons (ep_cb ob_lenT (ap_cons (ep_var rfl) ap_nil)) ap_nil)))) (Wk.keep (Wk.keep (Wk.un Wk.nil))) hR (fun _ => (gp_name (i := 2))) (fun t3 (x4 : (List Int)) _ _ _ _ hN5 hC6 hB7 hR => (sw_if (τ := (Option (List Int))) (cc := fun t8 => [.sh .n (Rp.at (rTup K (rTup K rInt)) v0), .sh .n (Rp.at (rOpt (rTupF rInt)) t8), .sh .n (Rp.at (rTupF rInt) x4)]) (TP'.w (tp_or (tp_e (ep_op (o2_isN (fun h => h)) (ep_var rfl) ep_non)) (tp_e (ep_op (o2_B0 (g := fun i j => decide (j < i))) (ep_call (_, _, ()) (ap_cons (ep_var rfl) (ap_cons (ep_yT (K := K) (ep_var rfl)) ap_nil))) (ep_call (_, _, ()) (ap_cons (ep_var rfl) (ap_cons (ep_yT (K := K) (ep_unopt (ep_var rfl))) ap_nil))))))) (fun kap10 _ hN9 => (sw_asgP (ep_some (ep_var rfl)) (fun v11 => (sw_nx (cc := (fun (t8 : (Option (List Int))) => [.sh .n (Rp.at (rTup K (rTup K rInt)) v0), .sh .n (Rp.at (rOpt (rTupF rInt)) t8), .sh .n (Rp.at (rTupF rInt) x4)])) (κ := kap10) hN9 v11 (Wk.keep (Wk.keep (Wk.keep Wk.nil))))))) (fun kap10 _ hN9 => (sw_nx (cc := (fun (t8 : (Option (List Int))) => [.sh .n (Rp.at (rTup K (rTup K rInt)) v0), .sh .n (Rp.at (rOpt (rTupF rInt)) t8), .sh .n (Rp.at (rTupF rInt) x4)])) (κ := kap10) hN9 t3 (Wk.keep (Wk.keep (Wk.keep Wk.nil))))) (fun t8 => (sw_nx hN5 t8 (Wk.keep (Wk.keep (Wk.un Wk.nil))))))) (fun t3 => (sw_ret hR (EP.w (ep_unopt (ep_var rfl)))))))) rfl ?_
  dsimp only at hS ⊢
  try simp only [true_and, and_true, decide_eq_true_eq, decide_eq_false_iff_not, Bool.not_eq_true', Bool.not_eq_false', implies_true, true_implies, Lh.map_id', Lh.nc] at hS ⊢
  obtain ⟨tb, hp⟩ := hS
  have n5 := tb.n
  refine ⟨⟨by omega, by omega⟩, fun pre t => (pre = [] ∧ t = none) ∨ ∃ r, t = some r ∧ Rm.Fm (Rm.sumR v0) pre r, .inl ⟨rfl, rfl⟩, fun pre x post t e it => ?_, fun t it => ?_⟩
  · have hx : x ∈ Rm.AP v0.length := by rw [e]; simp
    have zx := tb.zip (Rm.AP_mem.mp hx)
    rcases it with ⟨e1, rfl⟩ | ⟨r, rfl, fm⟩
    · exact ⟨fun h => (by cases h), fun u => ∃ r, u = some r ∧ Rm.Fm (Rm.sumR v0) (pre ++ [x]) r, fun u h => .inr h, fun _ u hu => ⟨x, hu, by rw [e1]; exact Rm.Fm.one _ _⟩, fun h => by simp at h⟩
    · have hr : r ∈ Rm.AP v0.length := by rw [e]; exact List.mem_append_left _ fm.m
      have zr := tb.zip (Rm.AP_mem.mp hr)
      refine ⟨fun _ => ⟨zx, rfl, zr⟩, fun u => ∃ r, u = some r ∧ Rm.Fm (Rm.sumR v0) (pre ++ [x]) r, fun u h => .inr h, fun hc u hu => ?_, fun hc => ?_⟩
      · have c : Rm.sumR v0 r < Rm.sumR v0 x := by simpa using hc
        exact ⟨x, hu, fm.next.1 c⟩
      · have c : ¬ Rm.sumR v0 r < Rm.sumR v0 x := by
          simp at hc
          omega
        exact ⟨r, rfl, fm.next.2 c⟩
  · rcases it with ⟨e1, _⟩ | ⟨r, rfl, fm⟩
    · exact absurd e1 (Rm.AP_ne _)
    · rw [← Rm.bestR_eq fm] at hp
      exact ⟨rfl, hp⟩

theorem sc_better_ring : FnScope ["table", "rooms", "best", "start", "ring", "i"] ["table", "rooms"] (defScope s_better_ring) := ⟨rfl, rfl, rfl, by decide +kernel, rfl, by decide +kernel, by decide +kernel⟩
abbrev sp_better_ring (K : PySem.W.Frag) : Sp := spT false (fun i : (List (List Int)) × (List Int) × Unit => [Rp.pn (rTup K (rTup K rInt)) i.1, Rp.pn (rTupF rInt) i.2.1]) (rOpt (rList rInt)) (fun i P => (Rm.Tb i.1 ∧ Rm.Wy i.1.length i.1.length i.2.1) ∧ ∀ r, Rm.RingOk i.1 i.2.1 r → P r)
theorem ok_better_ring (T : Tx mg) (C_best_rooms : Cal P w K mg base 2 "best_rooms" 1 (sp_best_rooms K)) {f : Addr} {fd : FuncData} (F : FnP K "better_ring" s_better_ring f fd) (hg : mg "better_ring" = some (.ref f)) : Cal P w K mg base 3 "better_ring" 2 ((sp_better_ring K)) := by
  refine ⟨["table", "rooms"], _, fd, ?_, hg, F.kp, F.bindsN fun _ _ _ _ _ _ us hl => match us, hl with | [_, _], _ => rfl, rfl⟩
  refine fn_ok F sc_better_ring (fun _ => rfl) (by decide) ?_
  intro cdv A outer s H E hr
  refine ⟨_, (pss_cons (ps_set (i := 2) sc_better_ring.nd rfl (Or.inr rfl) (pe_cal C_best_rooms hr (by decide) (by rfl) (pa_cons (pv 0) pa_nil))) (pss_cons (ps_for PassesOwn.never rfl (pi_range1 (by rfl) T.b_range (pa_cons (pe_callB (call_len_seqK (K := K) rfl) (by rfl) T.b_len bt_len (pa_cons (pv 0) pa_nil)) pa_nil)) (pg_name (i := 3) sc_better_ring.nd rfl (Or.inl rfl)) (pss_cons (ps_set (i := 4) sc_better_ring.nd rfl (Or.inl rfl) (pe_lst (pa_cons (pv 3) pa_nil))) (pss_cons (ps_while PassesOwn.never (pt_cmpR op_ne (pe_bmT PySem.F.slot_tuple_index PySem.F.type_tuple_index (mt_indexTK (K := K) rfl) (pv 1) (pa_cons (pe_ix (ix_tupK (K := K) rfl) (pv 2) (pe_ix (ix_listK (K := K) rfl) (pv 4) (pe_un un_neg pe_int) (fun _ _ => rfl)) (fun _ _ => rfl)) pa_nil)) (pv 3) (nomark _)) (pss_cons (ps_expr (pe_bm PySem.F.plainAttrs_list PySem.F.slot_list_append PySem.F.type_list_append mt_append (pv 4) (pa_cons (pe_bmT PySem.F.slot_tuple_index PySem.F.type_tuple_index (mt_indexTK (K := K) rfl) (pv 1) (pa_cons (pe_ix (ix_tupK (K := K) rfl) (pv 2) (pe_ix (ix_listK (K := K) rfl) (pv 4) (pe_un un_neg pe_int) (fun _ _ => rfl)) (fun _ _ => rfl)) pa_nil)) pa_nil))) pss_nil)) (pss_cons (ps_if (pt_cmpR op_gt (pe_callB (cr_sumK (K := K) rfl rfl) (by rfl) T.b_sum bt_sum (pa_cons (pe_lc (own := [("i", 5)]) (g := gName 5) rfl sc_better_ring.nd (pi_listK (K := K) rfl (pv 4)) (blkOk_by (by kernel_rfl)) (fun _ _ _ _ _ => (pg_name (i := 5) sc_better_ring.nd rfl (Or.inl rfl))) (fun _ _ _ _ _ => pts_nil) (fun _ _ _ _ _ => (pe_op op_sub (pe_ix (ix_tupK (K := K) rfl) (pe_ix (ix_tupK (K := K) rfl) (pv 0) (pv 5) (fun _ _ => rfl)) (pe_ix (ix_tupK (K := K) rfl) (pv 2) (pv 5) (fun _ _ => rfl)) (fun _ _ => rfl)) (pe_ix (ix_tupK (K := K) rfl) (pe_ix (ix_tupK (K := K) rfl) (pv 0) (pv 5) (fun _ _ => rfl)) (pe_ix (ix_tupK (K := K) rfl) (pv 1) (pv 5) (fun _ _ => rfl)) (fun _ _ => rfl))))) pa_nil)) pe_int (nomark _)) (pss_cons (ps_ret (pv 4)) pss_nil) pss_nil) pss_nil)))) (pss_cons (ps_ret pe_non) pss_nil))), ?_⟩
  rintro ⟨v0, v1, _⟩ B Post Q hR hS hB
  refine SW.go (c' := [.sh .n (Rp.at (rTup K (rTup K rInt)) v0), .sh .n (Rp.at (rTupF rInt) v1), .un, .un, .un, .un]) (sw_asgP (ep_call (_, ()) (ap_cons (ep_var rfl) ap_nil)) (fun v3 => (sw_for (τ := Unit) (cc := fun t4 => [.sh .n (Rp.at (rTup K (rTup K rInt)) v0), .sh .n (Rp.at (rTupF rInt) v1), .sh .n (Rp.at (rTupF rInt) v3), .un, .un, .un]) (t0 := ()) (IWP.w (iw_range1P (ep_cb ob_lenT (ap_cons (ep_var rfl) ap_nil)))) (Wk.keep (Wk.keep (Wk.keep (Wk.un (Wk.un (Wk.un Wk.nil)))))) hR (fun _ => (gp_name (i := 3))) (fun t4 (x5 : Int) _ _ _ _ hN6 hC7 hB8 hR => (sw_asgOP (eo_lstP (m := .n) (R := rInt) (lp_cons (ep_var rfl) lp_nil)) (fun v9 => (sw_while (τ := (List Int)) (cc := fun t10 => [.sh .n (Rp.at (rTup K (rTup K rInt)) v0), .sh .n (Rp.at (rTupF rInt) v1), .sh .n (Rp.at (rTupF rInt) v3), .sh .n (Rp.at rInt x5), .ow ((oList .n rInt) t10), .un]) (t0 := v9) (Wk.keep (Wk.keep (Wk.keep (Wk.keep (Wk.keep (Wk.un Wk.nil)))))) hR (fun t10 => (TP'.w (tp_e (ep_op o2_neI (ep_indexY (K := K) (ep_var rfl) (ep_op o2_ixT (ep_yT (K := K) (ep_var rfl)) (ep_im (m' := .n) (ep_op o2_ixL (ep_ow rfl) (ep_un (o1_I (g := fun i => -i)) ep_int))))) (ep_var rfl))))) (fun t10 _ _ _ hN11 hC12 hB13 hR => (sw_app lv_name (EP.w (ep_indexY (K := K) (ep_var rfl) (ep_op o2_ixT (ep_yT (K := K) (ep_var rfl)) (ep_im (m' := .n) (ep_op o2_ixL (ep_ow rfl) (ep_un (o1_I (g := fun i => -i)) ep_int)))))) (fun x14 v15 => (sw_nx hN11 v15 (Wk.keep (Wk.keep (Wk.keep (Wk.keep (Wk.keep (Wk.un Wk.nil)))))))))) (fun t10 => (sw_ifx (TP'.w (tp_e (ep_op (o2_B0 (g := fun i j => decide (j < i))) (ep_cb ob_sumL (ap_cons (ep_eo (eo_lc1P (cg := fun x16 => [.sh .n (Rp.at (rTup K (rTup K rInt)) v0), .sh .n (Rp.at (rTupF rInt) v1), .sh .n (Rp.at (rTupF rInt) v3), .sh .n (Rp.at rInt x5), .ow ((oList .n rInt) t10), .sh .b (Rp.at rInt x16)]) (iw_listP (K := K) (ep_ow rfl)) (gp_name (i := 5)) (fun x16 => (ep_op (o2_I0 (g := fun i j => i - j)) (ep_op o2_ixT (ep_op o2_ixT (ep_var rfl) (ep_var rfl)) (ep_op o2_ixT (ep_yT (K := K) (ep_var rfl)) (ep_var rfl))) (ep_op o2_ixT (ep_op o2_ixT (ep_var rfl) (ep_var rfl)) (ep_op o2_ixT (ep_yT (K := K) (ep_var rfl)) (ep_var rfl))))) (us_of rfl) (js_of rfl) (fun _ => rfl) (fun _ => us_of rfl))) ap_nil)) ep_int))) (fun _ => (sw_retO (RtOk.opt hR) rfl)) (sw_nx hN6 () (Wk.keep (Wk.keep (Wk.keep (Wk.un (Wk.un (Wk.un Wk.nil))))))))))))) (fun t4 => (sw_ret hR (EP.w ep_none)))))) rfl ?_
  dsimp only at hS ⊢
  try simp only [true_and, and_true, decide_eq_true_eq, decide_eq_false_iff_not, Bool.not_eq_true', Bool.not_eq_false', implies_true, true_implies, Lh.map_id', Lh.nc] at hS ⊢
  obtain ⟨⟨tb, hr⟩, hp⟩ := hS
  have n5 := tb.n
  have bw := Rm.bestR_wy v0
  have bl := bw.l
  have vl := hr.l
  have fi := Rm.f_inj hr
  refine ⟨tb, fun b eb => ?_⟩
  subst eb
  refine ⟨⟨by omega, by omega⟩, fun pre _ => ∀ s ∈ pre, ∃ r, Rm.Ri (Rm.fI (Rm.bestR v0) v1) v0.length s r ∧ ¬ 0 < (r.map (Rm.ga v0 (Rm.bestR v0) v1)).sum, fun s hs => (by cases hs), fun pre x post _ e it v2 hv2 => ?_, fun _ it => hp none fun s s0 s1 => it s (Lh.mem_rng.mpr ⟨s0, s1⟩)⟩
  obtain ⟨_, _, x0, x1⟩ := Lh.rng_split e
  refine ⟨fun r => Rm.Or (Rm.fI (Rm.bestR v0) v1) v0.length x r, fun r => v0.length - r.length, by rw [hv2]; exact Rm.Or.one x0 x1, fun r hr2 => ?_⟩
  have hr2 : Rm.Or (Rm.fI (Rm.bestR v0) v1) v0.length x r := hr2
  have ne := hr2.ne
  have lb := hr2.b _ hr2.last
  have ba := bw.at lb.1 lb.2
  have hm : gI (Rm.bestR v0) (gI r (-1)) ∈ v1 := hr.mem ba.1 ba.2
  have ix : (InB r.length (-1) ∧ InB (Rm.bestR v0).length (gI r (-1))) ∧ gI (Rm.bestR v0) (gI r (-1)) ∈ v1 := ⟨⟨⟨by omega, by omega⟩, ⟨by omega, by omega⟩⟩, hm⟩
  have rl := hr2.len
  refine ⟨ix, fun hc => ⟨ix, Lh.szl (by omega), fun v3 hv3 => ?_⟩, fun hc => ⟨⟨Lh.sz (by omega), fun y hy => ?_⟩, fun hg => ?_, fun hg => ?_⟩⟩
  · have c : Rm.fI (Rm.bestR v0) v1 (gI r (-1)) ≠ x := hc
    have nx := hr2.next fi c
    have e2 : v3 = r ++ [Rm.fI (Rm.bestR v0) v1 (gI r (-1))] := hv3
    rw [e2]
    have := nx.len
    rw [List.length_append, List.length_singleton] at this
    exact ⟨nx, by show v0.length - (r ++ [_]).length < v0.length - r.length; rw [List.length_append, List.length_singleton]; omega⟩
  · have b := hr2.b y hy
    have ry := tb.row b.1 b.2
    have by1 := bw.at b.1 b.2
    have by2 := hr.at b.1 b.2
    exact ⟨⟨⟨by omega, by omega⟩, ⟨by omega, by omega⟩, by rw [ry]; exact ⟨by omega, by omega⟩⟩, ⟨by omega, by omega⟩, ⟨by omega, by omega⟩, by rw [ry]; exact ⟨by omega, by omega⟩⟩
  · exact hp (some r) ⟨x, ⟨hr2, hc⟩, hg⟩
  · intro s hs
    rcases List.mem_append.mp hs with hs | hs
    · exact it s hs
    · rw [List.mem_singleton.mp hs]
      exact ⟨r, ⟨hr2, hc⟩, by first | exact hg | exact of_decide_eq_false hg⟩

theorem sc_law : FnScope ["script", "state", "turn", "n", "high", "table", "every", "sums", "best", "at", "rooms", "ring", "gain", "i", "k", "j"] ["script"] (defScope s_law) := ⟨rfl, rfl, rfl, by decide +kernel, rfl, by decide +kernel, by decide +kernel⟩
theorem ok_law_fn (T : Tx mg) (C__law_state : Cal P w K mg base 1 "_law_state" 1 (spState K)) (C__law_draw : Cal P w K mg base 1 "_law_draw" 2 spDraw) (C__law_all : Cal P w K mg base 1 "_law_all" 1 (sp__law_all K)) (C_best_rooms : Cal P w K mg base 2 "best_rooms" 1 (sp_best_rooms K)) (C_sum_of_rooms : Cal P w K mg base 1 "sum_of_rooms" 2 (sp_sum_of_rooms K)) (C_better_ring : Cal P w K mg base 3 "better_ring" 2 (sp_better_ring K))  {f : Addr} {fd : FuncData} (F : FnP K "law" s_law f fd) (hg : mg "law" = some (.ref f)) : FnOk P w K mg base CX0 4 f fd ["script"] (spLaw K) := by
  refine fn_ok F sc_law (fun _ => rfl) (by decide) ?_
  intro cdv A outer s H E hr
  refine ⟨_, (pss_cons (ps_set (i := 1) sc_law.nd rfl (Or.inr rfl) (pe_cal C__law_state hr (by decide) (by rfl) (pa_cons (pv 0) pa_nil))) (pss_cons (ps_for PassesOwn.never rfl (pi_range1 (by rfl) T.b_range (pa_cons pe_int pa_nil)) (pg_name (i := 2) sc_law.nd rfl (Or.inl rfl)) (pss_cons (ps_set (i := 3) sc_law.nd rfl (Or.inr rfl) (pe_op op_add pe_int (pe_cal C__law_draw hr (by decide) (by rfl) (pa_cons (pv 1) (pa_cons pe_int pa_nil))))) (pss_cons (ps_set (i := 4) sc_law.nd rfl (Or.inr rfl) (pe_ix (ix_listK (K := K) rfl) (pe_lst (pa_cons pe_int (pa_cons pe_int pa_nil))) (pe_cal C__law_draw hr (by decide) (by rfl) (pa_cons (pv 1) (pa_cons pe_int pa_nil))) (fun _ _ => rfl))) (pss_cons (ps_set (i := 5) sc_law.nd rfl (Or.inr rfl) (pe_tupleOfK (K := K) rfl (by rfl) T.b_tuple (pe_lc (own := [("i", 13)]) (g := gName 13) rfl sc_law.nd (pi_range1 (by rfl) T.b_range (pa_cons (pv 3) pa_nil)) (blkOk_by (by kernel_rfl)) (fun _ _ _ _ _ => (pg_name (i := 13) sc_law.nd rfl (Or.inl rfl))) (fun _ _ _ _ _ => pts_nil) (fun _ _ _ _ _ => (pe_tupleOfK (K := K) rfl (by rfl) T.b_tuple (pe_lc (own := [("j", 15)]) (g := gName 15) rfl sc_law.nd (pi_range1 (by rfl) T.b_range (pa_cons (pv 3) pa_nil)) (blkOk_by (by kernel_rfl)) (fun _ _ _ _ _ => (pg_name (i := 15) sc_law.nd rfl (Or.inl rfl))) (fun _ _ _ _ _ => pts_nil) (fun _ _ _ _ _ => (pe_op op_sub (pe_cal C__law_draw hr (by decide) (by rfl) (pa_cons (pv 1) (pa_cons (pv 4) pa_nil))) (pe_op op_fdivW (pv 4) pe_int))))))))) (pss_cons (ps_set (i := 6) sc_law.nd rfl (Or.inr rfl) (pe_cal C__law_all hr (by decide) (by rfl) (pa_cons (pv 3) pa_nil))) (pss_cons (ps_set (i := 7) sc_law.nd rfl (Or.inr rfl) (pe_lc (own := [("rooms", 10)]) (g := gName 10) rfl sc_law.nd (pi_listK (K := K) rfl (pv 6)) (blkOk_by (by kernel_rfl)) (fun _ _ _ _ _ => (pg_name (i := 10) sc_law.nd rfl (Or.inr rfl))) (fun _ _ _ _ _ => pts_nil) (fun _ _ _ _ _ => (pe_callB (cr_sumK (K := K) rfl rfl) (by rfl) T.b_sum bt_sum (pa_cons (pe_lc (own := [("i", 13)]) (g := gName 13) rfl sc_law.nd (pi_range1 (by rfl) T.b_range (pa_cons (pv 3) pa_nil)) (blkOk_by (by kernel_rfl)) (fun _ _ _ _ _ => (pg_name (i := 13) sc_law.nd rfl (Or.inl rfl))) (fun _ _ _ _ _ => pts_nil) (fun _ _ _ _ _ => (pe_ix (ix_tupK (K := K) rfl) (pe_ix (ix_tupK (K := K) rfl) (pv 5) (pv 13) (fun _ _ => rfl)) (pe_ix (ix_tupK (K := K) rfl) (pv 10) (pv 13) (fun _ _ => rfl)) (fun _ _ => rfl)))) pa_nil))))) (pss_cons (ps_set (i := 8) sc_law.nd rfl (Or.inl rfl) (pe_callB (cr_minD (K := K) rfl rfl (un65 hr)) (by rfl) T.b_min bt_min (pa_cons (pe_lc (own := [("k", 14)]) (g := gName 14) rfl sc_law.nd (pi_range1 (by rfl) T.b_range (pa_cons (pe_callB (call_len_seqK (K := K) rfl) (by rfl) T.b_len bt_len (pa_cons (pv 6) pa_nil)) pa_nil)) (blkOk_by (by kernel_rfl)) (fun _ _ _ _ _ => (pg_name (i := 14) sc_law.nd rfl (Or.inl rfl))) (fun _ _ _ _ _ => pts_one (pt_cmpR op_eq (pe_ix (ix_listK (K := K) rfl) (pv 7) (pv 14) (fun _ _ => rfl)) (pe_callB (cr_maxD' (K := K) rfl rfl (un65 hr)) (by rfl) T.b_max bt_max (pa_cons (pv 7) pa_nil)) (nomark _))) (fun _ _ _ _ _ => (pe_ix (ix_listK (K := K) rfl) (pv 6) (pv 14) (fun _ _ => rfl)))) pa_nil))) (pss_cons (ps_if (pt_cmpR (op_neDK (K := K) rfl hr.units) (pe_cal C_best_rooms hr (by decide) (by rfl) (pa_cons (pv 5) pa_nil)) (pv 8) (nomark _)) (pss_cons (ps_ret pe_bl) pss_nil) pss_nil) (pss_cons (ps_set (i := 9) sc_law.nd rfl (Or.inl rfl) (pe_cal C__law_draw hr (by decide) (by rfl) (pa_cons (pv 1) (pa_cons (pe_callB (call_len_seqK (K := K) rfl) (by rfl) T.b_len bt_len (pa_cons (pv 6) pa_nil)) pa_nil)))) (pss_cons (ps_set (i := 10) sc_law.nd rfl (Or.inr rfl) (pe_ix (ix_listK (K := K) rfl) (pv 6) (pv 9) (fun _ _ => rfl))) (pss_cons (ps_if (pt_cmpR op_ne (pe_cal C_sum_of_rooms hr (by decide) (by rfl) (pa_cons (pv 5) (pa_cons (pv 10) pa_nil))) (pe_ix (ix_listK (K := K) rfl) (pv 7) (pv 9) (fun _ _ => rfl)) (nomark _)) (pss_cons (ps_ret pe_bl) pss_nil) pss_nil) (pss_cons (ps_set (i := 11) sc_law.nd rfl (Or.inr rfl) (pe_cal C_better_ring hr (by decide) (by rfl) (pa_cons (pv 5) (pa_cons (pv 10) pa_nil)))) (pss_cons (ps_if (pt_cmpR op_ne (pe_cmpR op_isN (pv 11) pe_non (nomark _)) (pe_cmpR op_eq (pe_ix (ix_listK (K := K) rfl) (pv 7) (pv 9) (fun _ _ => rfl)) (pe_callB (cr_maxD' (K := K) rfl rfl (un65 hr)) (by rfl) T.b_max bt_max (pa_cons (pv 7) pa_nil)) (nomark _)) (nomark _)) (pss_cons (ps_ret pe_bl) pss_nil) pss_nil) (pss_cons (ps_if (pt_cmpR op_notN (pv 11) pe_non (nomark _)) (pss_cons (ps_if (PW.pt (pw_or (pt_cmpR op_lt (pe_callB (call_len_seqK (K := K) rfl) (by rfl) T.b_len bt_len (pa_cons (pv 11) pa_nil)) pe_int (nomark _)) (pw_or1 (pt_cmpR op_ne (pe_lenSetI (K := K) rfl rfl (by rfl) T.b_len (by rfl) T.b_set (pv 11)) (pe_callB (call_len_seqK (K := K) rfl) (by rfl) T.b_len bt_len (pa_cons (pv 11) pa_nil)) (nomark _))))) (pss_cons (ps_ret pe_bl) pss_nil) pss_nil) (pss_cons (ps_set (i := 12) sc_law.nd rfl (Or.inl rfl) (pe_callB (cr_sumK (K := K) rfl rfl) (by rfl) T.b_sum bt_sum (pa_cons (pe_lc (own := [("k", 14)]) (g := gName 14) rfl sc_law.nd (pi_range1 (by rfl) T.b_range (pa_cons (pe_callB (call_len_seqK (K := K) rfl) (by rfl) T.b_len bt_len (pa_cons (pv 11) pa_nil)) pa_nil)) (blkOk_by (by kernel_rfl)) (fun _ _ _ _ _ => (pg_name (i := 14) sc_law.nd rfl (Or.inl rfl))) (fun _ _ _ _ _ => pts_nil) (fun _ _ _ _ _ => (pe_op op_sub (pe_ix (ix_tupK (K := K) rfl) (pe_ix (ix_tupK (K := K) rfl) (pv 5) (pe_ix (ix_listK (K := K) rfl) (pv 11) (pv 14) (fun _ _ => rfl)) (fun _ _ => rfl)) (pe_ix (ix_tupK (K := K) rfl) (pv 10) (pe_ix (ix_listK (K := K) rfl) (pv 11) (pe_op op_sub (pe_op op_add (pv 14) pe_int) (pe_callB (call_len_seqK (K := K) rfl) (by rfl) T.b_len bt_len (pa_cons (pv 11) pa_nil))) (fun _ _ => rfl)) (fun _ _ => rfl)) (fun _ _ => rfl)) (pe_ix (ix_tupK (K := K) rfl) (pe_ix (ix_tupK (K := K) rfl) (pv 5) (pe_ix (ix_listK (K := K) rfl) (pv 11) (pv 14) (fun _ _ => rfl)) (fun _ _ => rfl)) (pe_ix (ix_tupK (K := K) rfl) (pv 10) (pe_ix (ix_listK (K := K) rfl) (pv 11) (pv 14) (fun _ _ => rfl)) (fun _ _ => rfl)) (fun _ _ => rfl))))) pa_nil))) (pss_cons (ps_if (pt_cmpR op_le (pv 12) pe_int (nomark _)) (pss_cons (ps_ret pe_bl) pss_nil) pss_nil) pss_nil))) pss_nil) pss_nil)))))))))))))) (pss_cons (ps_ret (pe_and (pe_cmpR op_isN (pe_cal C_better_ring hr (by decide) (by rfl) (pa_cons (pe_tup (pa_cons (pe_tup (pa_cons pe_int pa_nil)) pa_nil)) (pa_cons (pe_tupF (pa_cons pe_int pa_nil)) pa_nil))) pe_non (nomark _)) (pe_one (pe_cmpR (op_eqDK (K := K) rfl hr.units) (pe_cal C_best_rooms hr (by decide) (by rfl) (pa_cons (pe_tup (pa_cons (pe_tup (pa_cons pe_int (pa_cons pe_int pa_nil))) (pa_cons (pe_tup (pa_cons pe_int (pa_cons pe_int pa_nil))) pa_nil))) pa_nil)) (pe_tup (pa_cons pe_int (pa_cons pe_int pa_nil))) (nomark _))))) pss_nil))), ?_⟩
  rintro v0 B Post Q hR ⟨hlen, hpost⟩ hB
  have hB0 : B = [] := hB rfl
  subst hB0
  refine SW.go (c' := [.sh .s (pScript K v0), .un, .un, .un, .un, .un, .un, .un, .un, .un, .un, .un, .un, .un, .un, .un]) (sw_state rfl rfl rfl hlen (sw_for (τ := Unit) (cc := fun t1 => [.sh .s (pScript K v0), .io, .un, .un, .un, .un, .un, .un, .un, .un, .un, .un, .un, .un, .un, .un]) (t0 := ()) (IWP.w (iw_range1P ep_int)) (Wk.keep (Wk.keep (Wk.un (Wk.un (Wk.un (Wk.un (Wk.un (Wk.un (Wk.un (Wk.un (Wk.un (Wk.un (Wk.un (Wk.un (Wk.un (Wk.un Wk.nil)))))))))))))))) hR (fun _ => (gp_name (i := 2))) (fun t1 (x2 : Int) _ _ _ _ hN3 hC4 hB5 hR => (sw_re (c' := [.sh .s (pScript K v0), .io, .sh .n (Rp.at rInt x2), .un, .un, .un, .un, .un, .un, .un, .un, .un, .un, .un, .un, .un]) (sw_asg (ew_op (o2_I0 (g := fun i j => i + j)) (EP.w ep_int) (fun _ => (ew_callS rfl (aw_cons (EP.w ep_int) (fun _ => aw_nil))))) (fun v6 => (sw_asg (ew_op o2_ixL (EP.w (ep_eo (eo_lstP (m := .n) (R := rInt) (lp_cons ep_int (lp_cons ep_int lp_nil))))) (fun _ => (ew_callS rfl (aw_cons (EP.w ep_int) (fun _ => aw_nil))))) (fun v7 => (sw_re (c' := [.sh .s (pScript K v0), .io, .sh .n (Rp.at rInt x2), .sh .n (Rp.at rInt v6), .sh .n (Rp.at rInt v7), .un, .un, .un, .un, .un, .un, .un, .un, .un, .un, .un]) (sw_asg (ew_tupleL (eo_sh (eo_lcW1 (cg := fun x8 => [.sh .s (pScript K v0), .io, .sh .n (Rp.at rInt x2), .sh .n (Rp.at rInt v6), .sh .n (Rp.at rInt v7), .un, .un, .un, .un, .un, .un, .un, .un, .sh .n (Rp.at rInt x8), .un, .un]) (IWP.w (iw_range1P (ep_var rfl))) (gp_name (i := 13)) (fun x8 => (ew_tupleL (eo_sh (eo_lcW1 (cg := fun x9 => [.sh .s (pScript K v0), .io, .sh .n (Rp.at rInt x2), .sh .n (Rp.at rInt v6), .sh .n (Rp.at rInt v7), .un, .un, .un, .un, .un, .un, .un, .un, .sh .n (Rp.at rInt x8), .un, .sh .n (Rp.at rInt x9)]) (IWP.w (iw_range1P (ep_var rfl))) (gp_name (i := 15)) (fun x9 => (ew_op (o2_I0 (g := fun i j => i - j)) (ew_callS rfl (aw_cons (EP.w (ep_var rfl)) (fun _ => aw_nil))) (fun _ => (EP.w (ep_op (o2_I (g := fun i j => i / j)) (ep_var rfl) ep_int))))) (us_of rfl) (js_of rfl) (fun _ => rfl) (fun _ => us_of rfl))))) (us_of rfl) (js_of rfl) (fun _ => rfl) (fun _ => us_of rfl)))) (fun v10 => (sw_asgP (ep_call (_, ()) (ap_cons (ep_var rfl) ap_nil)) (fun v11 => (sw_re (c' := [.sh .s (pScript K v0), .io, .sh .n (Rp.at rInt x2), .sh .n (Rp.at rInt v6), .sh .n (Rp.at rInt v7), .sh .n (Rp.at (rTup K (rTup K rInt)) v10), .sh .n (Rp.at (rList (rTupF rInt)) v11), .un, .un, .un, .un, .un, .un, .un, .un, .un]) (sw_asgP (ep_eo (eo_lc1P (cg := fun x12 => [.sh .s (pScript K v0), .io, .sh .n (Rp.at rInt x2), .sh .n (Rp.at rInt v6), .sh .n (Rp.at rInt v7), .sh .n (Rp.at (rTup K (rTup K rInt)) v10), .sh .n (Rp.at (rList (rTupF rInt)) v11), .un, .un, .un, .sh .n (Rp.at (rTupF rInt) x12), .un, .un, .un, .un, .un]) (iw_listP (K := K) (ep_var rfl)) (gp_name (i := 10)) (fun x12 => (ep_cb ob_sumL (ap_cons (ep_eo (eo_lc1P (cg := fun x13 => [.sh .s (pScript K v0), .io, .sh .n (Rp.at rInt x2), .sh .n (Rp.at rInt v6), .sh .n (Rp.at rInt v7), .sh .n (Rp.at (rTup K (rTup K rInt)) v10), .sh .n (Rp.at (rList (rTupF rInt)) v11), .un, .un, .un, .sh .n (Rp.at (rTupF rInt) x12), .un, .un, .sh .n (Rp.at rInt x13), .un, .un]) (iw_range1P (ep_var rfl)) (gp_name (i := 13)) (fun x13 => (ep_op o2_ixT (ep_op o2_ixT (ep_var rfl) (ep_var rfl)) (ep_op o2_ixT (ep_yT (K := K) (ep_var rfl)) (ep_var rfl)))) (us_of rfl) (js_of rfl) (fun _ => rfl) (fun _ => us_of rfl))) ap_nil))) (us_of rfl) (js_of rfl) (fun _ => rfl) (fun _ => us_of rfl))) (fun v14 => (sw_asgP (ep_cb (ob_mnL (K := K) (R := (rTup K rInt))) (ap_cons (ep_eo (eo_lcP (cg := fun x15 => [.sh .s (pScript K v0), .io, .sh .n (Rp.at rInt x2), .sh .n (Rp.at rInt v6), .sh .n (Rp.at rInt v7), .sh .n (Rp.at (rTup K (rTup K rInt)) v10), .sh .n (Rp.at (rList (rTupF rInt)) v11), .sh .n (Rp.at (rList rInt) v14), .un, .un, .un, .un, .un, .un, .sh .n (Rp.at rInt x15), .un]) (iw_range1P (ep_cb ob_lenL (ap_cons (ep_var rfl) ap_nil))) (gp_name (i := 14)) (fun x15 => (tp_e (ep_op o2_eqI (ep_op o2_ixL (ep_var rfl) (ep_var rfl)) (ep_cb ob_mxIL (ap_cons (ep_var rfl) ap_nil))))) (fun x15 => (ep_yT (K := K) (ep_op o2_ixL (ep_var rfl) (ep_var rfl)))) (us_of rfl) (js_of rfl) (fun _ => rfl) (fun _ => us_of rfl))) ap_nil)) (fun v16 => (sw_re (c' := [.sh .s (pScript K v0), .io, .sh .n (Rp.at rInt x2), .sh .n (Rp.at rInt v6), .sh .n (Rp.at rInt v7), .sh .n (Rp.at (rTup K (rTup K rInt)) v10), .sh .n (Rp.at (rList (rTupF rInt)) v11), .sh .n (Rp.at (rList rInt) v14), .sh .n (Rp.at (rTup K rInt) v16), .un, .un, .un, .un, .un, .un, .un]) (sw_ifx (TP'.w (tp_e (ep_op (o2_neD (K := K) (Nat.le_of_ble_eq_true rfl)) (ep_yT (K := K) (ep_call (_, ()) (ap_cons (ep_var rfl) ap_nil))) (ep_var rfl)))) (fun _ => (sw_ret hR (EP.w ep_bl))) (sw_re (c' := [.sh .s (pScript K v0), .io, .sh .n (Rp.at rInt x2), .sh .n (Rp.at rInt v6), .sh .n (Rp.at rInt v7), .sh .n (Rp.at (rTup K (rTup K rInt)) v10), .sh .n (Rp.at (rList (rTupF rInt)) v11), .sh .n (Rp.at (rList rInt) v14), .sh .n (Rp.at (rTup K rInt) v16), .un, .un, .un, .un, .un, .un, .un]) (sw_asg (ew_callS rfl (aw_cons (EP.w (ep_cb ob_lenL (ap_cons (ep_var rfl) ap_nil))) (fun _ => aw_nil))) (fun v17 => (sw_asgP (ep_op o2_ixL (ep_var rfl) (ep_var rfl)) (fun v18 => (sw_re (c' := [.sh .s (pScript K v0), .io, .sh .n (Rp.at rInt x2), .sh .n (Rp.at rInt v6), .sh .n (Rp.at rInt v7), .sh .n (Rp.at (rTup K (rTup K rInt)) v10), .sh .n (Rp.at (rList (rTupF rInt)) v11), .sh .n (Rp.at (rList rInt) v14), .sh .n (Rp.at (rTup K rInt) v16), .sh .n (Rp.at rInt v17), .sh .n (Rp.at (rTupF rInt) v18), .un, .un, .un, .un, .un]) (sw_ifx (TP'.w (tp_e (ep_op o2_neI (ep_call (_, _, ()) (ap_cons (ep_var rfl) (ap_cons (ep_yT (K := K) (ep_var rfl)) ap_nil))) (ep_op o2_ixL (ep_var rfl) (ep_var rfl))))) (fun _ => (sw_ret hR (EP.w ep_bl))) (sw_re (c' := [.sh .s (pScript K v0), .io, .sh .n (Rp.at rInt x2), .sh .n (Rp.at rInt v6), .sh .n (Rp.at rInt v7), .sh .n (Rp.at (rTup K (rTup K rInt)) v10), .sh .n (Rp.at (rList (rTupF rInt)) v11), .sh .n (Rp.at (rList rInt) v14), .sh .n (Rp.at (rTup K rInt) v16), .sh .n (Rp.at rInt v17), .sh .n (Rp.at (rTupF rInt) v18), .un, .un, .un, .un, .un]) (sw_asg (ew_call (aw_cons (EP.w (ep_var rfl)) (fun _ => (aw_cons (EP.w (ep_var rfl)) (fun _ => aw_nil))))) (fun v19 => (sw_ifx (TP'.w (tp_e (ep_op o2_neB (ep_op (o2_isN (fun h => h)) (ep_var rfl) ep_non) (ep_op o2_eqI (ep_op o2_ixL (ep_var rfl) (ep_var rfl)) (ep_cb ob_mxIL (ap_cons (ep_var rfl) ap_nil)))))) (fun _ => (sw_re (c' := [.sh .s (pScript K v0), .io, .sh .n (Rp.at rInt x2), .sh .n (Rp.at rInt v6), .sh .n (Rp.at rInt v7), .sh .n (Rp.at (rTup K (rTup K rInt)) v10), .sh .n (Rp.at (rList (rTupF rInt)) v11), .sh .n (Rp.at (rList rInt) v14), .sh .n (Rp.at (rTup K rInt) v16), .sh .n (Rp.at rInt v17), .sh .n (Rp.at (rTupF rInt) v18), .sh .n (Rp.at (rOpt (rList rInt)) v19), .un, .un, .un, .un]) (sw_ret hR (EP.w ep_bl)) rfl)) (sw_if (τ := Unit) (cc := fun t20 => [.sh .s (pScript K v0), .io, .sh .n (Rp.at rInt x2), .sh .n (Rp.at rInt v6), .sh .n (Rp.at rInt v7), .sh .n (Rp.at (rTup K (rTup K rInt)) v10), .sh .n (Rp.at (rList (rTupF rInt)) v11), .sh .n (Rp.at (rList rInt) v14), .sh .n (Rp.at (rTup K rInt) v16), .sh .n (Rp.at rInt v17), .sh .n (Rp.at (rTupF rInt) v18), .sh .n (Rp.at (rOpt (rList rInt)) v19), .un, .un, .un, .un]) (TP'.w (tp_e (ep_op (o2_notN (fun h => h)) (ep_var rfl) ep_non))) (fun kap22 _ hN21 => (sw_ifx (TP'.w (tp_or (tp_e (ep_op (o2_B0 (g := fun i j => decide (i < j))) (ep_cb ob_lenL (ap_cons (ep_unopt (ep_var rfl)) ap_nil)) ep_int)) (tp_e (ep_op o2_neI (ep_lenSetI (K := K) (ep_unopt (ep_var rfl))) (ep_cb ob_lenL (ap_cons (ep_unopt (ep_var rfl)) ap_nil)))))) (fun _ => (sw_re (c' := [.sh .s (pScript K v0), .io, .sh .n (Rp.at rInt x2), .sh .n (Rp.at rInt v6), .sh .n (Rp.at rInt v7), .sh .n (Rp.at (rTup K (rTup K rInt)) v10), .sh .n (Rp.at (rList (rTupF rInt)) v11), .sh .n (Rp.at (rList rInt) v14), .sh .n (Rp.at (rTup K rInt) v16), .sh .n (Rp.at rInt v17), .sh .n (Rp.at (rTupF rInt) v18), .sh .n (Rp.at (rOpt (rList rInt)) v19), .un, .un, .un, .un]) (sw_ret hR (EP.w ep_bl)) rfl)) (sw_asgP (ep_cb ob_sumL (ap_cons (ep_eo (eo_lc1P (cg := fun x23 => [.sh .s (pScript K v0), .io, .sh .n (Rp.at rInt x2), .sh .n (Rp.at rInt v6), .sh .n (Rp.at rInt v7), .sh .n (Rp.at (rTup K (rTup K rInt)) v10), .sh .n (Rp.at (rList (rTupF rInt)) v11), .sh .n (Rp.at (rList rInt) v14), .sh .n (Rp.at (rTup K rInt) v16), .sh .n (Rp.at rInt v17), .sh .n (Rp.at (rTupF rInt) v18), .sh .n (Rp.at (rOpt (rList rInt)) v19), .un, .un, .sh .n (Rp.at rInt x23), .un]) (iw_range1P (ep_cb ob_lenL (ap_cons (ep_unopt (ep_var rfl)) ap_nil))) (gp_name (i := 14)) (fun x23 => (ep_op (o2_I0 (g := fun i j => i - j)) (ep_op o2_ixT (ep_op o2_ixT (ep_var rfl) (ep_op o2_ixL (ep_unopt (ep_var rfl)) (ep_var rfl))) (ep_op o2_ixT (ep_yT (K := K) (ep_var rfl)) (ep_op o2_ixL (ep_unopt (ep_var rfl)) (ep_op (o2_I0 (g := fun i j => i - j)) (ep_op (o2_I0 (g := fun i j => i + j)) (ep_var rfl) ep_int) (ep_cb ob_lenL (ap_cons (ep_unopt (ep_var rfl)) ap_nil)))))) (ep_op o2_ixT (ep_op o2_ixT (ep_var rfl) (ep_op o2_ixL (ep_unopt (ep_var rfl)) (ep_var rfl))) (ep_op o2_ixT (ep_yT (K := K) (ep_var rfl)) (ep_op o2_ixL (ep_unopt (ep_var rfl)) (ep_var rfl)))))) (us_of rfl) (js_of rfl) (fun _ => rfl) (fun _ => us_of rfl))) ap_nil)) (fun v24 => (sw_re (c' := [.sh .s (pScript K v0), .io, .sh .n (Rp.at rInt x2), .sh .n (Rp.at rInt v6), .sh .n (Rp.at rInt v7), .sh .n (Rp.at (rTup K (rTup K rInt)) v10), .sh .n (Rp.at (rList (rTupF rInt)) v11), .sh .n (Rp.at (rList rInt) v14), .sh .n (Rp.at (rTup K rInt) v16), .sh .n (Rp.at rInt v17), .sh .n (Rp.at (rTupF rInt) v18), .sh .n (Rp.at (rOpt (rList rInt)) v19), .sh .n (Rp.at rInt v24), .un, .un, .un]) (sw_ifx (TP'.w (tp_e (ep_op (o2_B0 (g := fun i j => decide (i ≤ j))) (ep_var rfl) ep_int))) (fun _ => (sw_ret hR (EP.w ep_bl))) (sw_nx (cc := (fun (t20 : Unit) => [.sh .s (pScript K v0), .io, .sh .n (Rp.at rInt x2), .sh .n (Rp.at rInt v6), .sh .n (Rp.at rInt v7), .sh .n (Rp.at (rTup K (rTup K rInt)) v10), .sh .n (Rp.at (rList (rTupF rInt)) v11), .sh .n (Rp.at (rList rInt) v14), .sh .n (Rp.at (rTup K rInt) v16), .sh .n (Rp.at rInt v17), .sh .n (Rp.at (rTupF rInt) v18), .sh .n (Rp.at (rOpt (rList rInt)) v19), .un, .un, .un, .un])) (κ := kap22) hN21 () (Wk.keep (Wk.keep (Wk.keep (Wk.keep (Wk.keep (Wk.keep (Wk.keep (Wk.keep (Wk.keep (Wk.keep (Wk.keep (Wk.keep (Wk.un (Wk.un (Wk.un (Wk.un Wk.nil)))))))))))))))))) rfl))))) (fun kap22 _ hN21 => (sw_nx (cc := (fun (t20 : Unit) => [.sh .s (pScript K v0), .io, .sh .n (Rp.at rInt x2), .sh .n (Rp.at rInt v6), .sh .n (Rp.at rInt v7), .sh .n (Rp.at (rTup K (rTup K rInt)) v10), .sh .n (Rp.at (rList (rTupF rInt)) v11), .sh .n (Rp.at (rList rInt) v14), .sh .n (Rp.at (rTup K rInt) v16), .sh .n (Rp.at rInt v17), .sh .n (Rp.at (rTupF rInt) v18), .sh .n (Rp.at (rOpt (rList rInt)) v19), .un, .un, .un, .un])) (κ := kap22) hN21 () (Wk.keep (Wk.keep (Wk.keep (Wk.keep (Wk.keep (Wk.keep (Wk.keep (Wk.keep (Wk.keep (Wk.keep (Wk.keep (Wk.keep (Wk.un (Wk.un (Wk.un (Wk.un Wk.nil)))))))))))))))))) (fun t20 => (sw_nx hN3 () (Wk.keep (Wk.keep (Wk.un (Wk.un (Wk.un (Wk.un (Wk.un (Wk.un (Wk.un (Wk.un (Wk.un (Wk.un (Wk.un (Wk.un (Wk.un (Wk.un Wk.nil)))))))))))))))))))))) rfl)) rfl))))) rfl)) rfl))))) rfl))))) rfl))))) rfl)) (fun t1 => (sw_re (c' := [.sh .s (pScript K v0), .io, .un, .un, .un, .un, .un, .un, .un, .un, .un, .un, .un, .un, .un, .un]) (sw_ret hR (ew_and (ew_op (o2_isN (fun h => h)) (ew_call (aw_cons (EP.w (ep_tupL (m := .n) (R := (rTup K rInt)) (lp_cons (ep_tupL (m := .n) (R := rInt) (lp_cons ep_int lp_nil)) lp_nil))) (fun _ => (aw_cons (EP.w (ep_tupF (m := .n) (R := rInt) (lp_cons ep_int lp_nil))) (fun _ => aw_nil))))) (fun _ => (EP.w ep_non))) (EP.w (ep_op (o2_eqD (K := K) (Nat.le_of_ble_eq_true rfl)) (ep_yT (K := K) (ep_call (_, ()) (ap_cons (ep_tupL (m := .n) (R := (rTup K rInt)) (lp_cons (ep_tupL (m := .n) (R := rInt) (lp_cons ep_int (lp_cons ep_int lp_nil))) (lp_cons (ep_tupL (m := .n) (R := rInt) (lp_cons ep_int (lp_cons ep_int lp_nil))) lp_nil))) ap_nil))) (ep_tupL (m := .n) (R := rInt) (lp_cons ep_int (lp_cons ep_int lp_nil))))))) rfl)))) rfl ?_
  dsimp only
  try simp only [true_and, and_true]
  refine ⟨⟨by decide, by decide⟩, fun _ _ => True, trivial, fun pre x post t e _ => ⟨by decide, fun d d0 d1 => ⟨by decide, fun d2 e0 e1 => ?_⟩⟩, fun t _ => ⟨⟨⟨by decide, by decide⟩, ⟨rfl, by simp, by simp⟩⟩, fun r hr => ?_⟩⟩
  · have hg : gI ([3, 50] : List Int) d2 = 3 ∨ gI ([3, 50] : List Int) d2 = 50 := by
      have : d2 = 0 ∨ d2 = 1 := by omega
      rcases this with rfl | rfl
      · left; rw [Lh.gI_cons0]
      · right; rw [show (1 : Int) = ((1 : Nat) : Int) from rfl, Lh.gI_nat]; rfl
    have gd : CDivW (gI ([3, 50] : List Int) d2) 3 := by rcases hg with z | z <;> rw [z] <;> exact ⟨by decide, by decide⟩
    have gk : DrawOk (gI ([3, 50] : List Int) d2) := by rcases hg with z | z <;> rw [z] <;> decide
    clear hg
    generalize gI ([3, 50] : List Int) d2 = hi at *
    obtain ⟨n, hn⟩ : ∃ n : Nat, 1 + d = (n : Int) := ⟨(1 + d).toNat, by omega⟩
    rw [hn]
    have n1 : 1 ≤ n ∧ n ≤ 5 := by omega
    refine ⟨⟨by show -((2 : Nat) : Int) ≤ d2; omega, by show d2 < ((2 : Nat) : Int); omega⟩, ⟨by omega, by omega⟩, by rw [rng_len]; exact Lh.sz (by omega), ?_⟩
    clear hn d0 d1 e0 e1
    refine mapW1_of (fun _ (row : List Int) => row.length = n) (fun x _ Q h => ⟨⟨by omega, by omega⟩, by rw [rng_len]; exact Lh.sz (by omega), mapW1_of (fun _ _ => True) (fun y _ Q h => ⟨gk, fun d _ _ => ⟨gd, h _ trivial⟩⟩) fun row hr => h _ (by rw [← hr.length, rng_len]; omega)⟩) fun ws hw => ?_
    have wl : ws.length = n := by rw [← hw.length, rng_len]; omega
    have tb : Rm.Tb ws := ⟨by omega, fun row hr => by
      obtain ⟨z, hz⟩ := hw.right row hr
      rw [wl]; exact hz⟩
    clear hw
    subst wl
    have few := Rm.AP_few n1.2
    have ok := Rm.bestR_ok ws
    refine ⟨⟨by omega, by omega⟩, fun v hv => ?_⟩
    subst hv
    refine ⟨⟨Lh.sz (by omega), fun x hx => ⟨⟨by omega, by omega⟩, by rw [rng_len]; exact Lh.sz (by omega), fun i hi2 => ?_⟩⟩, fun v1 hv1 => ?_⟩
    · obtain ⟨i0, i1⟩ := Lh.mem_rng.mp hi2
      have wy := Rm.AP_mem.mp hx
      have wl := wy.l
      have wa := wy.at i0 i1
      have rw_ := tb.row i0 i1
      exact ⟨⟨by omega, by omega⟩, ⟨by omega, by omega⟩, ⟨by omega, by omega⟩⟩
    rw [Rm.sums_eq rfl] at hv1
    subst hv1
    rw [Rm.pick_eq]
    have pos : 0 < (Rm.AP (ws.length : Int)).length := List.length_pos_of_mem ok.m
    have vl : ((Rm.AP (ws.length : Int)).map (Rm.sumR ws)).length = (Rm.AP (ws.length : Int)).length := List.length_map _
    refine ⟨⟨⟨⟨by omega, by omega⟩, by rw [rng_len]; exact Lh.sz (by omega), fun k hk => ?_⟩, ?_⟩, fun v2 hv2 => ⟨tb, fun hh => ?_, fun _ => ⟨Lh.draw_ok (by omega) (by omega), fun d3 f0 f1 => ⟨⟨by omega, by omega⟩, fun rooms hrm => ?_⟩⟩⟩⟩
    · obtain ⟨k0, k1⟩ := Lh.mem_rng.mp hk
      exact ⟨⟨⟨by omega, by omega⟩, by omega⟩, fun _ => ⟨by omega, by omega⟩⟩
    · exact List.length_pos_of_mem (List.mem_filter.mpr ⟨ok.m, decide_eq_true ((Rm.mx_is ok.m).mpr ok.mx)⟩)
    · exfalso
      have eb : Rm.bestR ws = v2 := by rw [hv2]; exact Rm.best_pick ws
      rw [decide_eq_true eb] at hh
      exact absurd hh (by decide)
    have hm : rooms ∈ Rm.AP (ws.length : Int) := by rw [hrm]; exact Lh.gI_mem ⟨by omega, by omega⟩
    have wy := Rm.AP_mem.mp hm
    have wyl := wy.l
    have eg : gI ((Rm.AP (ws.length : Int)).map (Rm.sumR ws)) d3 = Rm.sumR ws rooms := by rw [hrm]; exact Rm.gI_mp _ f0 f1
    rw [eg]
    refine ⟨⟨tb.zip wy, ⟨by omega, by omega⟩⟩, fun hh => ?_, fun _ => ⟨⟨tb, wy⟩, fun r rok => ⟨⟨⟨by omega, by omega⟩, by omega⟩, fun hh => ?_, fun _ => ⟨fun _ => True, fun _ _ => trivial, fun hs => ?_, fun _ => trivial⟩⟩⟩⟩
    · exfalso
      rw [decide_eq_true rfl] at hh
      exact absurd hh (by decide)
    · exfalso
      rw [Rm.ring_max hm rok] at hh
      simp at hh
    cases r with
    | none => cases hs
    | some q =>
      have two := Rm.ring_two wy rok
      obtain ⟨s, ri, hg⟩ := rok
      have ql := ri.len
      have sl : (sset q).length = q.length := nd_len ((sset_up q).imp fun h => by omega) ri.nd fun z => sset_mem
      have qb : ∀ k : Int, InB q.length k → 0 ≤ gI q k ∧ gI q k < ws.length := fun k hk => ri.b _ (Lh.gI_mem hk)
      show (true = true ∧ (decide ((q.length : Int) < 2) = false → (true = true ∧ q.length ≤ 4000) ∧ true = true)) ∧ _
      refine ⟨⟨rfl, fun _ => ⟨⟨rfl, by omega⟩, rfl⟩⟩, fun hh => ?_, fun _ => ⟨⟨⟨rfl, by show -2 ^ 62 ≤ (q.length : Int); omega, by show (q.length : Int) < 2 ^ 62; omega⟩, by show (rng 0 (q.length : Int)).length ≤ _; rw [rng_len]; exact Lh.sz (by omega), fun k hk => ?_⟩, fun v hv => ⟨fun hh => ?_, fun _ => trivial⟩⟩⟩
      · exfalso
        have hh : (decide ((q.length : Int) < 2) || !decide (((sset q).length : Int) = (q.length : Int))) = true := hh
        rw [decide_eq_false (by omega), decide_eq_true (by omega)] at hh
        exact absurd hh (by decide)
      · obtain ⟨k0, k1⟩ := Lh.mem_rng.mp hk
        have k1 : k < (q.length : Int) := k1
        have i1 : InB q.length k := ⟨by omega, by omega⟩
        have i2 : InB q.length (k + 1 - (q.length : Int)) := ⟨by omega, by omega⟩
        have b1 := qb _ i1
        have b2 := qb _ i2
        have c1 := wy.at b1.1 b1.2
        have c2 := wy.at b2.1 b2.2
        have rl := tb.row b1.1 b1.2
        have w1 : InB ws.length (gI q k) := ⟨by omega, by omega⟩
        have m1 : InB rooms.length (gI q k) := ⟨by omega, by omega⟩
        have m2 : InB rooms.length (gI q (k + 1 - (q.length : Int))) := ⟨by omega, by omega⟩
        have r1 : InB (gI ws (gI q k)).length (gI rooms (gI q k)) := ⟨by omega, by omega⟩
        have r2 : InB (gI ws (gI q k)).length (gI rooms (gI q (k + 1 - (q.length : Int)))) := ⟨by omega, by omega⟩
        exact ⟨⟨⟨⟨rfl, i1⟩, w1⟩, ⟨⟨rfl, rfl, i2⟩, m2⟩, r2⟩, ⟨⟨rfl, i1⟩, w1⟩, ⟨⟨rfl, i1⟩, m1⟩, r1⟩
      · exfalso
        have hv : v = ((rng 0 (q.length : Int)).map fun k => gI (gI ws (gI q k)) (gI rooms (gI q (k + 1 - (q.length : Int)))) - gI (gI ws (gI q k)) (gI rooms (gI q k))).sum := hv
        rw [Rm.ring_sum wy ri] at hv
        have := of_decide_eq_true hh
        omega
  · have er := Rm.one_none hr
    subst er
    exact ⟨fun _ => ⟨⟨by decide, by decide⟩, by rw [Rm.two_best]; exact hpost⟩, fun hh => absurd hh (by decide)⟩

end
/-! ### the head -/
def d__law_state : He.DefD := ⟨("_law_state", none), "_law_state", "_law_state", defArgs s__law_state, defBody s__law_state, defScope s__law_state, [], []⟩
def d__law_all : He.DefD := ⟨("_law_all", none), "_law_all", "_law_all", defArgs s__law_all, defBody s__law_all, defScope s__law_all, [], []⟩
def d__law_draw : He.DefD := ⟨("_law_draw", none), "_law_draw", "_law_draw", defArgs s__law_draw, defBody s__law_draw, defScope s__law_draw, [], []⟩
def d_all_rooms : He.DefD := ⟨("all_rooms", none), "all_rooms", "all_rooms", defArgs s_all_rooms, defBody s_all_rooms, defScope s_all_rooms, [], []⟩
def d_sum_of_rooms : He.DefD := ⟨("sum_of_rooms", none), "sum_of_rooms", "sum_of_rooms", defArgs s_sum_of_rooms, defBody s_sum_of_rooms, defScope s_sum_of_rooms, [], []⟩
def d_best_rooms : He.DefD := ⟨("best_rooms", none), "best_rooms", "best_rooms", defArgs s_best_rooms, defBody s_best_rooms, defScope s_best_rooms, [], []⟩
def d_better_ring : He.DefD := ⟨("better_ring", none), "better_ring", "better_ring", defArgs s_better_ring, defBody s_better_ring, defScope s_better_ring, [], []⟩
def d_law : He.DefD := ⟨("law", none), "law", "law", defArgs s_law, defBody s_law, defScope s_law, [], []⟩
def fn : List He.DefD := [d__law_state, d__law_all, d__law_draw, d_all_rooms, d_sum_of_rooms, d_best_rooms, d_better_ring, d_law]
def fa : List He.Fa := [.glo "_law_state", .glo "_law_all", .glo "_law_draw", .glo "all_rooms", .glo "sum_of_rooms", .glo "best_rooms", .glo "better_ring", .glo "law", .free "abs", .free "int", .free "len", .free "max", .free "min", .free "range", .free "set", .free "sum", .free "tuple", .free "zip"]
def ex : List (Str × String) := []
abbrev RR : PySem.W.OpenRow := PySem.W.OpenLaw.row PySem.Challenge.rw_fairparts_k12_whole_rooms
abbrev hk : PySem.W.Hook := hookX 4 ex fa fn
def ob (s : PySem.W.SharedT) : AlX := obsXG 4 ex fa fn (HandSHeadRun.getT s)
theorem ob_eq (s : PySem.W.SharedT) : ob s = hk.obs s.abs := obsXG_eq (HandSHeadRun.getT_eq s)
def loose : List Str := (["sum_of_rooms", "all_rooms", "best_rooms", "better_ring", "_law_state", "_law_draw", "_law_all"] : List Str)
theorem run (w : World) : HandSHeadRun.RunEq RR (PySem.W.view RR.prog [9]) hk ob 600 loose w := by
  intro os
  kernel_rfl
theorem facts {P : Program} {w : World} {K : PySem.W.Frag} {h : Heap} {mg : Str → Option Value} {f : Addr} (X : K.In h) (G : h.Ns mainGlobals mg) (hfa : mg ("law" : Str) = some (.ref f)) (c : SaysX ex fa fn K) :
    ∃ fd : FuncData, (∀ (s : Shared) (v : Value), BindsTo s fd ⟨[v], []⟩ [("script", v)]) ∧ ∀ base : Heap, K.In base → base.Ns mainGlobals mg → FnOk P w K mg base CX0 4 f fd ["script"] (spLaw K) := by
  obtain ⟨fd__law_state, F__law_state⟩ := c.dfn 0 (x := "_law_state") (st := s__law_state) rfl
  have g__law_state := c.glo X G 0 (x := "_law_state") rfl
  obtain ⟨fd__law_all, F__law_all⟩ := c.dfn 1 (x := "_law_all") (st := s__law_all) rfl
  have g__law_all := c.glo X G 1 (x := "_law_all") rfl
  obtain ⟨fd__law_draw, F__law_draw⟩ := c.dfn 2 (x := "_law_draw") (st := s__law_draw) rfl
  have g__law_draw := c.glo X G 2 (x := "_law_draw") rfl
  obtain ⟨fd_all_rooms, F_all_rooms⟩ := c.dfn 3 (x := "all_rooms") (st := s_all_rooms) rfl
  have g_all_rooms := c.glo X G 3 (x := "all_rooms") rfl
  obtain ⟨fd_sum_of_rooms, F_sum_of_rooms⟩ := c.dfn 4 (x := "sum_of_rooms") (st := s_sum_of_rooms) rfl
  have g_sum_of_rooms := c.glo X G 4 (x := "sum_of_rooms") rfl
  obtain ⟨fd_best_rooms, F_best_rooms⟩ := c.dfn 5 (x := "best_rooms") (st := s_best_rooms) rfl
  have g_best_rooms := c.glo X G 5 (x := "best_rooms") rfl
  obtain ⟨fd_better_ring, F_better_ring⟩ := c.dfn 6 (x := "better_ring") (st := s_better_ring) rfl
  have g_better_ring := c.glo X G 6 (x := "better_ring") rfl
  obtain ⟨fd_law, F_law⟩ := c.dfn 7 (x := "law") (st := s_law) rfl
  have g_law := c.glo X G 7 (x := "law") rfl
  have T : Tx mg := ⟨c.free X G 8 rfl, c.free X G 9 rfl, c.free X G 10 rfl, c.free X G 11 rfl, c.free X G 12 rfl, c.free X G 13 rfl, c.free X G 14 rfl, c.free X G 15 rfl, c.free X G 16 rfl, c.free X G 17 rfl⟩
  have e := hfa.symm.trans g_law
  cases e
  refine ⟨fd_law, fun s v => FunD.bindsA (ps := ["script"]) F_law (fun _ _ _ _ _ _ us hl => match us, hl with | [_], _ => rfl) s [v] rfl, fun base _ _ => ?_⟩
  have C__law_state : Cal P w K mg base 1 "_law_state" 1 ((spState K)) := ok__law_state T F__law_state g__law_state
  have C__law_all : Cal P w K mg base 1 "_law_all" 1 ((sp__law_all K)) := ok__law_all T F__law_all g__law_all
  have C__law_draw : Cal P w K mg base 1 "_law_draw" 2 spDraw := ok__law_draw T F__law_draw g__law_draw
  have C_all_rooms : Cal P w K mg base 1 "all_rooms" 1 ((sp_all_rooms K)) := ok_all_rooms T F_all_rooms g_all_rooms
  have C_sum_of_rooms : Cal P w K mg base 1 "sum_of_rooms" 2 ((sp_sum_of_rooms K)) := ok_sum_of_rooms T F_sum_of_rooms g_sum_of_rooms
  have C_best_rooms : Cal P w K mg base 2 "best_rooms" 1 ((sp_best_rooms K)) := ok_best_rooms T C_all_rooms C_sum_of_rooms F_best_rooms g_best_rooms
  have C_better_ring : Cal P w K mg base 3 "better_ring" 2 ((sp_better_ring K)) := ok_better_ring T C_best_rooms F_better_ring g_better_ring
  exact ok_law_fn T C__law_state C__law_draw C__law_all C_best_rooms C_sum_of_rooms C_better_ring F_law g_law
end Law
open PySem PySem.W PySem.Calls PyProof.Rows
theorem PySem.Challenge.cw_fairparts_k12_whole_rooms_holds : PySem.Challenge.rw_fairparts_k12_whole_rooms.Holds := by
  w_on; o_law
  refine HandSHeadRun.head_any (r := OpenLaw.row PySem.Challenge.rw_fairparts_k12_whole_rooms) (q := view (OpenLaw.row PySem.Challenge.rw_fairparts_k12_whole_rooms).prog [9]) (H := Law.hk) (ob := Law.ob) (M := 600) (loose := Law.loose) (d := HandSHeadRun.topDef (OpenLaw.row PySem.Challenge.rw_fairparts_k12_whole_rooms).prog 9) (kwd := []) Law.ob_eq
    (by kernel_rfl) (fun s => by kernel_rfl) Law.run (by kernel_rfl) (by kernel_rfl) (by kernel_rfl) (by rfl) (by first | assumption | decide +kernel) (by decide +kernel) ⟨rfl, rfl, rfl, rfl, rfl, by decide +kernel⟩ ?hw ?hc
  case hw => w_witness2
  case hc =>
    refine L2.walk_ofE (l := PySem.Challenge.rw_fairparts_k12_whole_rooms) (n := 63) (k := 4) (x := "script") (CX := L2.CX0) rfl (by decide) (by kernel_rfl) ⟨rfl, by decide, by decide⟩ ?F (fun _ _ _ _ z => z)
    intro w mg fa h Y G hmg0
    obtain ⟨K, KX, c⟩ := Y
    have hmg : mg ("law" : PySem.Str) = some (.ref fa) := by
      have e : (HandSHeadRun.topDef (OpenLaw.row PySem.Challenge.rw_fairparts_k12_whole_rooms).prog 9).name = ("law" : PySem.Str) := by kernel_rfl
      rw [← e]
      exact hmg0
    obtain ⟨fd, hb, hF⟩ := Law.facts (P := (PySem.Challenge.rw_fairparts_k12_whole_rooms).prog) (w := w) KX G hmg c
    exact ⟨K, fd, TW.spLaw K, KX, hb, fun H a ns hl _ hS => ⟨(a, ns), [], fun b => b = true, ⟨rfl, .cons ⟨rfl, hS⟩ .nil⟩, ⟨hl, rfl⟩, fun b v H2 hb r => by rw [show v = _ from r.rp, hb]⟩, hF⟩
#print axioms PySem.Challenge.cw_fairparts_k12_whole_rooms_holds
