import PyProof.Rows.All
import Wide.All
import OpenK.AllK
import Wide.FinOn
import HandS.Base
import HandS.Call
import HandS.List
import HandS.Comp
import HandS.Iter
import HandS.Dict
import HandS.Exc
import HandS.ExcOwn
import HandS.TryOnly
import HandS.Ends
import HandS.Words
import HandS.WordsList
import HandS.WordsExc
import HandS.IsInst
import HandS.ExcIs
import HandS.Sort
import HandS.SortRule
import HandS.SortInts
import HandS.Wide
import HandS.TupSets
import HandS.Deep
import HandS.Conv
import HandS.Zip
import KE.LtSeq
import HandS.TupLe
import HandS.Text
import HandS.Codes
import KE.KIntText
import KE.IntTextLaws
import HandS.More
import HandS.Strs
import HandS.SetFor
import KE.KSortTupG
import KE.SortData
import KE.DataCmp
import KE.SortCalls
import KE.GoesComp
import PySem.Challenge.RW_switchhall_k28_no_orders_for_words
set_option Elab.async false
set_option linter.all false
set_option maxRecDepth 100000
set_option maxHeartbeats 4000000
/-! DL: readings over plain data: what a slot holds is told by a plain value, the heap is told by a base that only grows. -/
namespace DL
open PySem PySem.Spec PyProof.Rows L2

/-! ### what stands for a plain value -/
class Rp (α : Type) where
  rp : PySem.W.Frag → Hp → α → V → Prop
  mono : ∀ {K : PySem.W.Frag} {H H' : Hp} {a : α} {v : V}, Same H H' → rp K H a v → rp K H' a v
theorem Same.of_none {H H' : Hp} (e : Same H H') {p : Addr} (h : H' p = none) : H p = none := e.free h
theorem paired_mono {α : Type} [r : Rp α] {K : PySem.W.Frag} {H H' : Hp} (e : Same H H') {as : List α} {vs : List V} (h : Paired (Rp.rp K H) as vs) : Paired (Rp.rp K H') as vs := Paired.mapP h fun _ _ z => Rp.mono e z
instance rpInt : Rp Int := ⟨fun _ _ i v => v = .int i, fun _ h => h⟩
instance rpBool : Rp Bool := ⟨fun _ _ i v => v = .bl i, fun _ h => h⟩
instance rpUnit : Rp Unit := ⟨fun _ _ _ v => v = .non, fun _ h => h⟩
instance rpStr : Rp Str := ⟨fun _ _ i v => v = .str i, fun _ h => h⟩
def rpO {α : Type} [Rp α] (K : PySem.W.Frag) (H : Hp) : Option α → V → Prop
  | none, v => v = .non
  | some a, v => Rp.rp K H a v
instance rpOpt {α : Type} [Rp α] : Rp (Option α) := ⟨rpO, fun {K H H' a v} e h => by
  cases a with
  | none => exact h
  | some a => exact Rp.mono e h⟩
instance rpList {α : Type} [Rp α] : Rp (List α) := ⟨fun K H as v => ∃ p vs, v = .ref p ∧ H p = some (.lst vs) ∧ Paired (Rp.rp K H) as vs, fun e ⟨p, vs, a, b, c⟩ => ⟨p, vs, a, e _ _ b, paired_mono e c⟩⟩
instance rpPair {α β : Type} [Rp α] [Rp β] : Rp (α × β) := ⟨fun K H as v => ∃ p x y, v = .ref p ∧ H p = some (.tup [x, y]) ∧ Rp.rp K H as.1 x ∧ Rp.rp K H as.2 y, fun e ⟨p, x, y, a, b, c, d⟩ => ⟨p, x, y, a, e _ _ b, Rp.mono e c, Rp.mono e d⟩⟩
/-- a tuple of three, of four -/
structure T3 (α β γ : Type) where
  a : α
  b : β
  c : γ
structure T4 (α β γ δ : Type) where
  a : α
  b : β
  c : γ
  d : δ
instance rpT3 {α β γ : Type} [Rp α] [Rp β] [Rp γ] : Rp (T3 α β γ) := ⟨fun K H t v => ∃ p x y z, v = .ref p ∧ H p = some (.tup [x, y, z]) ∧ Rp.rp K H t.a x ∧ Rp.rp K H t.b y ∧ Rp.rp K H t.c z, fun e ⟨p, x, y, z, a, b, c, d, f⟩ => ⟨p, x, y, z, a, e _ _ b, Rp.mono e c, Rp.mono e d, Rp.mono e f⟩⟩
instance rpT4 {α β γ δ : Type} [Rp α] [Rp β] [Rp γ] [Rp δ] : Rp (T4 α β γ δ) := ⟨fun K H t v => ∃ p x y z u, v = .ref p ∧ H p = some (.tup [x, y, z, u]) ∧ Rp.rp K H t.a x ∧ Rp.rp K H t.b y ∧ Rp.rp K H t.c z ∧ Rp.rp K H t.d u, fun e ⟨p, x, y, z, u, a, b, c, d, f, g⟩ => ⟨p, x, y, z, u, a, e _ _ b, Rp.mono e c, Rp.mono e d, Rp.mono e f, Rp.mono e g⟩⟩
/-- any list of cells that is read alone (the script) -/
structure Scr where
  cells : List Int
instance rpScr : Rp Scr := ⟨fun K H s v => ∃ p, v = .ref p ∧ SqL K H p (s.cells.map V.int), fun e ⟨p, a, b⟩ => ⟨p, a, e.seq b⟩⟩
/-- what needs no heap -/
class Sc (α : Type) [Rp α] where
  any : ∀ {K : PySem.W.Frag} {H H' : Hp} {a : α} {v : V}, Rp.rp K H a v → Rp.rp K H' a v
instance scInt : Sc Int := ⟨fun h => h⟩
instance scBool : Sc Bool := ⟨fun h => h⟩
instance scUnit : Sc Unit := ⟨fun h => h⟩
instance scStr : Sc Str := ⟨fun h => h⟩
instance scOpt {α : Type} [Rp α] [Sc α] : @Sc (Option α) rpOpt := @Sc.mk (Option α) rpOpt fun {K H H' a v} h => by
  cases a with
  | none => exact h
  | some a =>
    show Rp.rp K H' a v
    exact Sc.any (α := α) (H := H) h
theorem paired_sc {α : Type} [Rp α] [Sc α] {K : PySem.W.Frag} {H H' : Hp} {as : List α} {vs : List V} (h : Paired (Rp.rp K H) as vs) : Paired (Rp.rp K H') as vs := Paired.mapP h fun _ _ z => Sc.any z

/-! ### owned things: lists, dicts that are changed in place -/
class Ow (α : Type) where
  ow : PySem.W.Frag → Hp → Hp → α → V → (Addr → Prop) → Prop
  fr : ∀ {K : PySem.W.Frag} {B H B' H' : Hp} {a : α} {v : V} {F F' : Addr → Prop}, ow K B H a v F → Same B B' → (∀ p, F p → H p ≠ none → F' p ∧ H' p = H p ∧ B' p = B p) → ow K B' H' a v F'
/-- a list that is changed in place; its items are not -/
structure ML (α : Type) where
  l : List α
instance owML {α : Type} [Rp α] : Ow (ML α) := ⟨fun K B H a v F => ∃ p vs, v = .ref p ∧ F p ∧ B p = none ∧ H p = some (.lst vs) ∧ Paired (Rp.rp K B) a.l vs, fun ⟨p, vs, e, f, n, h, r⟩ sb k => by
  obtain ⟨k1, k2, k3⟩ := k p f (by rw [h]; intro z; cases z)
  exact ⟨p, vs, e, k1, k3.trans n, k2.trans h, paired_mono sb r⟩⟩

/-! ### slots and frames -/
inductive Ty : Type 1
  | im {α : Type} (r : Rp α) (a : α)
  | ow {α : Type} (r : Ow α) (a : α)
  | un
  | any
def Slot (K : PySem.W.Frag) (B H : Hp) (F : Addr → Prop) : Option V → Ty → Prop
  | s, .im r a => ∃ v, s = some v ∧ r.rp K B a v
  | s, .ow r a => ∃ v, s = some v ∧ r.ow K B H a v F
  | s, .un => s = none
  | _, .any => True
structure Cn where
  K : PySem.W.Frag
  B0 : Hp
  H0 : Hp
structure Fr (G : Cn) (B H : Hp) (σ : L2.St) (T : List Ty) : Prop where
  bh : Same B H
  b0 : Same G.B0 B
  h0 : Same G.H0 H
  n0 : ∀ p, G.H0 p ≠ none → B p = G.B0 p
  len : σ.length = T.length
  sl : ∃ own : Addr → Option Nat, (∀ p i, own p = some i → G.H0 p = none) ∧ ∀ i t, T[i]? = some t → ∃ s, σ[i]? = some s ∧ Slot G.K B H (fun p => own p = some i) s t
structure Ext (B H B' H' : Hp) : Prop where
  b : Same B B'
  h : Same H H'
  s : Same B' H'
  n : ∀ p, H p ≠ none → B' p = B p
theorem Ext.refl {B H : Hp} (h : Same B H) : Ext B H B H := ⟨Same.refl _, Same.refl _, h, fun _ _ => rfl⟩
theorem Ext.trans {B H B1 H1 B2 H2 : Hp} (x : Ext B H B1 H1) (y : Ext B1 H1 B2 H2) : Ext B H B2 H2 := ⟨x.b.trans y.b, x.h.trans y.h, y.s, fun p hp => by
  have h1 : H1 p ≠ none := fun z => hp (x.h.free z)
  rw [y.n p h1, x.n p hp]⟩
theorem Ext.none {B H B1 H1 : Hp} (x : Ext B H B1 H1) {p : Addr} {o : HO} (h : H p = some o) (n : B p = Option.none) : B1 p = Option.none := (x.n p (by rw [h]; intro z; cases z)).trans n
theorem Slot.ext {K : PySem.W.Frag} {B H B' H' : Hp} {F : Addr → Prop} {s : Option V} {t : Ty} (x : Ext B H B' H') (h : Slot K B H F s t) : Slot K B' H' F s t := by
  cases t with
  | im r a => obtain ⟨v, e, q⟩ := h; exact ⟨v, e, r.mono x.b q⟩
  | ow r a =>
    obtain ⟨v, e, q⟩ := h
    refine ⟨v, e, r.fr q x.b fun p f n => ⟨f, ?_, x.n p n⟩⟩
    cases hp : H p with
    | none => exact absurd hp n
    | some o => exact x.h p o hp
  | un => exact h
  | any => trivial
theorem Fr.ext {G : Cn} {B H B' H' : Hp} {σ : L2.St} {T : List Ty} (f : Fr G B H σ T) (x : Ext B H B' H') : Fr G B' H' σ T := by
  obtain ⟨own, o0, sl⟩ := f.sl
  refine ⟨x.s, f.b0.trans x.b, f.h0.trans x.h, fun p hp => ?_, f.len, own, o0, fun i t e => ?_⟩
  · rw [x.n p fun z => hp (f.h0.free z), f.n0 p hp]
  · obtain ⟨s, e1, q⟩ := sl i t e
    exact ⟨s, e1, q.ext x⟩
theorem Fr.out {G : Cn} {B H : Hp} {σ : L2.St} {T : List Ty} (f : Fr G B H σ T) (hb : Same G.B0 G.H0) : Ext G.B0 G.H0 B H := ⟨f.b0, f.h0, f.bh, f.n0⟩
/-- a slot forgotten, or told otherwise -/
theorem Fr.set_im {G : Cn} {B H : Hp} {σ : L2.St} {T : List Ty} (f : Fr G B H σ T) (j : Nat) {α : Type} (r : Rp α) {a : α} {v : V} (h : r.rp G.K B a v) : Fr G B H (σ.set j (some v)) (T.set j (.im r a)) := by
  obtain ⟨own, o0, sl⟩ := f.sl
  refine ⟨f.bh, f.b0, f.h0, f.n0, by rw [List.length_set, List.length_set]; exact f.len, own, o0, fun i t e => ?_⟩
  by_cases hi : j = i
  · subst hi
    have hj : j < T.length := by
      have z := (List.getElem?_eq_some_iff.mp e).1
      rw [List.length_set] at z
      exact z
    rw [List.getElem?_set_self hj] at e
    cases e
    exact ⟨some v, List.getElem?_set_self (by rw [f.len]; exact hj), v, rfl, h⟩
  · rw [List.getElem?_set_ne hi] at e
    obtain ⟨s, e1, q⟩ := sl i t e
    exact ⟨s, by rw [List.getElem?_set_ne hi]; exact e1, q⟩
/-- a slot takes an owned thing whose objects are new, or were the slot's own; others stand as they are -/
theorem Fr.set_ow {G : Cn} {B H B' H' : Hp} {σ : L2.St} {T : List Ty} (f : Fr G B H σ T) (j : Nat) {α : Type} (r : Ow α) {a : α} {v : V} {F : Addr → Prop}
    (bh : Same B' H') (b0 : Same B B') (hF : ∀ p, F p → H p = none) (hk : ∀ p, H p ≠ none → H' p = H p ∧ B' p = B p) (h : r.ow G.K B' H' a v F) : Fr G B' H' (σ.set j (some v)) (T.set j (.ow r a)) := by
  classical
  obtain ⟨own, o0, sl⟩ := f.sl
  have h0' : Same G.H0 H' := fun p o e => by
    have e1 := f.h0 p o e
    rw [(hk p (by rw [e1]; intro z; cases z)).1]
    exact e1
  refine ⟨bh, f.b0.trans b0, h0', fun p hp => ?_, by rw [List.length_set, List.length_set]; exact f.len, ?_⟩
  · rw [(hk p fun z => hp (f.h0.free z)).2, f.n0 p hp]
  · refine ⟨fun p => if F p then some j else if own p = some j then none else own p, fun p i e => ?_, fun i t e => ?_⟩
    · replace e : (if F p then some j else if own p = some j then none else own p) = some i := e
      by_cases hp : F p
      · exact f.h0.free (hF p hp)
      · rw [if_neg hp] at e
        by_cases hq : own p = some j
        · rw [if_pos hq] at e; cases e
        · rw [if_neg hq] at e
          exact o0 p i e
    · by_cases hi : j = i
      · subst hi
        have hj : j < T.length := by
          have z := (List.getElem?_eq_some_iff.mp e).1
          rw [List.length_set] at z
          exact z
        rw [List.getElem?_set_self hj] at e
        cases e
        refine ⟨some v, List.getElem?_set_self (by rw [f.len]; exact hj), v, rfl, r.fr h (Same.refl _) fun p hp _ => ⟨if_pos hp, rfl, rfl⟩⟩
      · rw [List.getElem?_set_ne hi] at e
        obtain ⟨s, e1, q⟩ := sl i t e
        refine ⟨s, by rw [List.getElem?_set_ne hi]; exact e1, ?_⟩
        cases t with
        | im r a => obtain ⟨v, e, q⟩ := q; exact ⟨v, e, r.mono b0 q⟩
        | ow r a =>
          obtain ⟨v, e, q⟩ := q
          refine ⟨v, e, r.fr q b0 fun p hp hn => ⟨?_, hk p hn⟩⟩
          have nF : ¬ F p := fun z => hn (hF p z)
          have nj : ¬ own p = some j := fun z => hi (Option.some.inj (z.symm.trans hp))
          show (if F p then some j else if own p = some j then none else own p) = some i
          rw [if_neg nF, if_neg nj]
          exact hp
        | un => exact q
        | any => trivial
/-- an owned thing changed in place -/
theorem Fr.mut {G : Cn} {B H : Hp} {σ : L2.St} {T : List Ty} (f : Fr G B H σ T) {j : Nat} {α : Type} {r : Ow α} {a : α} (hj : T[j]? = some (.ow r a)) :
    ∃ (v : V) (F : Addr → Prop), σ[j]? = some (some v) ∧ r.ow G.K B H a v F ∧ ∀ (β : Type) (r' : Ow β) (b : β) (B' H' : Hp), Same B' H' → Same B B' → (∀ p, H p ≠ none → B' p = B p) → (∀ p, H p ≠ none → ¬ F p → H' p = H p) → r'.ow G.K B' H' b v F → Fr G B' H' σ (T.set j (.ow r' b)) := by
  obtain ⟨own, o0, sl⟩ := f.sl
  obtain ⟨s, e1, v, rfl, q⟩ := sl j _ hj
  refine ⟨v, _, e1, q, fun β r' b B' H' bh b0 hb hk h => ?_⟩
  have h0' : Same G.H0 H' := fun p o e => by
    have e1 := f.h0 p o e
    rw [hk p (by rw [e1]; intro z; cases z) fun z => by rw [o0 p j z] at e; cases e]
    exact e1
  refine ⟨bh, f.b0.trans b0, h0', fun p hp => ?_, by rw [List.length_set]; exact f.len, own, o0, fun i t e => ?_⟩
  · rw [hb p fun z => hp (f.h0.free z), f.n0 p hp]
  · by_cases hi : j = i
    · subst hi
      have hj' : j < T.length := (List.getElem?_eq_some_iff.mp hj).1
      rw [List.getElem?_set_self hj'] at e
      cases e
      exact ⟨some v, e1, v, rfl, h⟩
    · rw [List.getElem?_set_ne hi] at e
      obtain ⟨s, e1, q⟩ := sl i t e
      refine ⟨s, e1, ?_⟩
      cases t with
      | im r a => obtain ⟨v, e, q⟩ := q; exact ⟨v, e, r.mono b0 q⟩
      | ow r a =>
        obtain ⟨v, e, q⟩ := q
        exact ⟨v, e, r.fr q b0 fun p hp hn => ⟨hp, hk p hn fun z => hi (Option.some.inj (z.symm.trans hp)), hb p hn⟩⟩
      | un => exact q
      | any => trivial
theorem Fr.get {G : Cn} {B H : Hp} {σ : L2.St} {T : List Ty} (f : Fr G B H σ T) {j : Nat} {α : Type} {r : Rp α} {a : α} (hj : T[j]? = some (.im r a)) : ∃ v, σ[j]? = some (some v) ∧ r.rp G.K B a v := by
  obtain ⟨own, _, sl⟩ := f.sl
  obtain ⟨s, e1, v, rfl, q⟩ := sl j _ hj
  exact ⟨v, e1, q⟩
/-- an owned list is given up: it stands for good -/
theorem Fr.freeze {G : Cn} {B H : Hp} {σ : L2.St} {T : List Ty} (f : Fr G B H σ T) {j : Nat} {α : Type} {r : Rp α} {a : ML α} (hj : T[j]? = some (.ow owML a)) : ∃ B', Fr G B' H σ (T.set j (.im rpList a.l)) := by
  obtain ⟨own, o0, sl⟩ := f.sl
  obtain ⟨s, e1, v, rfl, p, vs, rfl, hp, hn, ho, hr⟩ := sl j _ hj
  have sB : Same B (upd B p (.lst vs)) := fun q o e => by
    rw [upd_ne (ne_of_none e hn)]
    exact e
  refine ⟨upd B p (.lst vs), fun q o e => ?_, f.b0.trans sB, f.h0, fun q hq => ?_, by rw [List.length_set]; exact f.len, fun q => if own q = some j then none else own q, fun q i e => ?_, fun i t e => ?_⟩
  · by_cases z : q = p
    · subst z; rw [upd_same] at e; cases e; exact ho
    · rw [upd_ne z] at e; exact f.bh q o e
  · rw [upd_ne (fun z => by subst z; exact hq (o0 _ _ hp)), f.n0 q hq]
  · replace e : (if own q = some j then none else own q) = some i := e
    by_cases z : own q = some j
    · rw [if_pos z] at e; cases e
    · rw [if_neg z] at e; exact o0 q i e
  · by_cases hi : j = i
    · subst hi
      have hj' : j < T.length := (List.getElem?_eq_some_iff.mp hj).1
      rw [List.getElem?_set_self hj'] at e
      cases e
      exact ⟨_, e1, _, rfl, p, vs, rfl, upd_same, paired_mono sB hr⟩
    · rw [List.getElem?_set_ne hi] at e
      obtain ⟨s, e1, q⟩ := sl i t e
      refine ⟨s, e1, ?_⟩
      cases t with
      | im r a => obtain ⟨v, e, q⟩ := q; exact ⟨v, e, r.mono sB q⟩
      | ow r a =>
        obtain ⟨v, e, q⟩ := q
        refine ⟨v, e, r.fr q sB fun x hx hn => ⟨?_, rfl, ?_⟩⟩
        · show (if own x = some j then none else own x) = some i
          rw [if_neg fun z => hi (Option.some.inj (z.symm.trans hx))]
          exact hx
        · exact upd_ne fun z => by
            subst z
            exact hi (Option.some.inj (hp.symm.trans hx))
      | un => exact q
      | any => trivial
end DL

set_option Elab.async false
set_option linter.all false
set_option maxRecDepth 100000
set_option maxHeartbeats 4000000
namespace DL
open PySem PySem.Spec PyProof.Rows L2
/-! ### what an expression is worth -/
/-- a list, its own object as it stands now, its items in the base -/
def crp (K : PySem.W.Frag) (B H : Hp) {α : Type} (r : Rp α) (xs : List α) (v : V) : Prop := ∃ p vs, v = .ref p ∧ SqL K H p vs ∧ Paired (r.rp K B) xs vs
def EvD (G : Cn) (te : TE) (T : List Ty) {α : Type} (r : Rp α) (a : α) : Prop := ∀ B H σ, Fr G B H σ T → ∀ Q : VK, (∀ v B' H', Ext B H B' H' → r.rp G.K B' a v → Q v H') → te σ H Q
def EvH (G : Cn) (te : TE) (T : List Ty) {α : Type} (r : Rp α) (a : α) : Prop := ∀ B H σ, Fr G B H σ T → ∀ Q : VK, (∀ v B' H', Ext B H B' H' → r.rp G.K H' a v → Q v H') → te σ H Q
def EvC (G : Cn) (te : TE) (T : List Ty) {α : Type} (r : Rp α) (xs : List α) : Prop := ∀ B H σ, Fr G B H σ T → ∀ Q : VK, (∀ v B' H', Ext B H B' H' → crp G.K B' H' r xs v → Q v H') → te σ H Q
/-- a new list -/
def EvN (G : Cn) (te : TE) (T : List Ty) {α : Type} (r : Rp α) (xs : List α) : Prop := ∀ B H σ, Fr G B H σ T → ∀ Q : VK, (∀ p vs B' H', Ext B H B' H' → H p = none → B' p = none → H' p = some (.lst vs) → Paired (r.rp G.K B') xs vs → Q (.ref p) H') → te σ H Q
def EvT (G : Cn) (tt : TT) (T : List Ty) (b : Bool) : Prop := ∀ B H σ, Fr G B H σ T → ∀ Q : Bool → Hp → Prop, (∀ B' H', Ext B H B' H' → Q b H') → tt σ H Q
/-- arguments, in the base -/
def ArgsOk (K : PySem.W.Frag) (B : Hp) : List V → List Ty → Prop
  | [], [] => True
  | v :: vs, .im r a :: As => r.rp K B a v ∧ ArgsOk K B vs As
  | _, _ => False
theorem ArgsOk.mono {K : PySem.W.Frag} {B B' : Hp} (e : Same B B') : ∀ {vs : List V} {As : List Ty}, ArgsOk K B vs As → ArgsOk K B' vs As
  | [], [], _ => trivial
  | v :: vs, .im r a :: As, h => ⟨r.mono e h.1, ArgsOk.mono e h.2⟩
  | [], _ :: _, h => by cases h
  | _ :: _, [], h => by cases h
  | _ :: _, .ow _ _ :: _, h => by cases h
  | _ :: _, .un :: _, h => by cases h
  | _ :: _, .any :: _, h => by cases h
def EvA (G : Cn) (ta : TA) (T : List Ty) (As : List Ty) : Prop := ∀ B H σ, Fr G B H σ T → ∀ Q : List V → Hp → Prop, (∀ vs B' H', Ext B H B' H' → ArgsOk G.K B' vs As → Q vs H') → ta σ H Q
/-- arguments, as the heap stands -/
def EvAH (G : Cn) (ta : TA) (T : List Ty) (As : List Ty) : Prop := ∀ B H σ, Fr G B H σ T → ∀ Q : List V → Hp → Prop, (∀ vs B' H', Ext B H B' H' → ArgsOk G.K H' vs As → Q vs H') → ta σ H Q
section
variable {G : Cn} {T : List Ty} {te ta tb tc : TE} {α β γ : Type} {r : Rp α} {r' : Rp β}
theorem crp.ext {K : PySem.W.Frag} {B H B' H' : Hp} (x : Ext B H B' H') {xs : List α} {v : V} (h : crp K B H r xs v) : crp K B' H' r xs v := by
  obtain ⟨p, vs, e, s, q⟩ := h
  exact ⟨p, vs, e, Same.seq x.h s, paired_mono x.b q⟩
theorem EvD.h {a : α} (h : EvD G te T r a) : EvH G te T r a := fun B H σ f Q q => h B H σ f Q fun v B' H' x z => q v B' H' x (r.mono x.s z)
theorem EvD.c {xs : List α} (h : EvD G te T (@rpList α r) xs) : EvC G te T r xs := fun B H σ f Q q => h B H σ f Q fun v B' H' x z => q v B' H' x (by
  obtain ⟨p, vs, e, h1, h2⟩ := z
  exact ⟨p, vs, e, .inl (.inl (x.s _ _ h1)), h2⟩)
theorem EvD.cs {s : Scr} (h : EvD G te T rpScr s) : EvC G te T rpInt s.cells := fun B H σ f Q q => h B H σ f Q fun v B' H' x z => q v B' H' x (by
  obtain ⟨p, e, h1⟩ := z
  exact ⟨p, _, e, Same.seq x.s h1, by
    generalize s.cells = l
    induction l with
    | nil => exact .nil
    | cons a l ih => exact .cons rfl ih⟩)
theorem EvN.c {xs : List α} (h : EvN G te T r xs) : EvC G te T r xs := fun B H σ f Q q => h B H σ f Q fun p vs B' H' x n1 n2 e z => q (.ref p) B' H' x ⟨p, vs, rfl, .inl (.inl e), z⟩
theorem EvC.hs [Sc α] {xs : List α} (h : EvC G te T r xs) (hl : True := trivial) : EvC G te T r xs := h
/-- a new list is let stand -/
theorem EvN.d {xs : List α} (h : EvN G te T r xs) : EvD G te T (@rpList α r) xs := fun B H σ f Q q => h B H σ f Q fun p vs B' H' x n1 n2 e z => by
  have sB : Same B' (upd B' p (.lst vs)) := fun b o e => by
    rw [upd_ne (ne_of_none e n2)]
    exact e
  refine q (.ref p) (upd B' p (.lst vs)) H' ⟨x.b.trans sB, x.h, fun b o e' => ?_, fun b hb => ?_⟩ ⟨p, vs, rfl, upd_same, paired_mono sB z⟩
  · by_cases hp : b = p
    · subst hp; rw [upd_same] at e'; cases e'; exact e
    · rw [upd_ne hp] at e'; exact x.s b o e'
  · rw [upd_ne fun z => by subst z; exact hb n1]
    exact x.n b hb
/-- what needs no heap may be read off the heap as it stands -/
theorem EvH.d [Sc α] {a : α} (h : EvH G te T r a) : EvD G te T r a := fun B H σ f Q q => h B H σ f Q fun v B' H' x z => q v B' H' x (Sc.any z)
theorem EvH.c [Sc α] {xs : List α} (h : EvH G te T (@rpList α r) xs) : EvC G te T r xs := fun B H σ f Q q => h B H σ f Q fun v B' H' x z => q v B' H' x (by
  obtain ⟨p, vs, e, h1, h2⟩ := z
  exact ⟨p, vs, e, .inl (.inl h1), paired_sc h2⟩)
theorem EvT.is {tt : TT} {b b' : Bool} (h : EvT G tt T b) (e : b = b') : EvT G tt T b' := e ▸ h
theorem EvD.is {a a' : α} (h : EvD G te T r a) (e : a = a') : EvD G te T r a' := e ▸ h
theorem EvN.is {a a' : List α} (h : EvN G te T r a) (e : a = a') : EvN G te T r a' := e ▸ h
/-! names, constants -/
theorem ev_var {i : Nat} {a : α} (h : T[i]? = some (.im r a)) : EvD G (tVar i) T r a := fun B H σ f Q q => by
  obtain ⟨v, e, z⟩ := f.get h
  exact ⟨v, e, q v B H (Ext.refl f.bh) z⟩
theorem ev_varM {i : Nat} {a : ML α} (h : T[i]? = some (.ow (@owML α r) a)) : EvC G (tVar i) T r a.l := fun B H σ f Q q => by
  obtain ⟨own, _, sl⟩ := f.sl
  obtain ⟨s, e1, v, rfl, p, vs, rfl, _, _, hp, z⟩ := sl i _ h
  exact ⟨_, e1, q _ B H (Ext.refl f.bh) ⟨p, vs, rfl, .inl (.inl hp), z⟩⟩
theorem ev_varMH {i : Nat} {a : ML α} (h : T[i]? = some (.ow (@owML α r) a)) : EvH G (tVar i) T (@rpList α r) a.l := fun B H σ f Q q => by
  obtain ⟨own, _, sl⟩ := f.sl
  obtain ⟨s, e1, v, rfl, p, vs, rfl, _, _, hp, z⟩ := sl i _ h
  exact ⟨_, e1, q _ B H (Ext.refl f.bh) ⟨p, vs, rfl, hp, paired_mono f.bh z⟩⟩
theorem ev_int {i : Int} : EvD G (tC (.int i)) T rpInt i := fun B H σ f Q q => q _ B H (Ext.refl f.bh) rfl
theorem ev_bl {i : Bool} : EvD G (tC (.bl i)) T rpBool i := fun B H σ f Q q => q _ B H (Ext.refl f.bh) rfl
theorem ev_str {i : Str} : EvD G (tC (.str i)) T rpStr i := fun B H σ f Q q => q _ B H (Ext.refl f.bh) rfl
theorem ev_non : EvD G (tC .non) T (@rpOpt α r) none := fun B H σ f Q q => q _ B H (Ext.refl f.bh) rfl
theorem ev_unit : EvD G (tC .non) T rpUnit () := fun B H σ f Q q => q _ B H (Ext.refl f.bh) rfl
theorem ev_some {a : α} (h : EvD G te T r a) : EvD G te T (@rpOpt α r) (some a) := h
/-! numbers -/
theorem ev_opI {g : Int → Int → Int} {i j : Int} (ha : EvD G ta T rpInt i) (hb : EvD G tb T rpInt j) : EvD G (tOp (rI0 fun i j => .int (g i j)) ta tb) T rpInt (g i j) := fun B H σ f Q q =>
  ha B H σ f _ fun v B1 H1 x1 e1 => hb B1 H1 σ (f.ext x1) _ fun u B2 H2 x2 e2 => ⟨i, j, e1, e2, q _ B2 H2 (x1.trans x2) rfl⟩
theorem ev_opC {C : Int → Int → Prop} {g : Int → Int → Int} {i j : Int} (ha : EvD G ta T rpInt i) (hb : EvD G tb T rpInt j) (hc : C i j) : EvD G (tOp (rI C fun i j => .int (g i j)) ta tb) T rpInt (g i j) := fun B H σ f Q q =>
  ha B H σ f _ fun v B1 H1 x1 e1 => hb B1 H1 σ (f.ext x1) _ fun u B2 H2 x2 e2 => ⟨i, j, e1, e2, hc, q _ B2 H2 (x1.trans x2) rfl⟩
theorem ev_opB {g : Int → Int → Bool} {i j : Int} (ha : EvD G ta T rpInt i) (hb : EvD G tb T rpInt j) : EvD G (tOp (rI0 fun i j => .bl (g i j)) ta tb) T rpBool (g i j) := fun B H σ f Q q =>
  ha B H σ f _ fun v B1 H1 x1 e1 => hb B1 H1 σ (f.ext x1) _ fun u B2 H2 x2 e2 => ⟨i, j, e1, e2, q _ B2 H2 (x1.trans x2) rfl⟩
theorem ev_neg {g : Int → Int} {i : Int} (ha : EvD G ta T rpInt i) : EvD G (tUn (rU fun i => .int (g i)) ta) T rpInt (g i) := fun B H σ f Q q =>
  ha B H σ f _ fun v B1 H1 x1 e1 => ⟨i, e1, q _ B1 H1 x1 rfl⟩
/-- a value that is told by its plain value -/
class Sv (α : Type) [Rp α] where
  enc : α → V
  is : ∀ {K : PySem.W.Frag} {H : Hp} {a : α} {v : V}, Rp.rp K H a v → v = enc a
instance svInt : Sv Int := ⟨V.int, fun h => h⟩
instance svBool : Sv Bool := ⟨V.bl, fun h => h⟩
instance svUnit : Sv Unit := ⟨fun _ => V.non, fun h => h⟩
instance svStr : Sv Str := ⟨V.str, fun h => h⟩
theorem ev_eq [Sv α] [Sv β] {a : α} {b : β} (ha : EvD G ta T r a) (hb : EvD G tb T r' b) (hs : scal (Sv.enc a) (Sv.enc b) = true) : EvD G (tOp rEq ta tb) T rpBool (decide (Sv.enc a = Sv.enc b)) := fun B H σ f Q q =>
  ha B H σ f _ fun v B1 H1 x1 e1 => hb B1 H1 σ (f.ext x1) _ fun u B2 H2 x2 e2 => by
    rw [Sv.is e1, Sv.is e2]
    exact ⟨hs, q _ B2 H2 (x1.trans x2) rfl⟩
theorem ev_ne [Sv α] [Sv β] {a : α} {b : β} (ha : EvD G ta T r a) (hb : EvD G tb T r' b) (hs : scal (Sv.enc a) (Sv.enc b) = true) : EvD G (tOp rNe ta tb) T rpBool (!decide (Sv.enc a = Sv.enc b)) := fun B H σ f Q q =>
  ha B H σ f _ fun v B1 H1 x1 e1 => hb B1 H1 σ (f.ext x1) _ fun u B2 H2 x2 e2 => by
    rw [Sv.is e1, Sv.is e2]
    exact ⟨hs, q _ B2 H2 (x1.trans x2) rfl⟩
theorem int_dec {i j : Int} : decide (V.int i = V.int j) = decide (i = j) := by
  by_cases h : i = j
  · subst h; simp
  · rw [decide_eq_false h, decide_eq_false fun z => h (V.int.inj z)]
theorem str_dec {i j : Str} : decide (V.str i = V.str j) = decide (i = j) := by
  by_cases h : i = j
  · subst h; simp
  · rw [decide_eq_false h, decide_eq_false fun z => h (V.str.inj z)]
theorem ev_eqI {i j : Int} (ha : EvD G ta T rpInt i) (hb : EvD G tb T rpInt j) : EvD G (tOp rEq ta tb) T rpBool (decide (i = j)) := (ev_eq ha hb rfl).is int_dec
theorem ev_neI {i j : Int} (ha : EvD G ta T rpInt i) (hb : EvD G tb T rpInt j) : EvD G (tOp rNe ta tb) T rpBool (!decide (i = j)) := (ev_ne ha hb rfl).is (congrArg not int_dec)
theorem ev_eqS {i j : Str} (ha : EvD G ta T rpStr i) (hb : EvD G tb T rpStr j) : EvD G (tOp rEq ta tb) T rpBool (decide (i = j)) := (ev_eq ha hb rfl).is str_dec
theorem ev_neS {i j : Str} (ha : EvD G ta T rpStr i) (hb : EvD G tb T rpStr j) : EvD G (tOp rNe ta tb) T rpBool (!decide (i = j)) := (ev_ne ha hb rfl).is (congrArg not str_dec)
theorem ev_chain {p q : Int → Int → Bool} {i j k : Int} (ha : EvD G ta T rpInt i) (hb : EvD G tb T rpInt j) (hc : EvD G tc T rpInt k) :
    EvD G (tChain (rI0 fun i j => .bl (p i j)) (rI0 fun i j => .bl (q i j)) ta tb tc) T rpBool (p i j && q j k) := fun B H σ f Q h =>
  ha B H σ f _ fun v B1 H1 x1 e1 => hb B1 H1 σ (f.ext x1) _ fun u B2 H2 x2 e2 => ⟨i, j, e1, e2, p i j, rfl, by
    cases hp : p i j with
    | true => exact iteT (hc B2 H2 σ ((f.ext x1).ext x2) _ fun w B3 H3 x3 e3 => ⟨j, k, e2, e3, h _ B3 H3 ((x1.trans x2).trans x3) (by show V.bl (q j k) = V.bl (p i j && q j k); rw [hp] <;> rfl)⟩)
    | false => exact iteF (h _ B2 H2 (x1.trans x2) (by show V.bl false = V.bl (p i j && q j k); rw [hp] <;> rfl))⟩
theorem ev_andV {a b : Bool} (ha : EvD G ta T rpBool a) (hb : a = true → EvD G tb T rpBool b) : EvD G (tAndV ta tb) T rpBool (a && b) := fun B H σ f Q q =>
  ha B H σ f _ fun v B1 H1 x1 e1 => ⟨a, e1, by
    cases a with
    | true => exact iteT (hb rfl B1 H1 σ (f.ext x1) _ fun w B3 H3 x3 e3 => q _ B3 H3 (x1.trans x3) e3)
    | false => exact iteF (q _ B1 H1 x1 rfl)⟩
theorem ev_orV {a b : Bool} (ha : EvD G ta T rpBool a) (hb : a = false → EvD G tb T rpBool b) : EvD G (tOrV ta tb) T rpBool (a || b) := fun B H σ f Q q =>
  ha B H σ f _ fun v B1 H1 x1 e1 => ⟨a, e1, by
    cases a with
    | true => exact iteT (q _ B1 H1 x1 rfl)
    | false => exact iteF (hb rfl B1 H1 σ (f.ext x1) _ fun w B3 H3 x3 e3 => q _ B3 H3 (x1.trans x3) e3)⟩
theorem ev_notV {a : Bool} (ha : EvD G ta T rpBool a) : EvD G (tNotV ta) T rpBool (!a) := fun B H σ f Q q =>
  ha B H σ f _ fun v B1 H1 x1 e1 => ⟨a, e1, q _ B1 H1 x1 rfl⟩
theorem ev_ifE {t : TT} {c : Bool} {a : α} (ht : EvT G t T c) (h1 : c = true → EvD G ta T r a) (h2 : c = false → EvD G tb T r a) : EvD G (tIf t ta tb) T r a := fun B H σ f Q q =>
  ht B H σ f _ fun B1 H1 x1 => by
    cases c with
    | true => exact iteT (h1 rfl B1 H1 σ (f.ext x1) _ fun w B3 H3 x3 e3 => q _ B3 H3 (x1.trans x3) e3)
    | false => exact iteF (h2 rfl B1 H1 σ (f.ext x1) _ fun w B3 H3 x3 e3 => q _ B3 H3 (x1.trans x3) e3)
/-! tests -/
theorem et_test {b : Bool} (h : EvD G te T rpBool b) : EvT G (tTest te) T b := fun B H σ f Q q => h B H σ f _ fun v B1 H1 x1 e1 => ⟨b, e1, q B1 H1 x1⟩
theorem et_B {b : Bool} (h : EvD G te T rpBool b) : EvT G (tB te) T b := fun B H σ f Q q => h B H σ f _ fun v B1 H1 x1 e1 => ⟨b, e1, q B1 H1 x1⟩
theorem et_and {t u : TT} {a b : Bool} (h1 : EvT G t T a) (h2 : a = true → EvT G u T b) : EvT G (tAnd t u) T (a && b) := fun B H σ f Q q => h1 B H σ f _ fun B1 H1 x1 => by
  cases a with
  | true => exact iteT (h2 rfl B1 H1 σ (f.ext x1) _ fun B2 H2 x2 => q B2 H2 (x1.trans x2))
  | false => exact iteF (q B1 H1 x1)
theorem et_or {t u : TT} {a b : Bool} (h1 : EvT G t T a) (h2 : a = false → EvT G u T b) : EvT G (tOr t u) T (a || b) := fun B H σ f Q q => h1 B H σ f _ fun B1 H1 x1 => by
  cases a with
  | true => exact iteT (q B1 H1 x1)
  | false => exact iteF (h2 rfl B1 H1 σ (f.ext x1) _ fun B2 H2 x2 => q B2 H2 (x1.trans x2))
theorem et_not {t : TT} {a : Bool} (h1 : EvT G t T a) : EvT G (tNot t) T (!a) := fun B H σ f Q q => h1 B H σ f _ fun B1 H1 x1 => q B1 H1 x1
/-- the truth of a list -/
def tTruR (K : PySem.W.Frag) (ta : TE) : TT := fun σ H Q => ta σ H fun x H' => ∃ k, TruV K x H' k ∧ Q k H'
theorem pairedEmpty {F : α → β → Prop} {xs : List α} {ys : List β} (h : Paired F xs ys) : ys.isEmpty = xs.isEmpty := by cases h <;> rfl
theorem et_truL {xs : List α} (h : EvC G te T r xs) : EvT G (tTruR G.K te) T (!xs.isEmpty) := fun B H σ f Q q => h B H σ f _ fun v B1 H1 x1 e1 => by
  obtain ⟨p, vs, rfl, s, z⟩ := e1
  exact ⟨!xs.isEmpty, .inl ⟨vs, s, by rw [pairedEmpty z]⟩, q B1 H1 x1⟩
theorem et_truI {i : Int} (h : EvD G te T rpInt i) : EvT G (tTruR G.K te) T (i != 0) := fun B H σ f Q q => h B H σ f _ fun v B1 H1 x1 e1 => by
  subst e1
  exact ⟨_, rfl, q B1 H1 x1⟩
/-! is None -/
class Nn (α : Type) [Rp α] where
  nn : ∀ {K : PySem.W.Frag} {H : Hp} {a : α} {v : V}, Rp.rp K H a v → v ≠ .non
instance nnInt : Nn Int := ⟨fun h z => by rw [z] at h; cases h⟩
instance nnBool : Nn Bool := ⟨fun h z => by rw [z] at h; cases h⟩
instance nnList {α : Type} [Rp α] : Nn (List α) := ⟨fun ⟨_, _, h, _⟩ z => by rw [z] at h; cases h⟩
instance nnPair {α β : Type} [Rp α] [Rp β] : Nn (α × β) := ⟨fun ⟨_, _, _, h, _⟩ z => by rw [z] at h; cases h⟩
instance nnT3 {α β γ : Type} [Rp α] [Rp β] [Rp γ] : Nn (T3 α β γ) := ⟨fun ⟨_, _, _, _, h, _⟩ z => by rw [z] at h; cases h⟩
theorem isNone_of [Nn α] {K : PySem.W.Frag} {H : Hp} {o : Option α} {v : V} (h : (@rpOpt α r).rp K H o v) : decide (v = .non) = o.isNone := by
  cases o with
  | none => exact decide_eq_true h
  | some a => exact decide_eq_false (Nn.nn (show Rp.rp K H a v from h))
theorem ev_isN [Nn α] {o : Option α} (h : EvH G te T (@rpOpt α r) o) : EvD G (tIsN te) T rpBool o.isNone := fun B H σ f Q q => h B H σ f _ fun v B1 H1 x1 e1 => by
  rw [isNone_of e1]
  exact q _ B1 H1 x1 rfl
theorem ev_notN [Nn α] {o : Option α} (h : EvH G te T (@rpOpt α r) o) : EvD G (tNotN te) T rpBool (!o.isNone) := fun B H σ f Q q => h B H σ f _ fun v B1 H1 x1 e1 => by
  rw [isNone_of e1]
  exact q _ B1 H1 x1 rfl
/-! arguments -/
theorem ea_nil : EvA G tNil T [] := fun B H σ f Q q => q [] B H (Ext.refl f.bh) trivial
theorem ea_cons {tr : TA} {As : List Ty} {a : α} (h : EvD G te T r a) (hr : EvA G tr T As) : EvA G (tCons te tr) T (.im r a :: As) := fun B H σ f Q q =>
  h B H σ f _ fun v B1 H1 x1 e1 => hr B1 H1 σ (f.ext x1) _ fun vs B2 H2 x2 e2 => q _ B2 H2 (x1.trans x2) ⟨r.mono x2.b e1, e2⟩
theorem eah_nil : EvAH G tNil T [] := fun B H σ f Q q => q [] B H (Ext.refl f.bh) trivial
theorem eah_cons {tr : TA} {As : List Ty} {a : α} (h : EvH G te T r a) (hr : EvAH G tr T As) : EvAH G (tCons te tr) T (.im r a :: As) := fun B H σ f Q q =>
  h B H σ f _ fun v B1 H1 x1 e1 => hr B1 H1 σ (f.ext x1) _ fun vs B2 H2 x2 e2 => q _ B2 H2 (x1.trans x2) ⟨r.mono x2.h e1, e2⟩
theorem EvA.h {t : TA} {As : List Ty} (h : EvA G t T As) : EvAH G t T As := fun B H σ f Q q => h B H σ f Q fun vs B1 H1 x e => q vs B1 H1 x (e.mono x.s)
/-! items -/
theorem paired_get {F : α → β → Prop} : ∀ {xs : List α} {ys : List β} {i : Nat} {x : α}, Paired F xs ys → xs[i]? = some x → ∃ y, ys[i]? = some y ∧ F x y
  | _, _, _, _, .nil, e => by simp at e
  | _, _, 0, _, .cons r _, e => by simp at e; subst e; exact ⟨_, rfl, r⟩
  | _, _, i + 1, x, .cons _ t, e => by
    obtain ⟨u, h1, h2⟩ := paired_get (i := i) (x := x) t (by simpa using e)
    exact ⟨u, by simpa using h1, h2⟩
theorem paired_get' {F : α → β → Prop} : ∀ {xs : List α} {ys : List β} {i : Nat} {y : β}, Paired F xs ys → ys[i]? = some y → ∃ x, xs[i]? = some x ∧ F x y
  | _, _, _, _, .nil, e => by simp at e
  | _, _, 0, _, .cons r _, e => by simp at e; subst e; exact ⟨_, rfl, r⟩
  | _, _, i + 1, x, .cons _ t, e => by
    obtain ⟨u, h1, h2⟩ := paired_get' (i := i) (y := x) t (by simpa using e)
    exact ⟨u, by simpa using h1, h2⟩
theorem paired_append {F : α → β → Prop} : ∀ {xs xs' : List α} {ys ys' : List β}, Paired F xs ys → Paired F xs' ys' → Paired F (xs ++ xs') (ys ++ ys')
  | _, _, _, _, .nil, s => s
  | _, _, _, _, .cons r t, s => .cons r (paired_append t s)
theorem paired_set {F : α → β → Prop} {x : α} {y : β} (h : F x y) : ∀ {xs : List α} {ys : List β} (i : Nat), Paired F xs ys → Paired F (xs.set i x) (ys.set i y)
  | _, _, _, .nil => .nil
  | _, _, 0, .cons _ t => .cons h t
  | _, _, i + 1, .cons q t => .cons q (paired_set h i t)
theorem paired_take {F : α → β → Prop} : ∀ {xs : List α} {ys : List β} (n : Nat), Paired F xs ys → Paired F (xs.take n) (ys.take n)
  | _, _, 0, _ => .nil
  | _, _, _ + 1, .nil => .nil
  | _, _, n + 1, .cons r t => .cons r (paired_take n t)
theorem paired_drop {F : α → β → Prop} : ∀ {xs : List α} {ys : List β} (n : Nat), Paired F xs ys → Paired F (xs.drop n) (ys.drop n)
  | _, _, 0, r => r
  | _, _, _ + 1, .nil => .nil
  | _, _, n + 1, .cons _ t => paired_drop n t
theorem atI_paired {F : α → β → Prop} {xs : List α} {ys : List β} {i : Int} {x : α} (h : Paired F xs ys) (e : atI xs i = some x) : ∃ y, atI ys i = some y ∧ F x y := by
  unfold atI at e ⊢
  rw [← Paired.length h]
  cases q : ixN xs.length i with
  | none => rw [q] at e; cases e
  | some j =>
    rw [q] at e
    exact paired_get h e
theorem ev_ix {xs : List α} {i : Int} {a : α} (hl : EvC G ta T r xs) (hi : EvD G tb T rpInt i) (e : atI xs i = some a) : EvD G (tOp (rIxL G.K) ta tb) T r a := fun B H σ f Q q =>
  hl B H σ f _ fun v B1 H1 x1 e1 => hi B1 H1 σ (f.ext x1) _ fun u B2 H2 x2 e2 => by
    obtain ⟨p, vs, rfl, s, z⟩ := e1.ext x2
    obtain ⟨y, h1, h2⟩ := atI_paired z e
    exact ⟨p, vs, i, y, rfl, e2, s, h1, q _ B2 H2 (x1.trans x2) h2⟩
theorem ev_fst {a : α × β} (h : EvD G ta T (@rpPair α β r r') a) : EvD G (tOp (rIxT G.K) ta (tC (.int 0))) T r a.1 := fun B H σ f Q q =>
  h B H σ f _ fun v B1 H1 x1 e1 => by
    obtain ⟨p, x, y, rfl, hp, h1, h2⟩ := e1
    exact ⟨p, _, 0, x, rfl, rfl, .inl (.inl (x1.s _ _ hp)), rfl, q _ B1 H1 x1 h1⟩
theorem ev_snd {a : α × β} (h : EvD G ta T (@rpPair α β r r') a) : EvD G (tOp (rIxT G.K) ta (tC (.int 1))) T r' a.2 := fun B H σ f Q q =>
  h B H σ f _ fun v B1 H1 x1 e1 => by
    obtain ⟨p, x, y, rfl, hp, h1, h2⟩ := e1
    exact ⟨p, _, 1, y, rfl, rfl, .inl (.inl (x1.s _ _ hp)), rfl, q _ B1 H1 x1 h2⟩
section
variable {r'' : Rp γ}
theorem ev_t3a {t : T3 α β γ} (h : EvD G ta T (@rpT3 α β γ r r' r'') t) : EvD G (tOp (rIxT G.K) ta (tC (.int 0))) T r t.a := fun B H σ f Q q =>
  h B H σ f _ fun v B1 H1 x1 e1 => by
    obtain ⟨p, x, y, z, rfl, hp, h1, h2, h3⟩ := e1
    exact ⟨p, _, 0, x, rfl, rfl, .inl (.inl (x1.s _ _ hp)), rfl, q _ B1 H1 x1 h1⟩
theorem ev_t3b {t : T3 α β γ} (h : EvD G ta T (@rpT3 α β γ r r' r'') t) : EvD G (tOp (rIxT G.K) ta (tC (.int 1))) T r' t.b := fun B H σ f Q q =>
  h B H σ f _ fun v B1 H1 x1 e1 => by
    obtain ⟨p, x, y, z, rfl, hp, h1, h2, h3⟩ := e1
    exact ⟨p, _, 1, y, rfl, rfl, .inl (.inl (x1.s _ _ hp)), rfl, q _ B1 H1 x1 h2⟩
theorem ev_t3c {t : T3 α β γ} (h : EvD G ta T (@rpT3 α β γ r r' r'') t) : EvD G (tOp (rIxT G.K) ta (tC (.int 2))) T r'' t.c := fun B H σ f Q q =>
  h B H σ f _ fun v B1 H1 x1 e1 => by
    obtain ⟨p, x, y, z, rfl, hp, h1, h2, h3⟩ := e1
    exact ⟨p, _, 2, z, rfl, rfl, .inl (.inl (x1.s _ _ hp)), rfl, q _ B1 H1 x1 h3⟩
end
/-! displays -/
theorem upd_ext {B H : Hp} (bh : Same B H) {p : Addr} {o : HO} (n : H p = none) : Ext B H (upd B p o) (upd H p o) := by
  have nB := bh.free n
  refine ⟨fun q u e => by rw [upd_ne (ne_of_none e nB)]; exact e, fun q u e => by rw [upd_ne (ne_of_none e n)]; exact e, fun q u e => ?_, fun q hq => upd_ne fun z => by subst z; exact hq n⟩
  by_cases h : q = p
  · subst h; rw [upd_same] at e ⊢; exact e
  · rw [upd_ne h] at e ⊢; exact bh q u e
theorem upd_extN {B H : Hp} (bh : Same B H) {p : Addr} {o : HO} (n : H p = none) : Ext B H B (upd H p o) :=
  ⟨Same.refl _, fun q u e => by rw [upd_ne (ne_of_none e n)]; exact e, fun q u e => by rw [upd_ne (ne_of_none (bh q u e) n)]; exact bh q u e, fun _ _ => rfl⟩
theorem sz_of {n : Nat} (h : n ≤ 100000) : n ≤ sizeLine := Nat.le_trans h (by decide)
theorem sz_lt {n : Nat} (h : n < 100000) : n < sizeLine := Nat.lt_of_lt_of_le h (by decide)
theorem ev_pair {a : α} {b : β} (ha : EvD G ta T r a) (hb : EvD G tb T r' b) : EvD G (tTup (tCons ta (tCons tb tNil))) T (@rpPair α β r r') (a, b) := fun B H σ f Q q =>
  ha B H σ f _ fun v B1 H1 x1 e1 => hb B1 H1 σ (f.ext x1) _ fun u B2 H2 x2 e2 => ⟨by show 2 ≤ sizeLine; decide, fun p hp => by
    have x3 := upd_ext (o := .tup [v, u]) x2.s hp
    exact q _ _ _ ((x1.trans x2).trans x3) ⟨p, v, u, rfl, upd_same, r.mono (x2.b.trans x3.b) e1, r'.mono x3.b e2⟩⟩
theorem ev_trip {c : γ} {r'' : Rp γ} {a : α} {b : β} (ha : EvD G ta T r a) (hb : EvD G tb T r' b) (hc : EvD G tc T r'' c) : EvD G (tTup (tCons ta (tCons tb (tCons tc tNil)))) T (@rpT3 α β γ r r' r'') ⟨a, b, c⟩ := fun B H σ f Q q =>
  ha B H σ f _ fun v B1 H1 x1 e1 => hb B1 H1 σ (f.ext x1) _ fun u B2 H2 x2 e2 => hc B2 H2 σ ((f.ext x1).ext x2) _ fun w B3 H3 x3 e3 => ⟨by show 3 ≤ sizeLine; decide, fun p hp => by
    have x4 := upd_ext (o := .tup [v, u, w]) x3.s hp
    exact q _ _ _ (((x1.trans x2).trans x3).trans x4) ⟨p, v, u, w, rfl, upd_same, r.mono ((x2.b.trans x3.b).trans x4.b) e1, r'.mono (x3.b.trans x4.b) e2, r''.mono x4.b e3⟩⟩
/-- items of one kind -/
def EvL (G : Cn) (ta : TA) (T : List Ty) {α : Type} (r : Rp α) (xs : List α) : Prop := ∀ B H σ, Fr G B H σ T → ∀ Q : List V → Hp → Prop, (∀ vs B' H', Ext B H B' H' → Paired (r.rp G.K B') xs vs → Q vs H') → ta σ H Q
theorem el_nil : EvL G tNil T r [] := fun B H σ f Q q => q [] B H (Ext.refl f.bh) .nil
theorem el_cons {tr : TA} {xs : List α} {a : α} (h : EvD G te T r a) (hr : EvL G tr T r xs) : EvL G (tCons te tr) T r (a :: xs) := fun B H σ f Q q =>
  h B H σ f _ fun v B1 H1 x1 e1 => hr B1 H1 σ (f.ext x1) _ fun vs B2 H2 x2 e2 => q _ B2 H2 (x1.trans x2) (.cons (r.mono x2.b e1) e2)
theorem ev_lst {t : TA} {xs : List α} (h : EvL G t T r xs) (hl : xs.length ≤ 100000) : EvN G (tLst t) T r xs := fun B H σ f Q q =>
  h B H σ f _ fun vs B1 H1 x1 e1 => ⟨by rw [← Paired.length e1]; exact sz_of hl, fun p hp => by
    have x2 := upd_extN (o := .lst vs) x1.s hp
    exact q p vs B1 _ (x1.trans x2) (x1.h.free hp) (x1.s.free hp) upd_same e1⟩
/-! lists by built-ins -/
def rLenQ (K : PySem.W.Frag) : List V → Hp → VK → Prop := fun xs H Q => ∃ p ys, xs = [.ref p] ∧ (SqL K H p ys ∨ SqT K H p ys) ∧ Q (.int ys.length) H
theorem cr_lenQ {X : Cx} : CallR X (.builtin "len") (rLenQ X.K) := call_len_seq
theorem ev_len {xs : List α} (h : EvC G te T r xs) : EvD G (tCB (rLenQ G.K) (tCons te tNil)) T rpInt (xs.length : Int) := fun B H σ f Q q =>
  h B H σ f _ fun v B1 H1 x1 e1 => by
    obtain ⟨p, vs, rfl, s, z⟩ := e1
    refine ⟨p, vs, rfl, .inl s, ?_⟩
    rw [← Paired.length z]
    exact q _ B1 H1 x1 rfl
def rListQ (K : PySem.W.Frag) : List V → Hp → VK → Prop := fun xs H Q => ∃ p ys, xs = [.ref p] ∧ (SqL K H p ys ∨ SqT K H p ys) ∧ ∀ l, H l = none → Q (.ref l) (upd H l (.lst ys))
theorem cr_listQ {X : Cx} : CallR X (.type "list") (rListQ X.K) := call_list_of
theorem ev_list {xs : List α} (h : EvC G te T r xs) : EvN G (tCB (rListQ G.K) (tCons te tNil)) T r xs := fun B H σ f Q q =>
  h B H σ f _ fun v B1 H1 x1 e1 => by
    obtain ⟨p, vs, rfl, s, z⟩ := e1
    refine ⟨p, vs, rfl, .inl s, fun l hl => ?_⟩
    have x2 := upd_extN (o := .lst vs) x1.s hl
    exact q l vs B1 _ (x1.trans x2) (x1.h.free hl) (x1.s.free hl) upd_same z
theorem ints_of {K : PySem.W.Frag} {B : Hp} : ∀ {xs : List Int} {vs : List V}, Paired (rpInt.rp K B) xs vs → vs = xs.map V.int
  | [], _, .nil => rfl
  | x :: xs, _, .cons h t => by rw [show _ = V.int x from h, ints_of t] <;> rfl
theorem bls_of {K : PySem.W.Frag} {B : Hp} : ∀ {xs : List Bool} {vs : List V}, Paired (rpBool.rp K B) xs vs → vs = xs.map V.bl
  | [], _, .nil => rfl
  | x :: xs, _, .cons h t => by rw [show _ = V.bl x from h, bls_of t] <;> rfl
theorem of_ints {K : PySem.W.Frag} {B : Hp} : ∀ {xs : List Int}, Paired (rpInt.rp K B) xs (xs.map V.int)
  | [] => .nil
  | x :: xs => .cons rfl of_ints
theorem ev_sum {xs : List Int} (h : EvC G te T rpInt xs) : EvD G (tCB (rSum G.K) (tCons te tNil)) T rpInt xs.sum := fun B H σ f Q q =>
  h B H σ f _ fun v B1 H1 x1 e1 => by
    obtain ⟨p, vs, rfl, s, z⟩ := e1
    have e := ints_of z
    subst e
    exact ⟨p, xs, rfl, s, q _ B1 H1 x1 rfl⟩
theorem ev_maxL {xs : List Int} {m : Int} (h : EvC G te T rpInt xs) (hn : 0 < xs.length) (hm : ∀ k ∈ xs, (∀ y ∈ xs, y ≤ k) → k = m) : EvD G (tCB (rMax G.K) (tCons te tNil)) T rpInt m := fun B H σ f Q q =>
  h B H σ f _ fun v B1 H1 x1 e1 => by
    obtain ⟨p, vs, rfl, s, z⟩ := e1
    have e := ints_of z
    subst e
    exact ⟨p, xs, rfl, s, hn, fun k h1 h2 => q _ B1 H1 x1 (by rw [hm k h1 h2]; rfl)⟩
theorem ev_minL {xs : List Int} {m : Int} (h : EvC G te T rpInt xs) (hn : 0 < xs.length) (hm : ∀ k ∈ xs, (∀ y ∈ xs, k ≤ y) → k = m) : EvD G (tCB (rMin G.K) (tCons te tNil)) T rpInt m := fun B H σ f Q q =>
  h B H σ f _ fun v B1 H1 x1 e1 => by
    obtain ⟨p, vs, rfl, s, z⟩ := e1
    have e := ints_of z
    subst e
    exact ⟨p, xs, rfl, s, hn, fun k h1 h2 => q _ B1 H1 x1 (by rw [hm k h1 h2]; rfl)⟩
theorem ev_slice {xs : List α} {tl th : TO} {lo hi : Option Int} (h : EvC G te T r xs)
    (h1 : ∀ B H σ, Fr G B H σ T → ∀ Q : Option Int → Hp → Prop, (∀ B' H', Ext B H B' H' → Q lo H') → tl σ H Q) (h2 : ∀ B H σ, Fr G B H σ T → ∀ Q : Option Int → Hp → Prop, (∀ B' H', Ext B H B' H' → Q hi H') → th σ H Q) :
    EvN G (tSl (rSlL G.K) te tl th) T r ((xs.drop (HT.sIx xs.length 0 lo)).take (HT.sIx xs.length xs.length hi - HT.sIx xs.length 0 lo)) := fun B H σ f Q q =>
  h B H σ f _ fun v B1 H1 x1 e1 => h1 B1 H1 σ (f.ext x1) _ fun B2 H2 x2 => h2 B2 H2 σ ((f.ext x1).ext x2) _ fun B3 H3 x3 => by
    obtain ⟨p, vs, rfl, s, z⟩ := (e1.ext x2).ext x3
    refine ⟨p, vs, rfl, s, fun l hl => ?_⟩
    have x4 := upd_extN (o := .lst (cutV vs lo hi)) x3.s hl
    refine q l _ B3 _ (((x1.trans x2).trans x3).trans x4) ((x1.trans x2).h.free (x3.h.free hl)) (x3.s.free hl) upd_same ?_
    unfold cutV
    rw [← Paired.length z]
    exact paired_take _ (paired_drop _ z)
theorem eo_none : ∀ B H σ, Fr G B H σ T → ∀ Q : Option Int → Hp → Prop, (∀ B' H', Ext B H B' H' → Q none H') → tNoPart σ H Q := fun B H σ f Q q => q B H (Ext.refl f.bh)
theorem eo_part {i : Int} (h : EvD G te T rpInt i) : ∀ B H σ, Fr G B H σ T → ∀ Q : Option Int → Hp → Prop, (∀ B' H', Ext B H B' H' → Q (some i) H') → tPart te σ H Q := fun B H σ f Q q =>
  h B H σ f _ fun v B1 H1 x1 e1 => ⟨i, e1, q B1 H1 x1⟩
end
end DL

set_option Elab.async false
set_option linter.all false
set_option maxRecDepth 100000
set_option maxHeartbeats 4000000
namespace DL
open PySem PySem.Spec PyProof.Rows L2
/-! ### statements -/
def Goes (G : Cn) (T : List Ty) (k : L2.St → Hp → Prop) : Prop := ∀ B H σ, Fr G B H σ T → k σ H
def At (G : Cn) (I : List Ty → Prop) : L2.St → Hp → Prop := fun σ H => ∃ T B, I T ∧ Fr G B H σ T
/-- the same context behind a base that has grown -/
abbrev Cn.at (G : Cn) (B : Hp) : Cn := ⟨G.K, B, G.H0⟩
structure Up (G : Cn) (B1 : Hp) : Prop where
  b : Same G.B0 B1
  n : ∀ p, G.H0 p ≠ none → B1 p = G.B0 p
theorem Fr.root {G : Cn} {B1 B H : Hp} {σ : L2.St} {T : List Ty} (u : Up G B1) (f : Fr (G.at B1) B H σ T) : Fr G B H σ T :=
  ⟨f.bh, u.b.trans f.b0, f.h0, fun p hp => (f.n0 p hp).trans (u.n p hp), f.len, f.sl⟩
theorem Fr.lift {G : Cn} {B1 B H : Hp} {σ : L2.St} {T : List Ty} (f : Fr G B H σ T) (u : Up G B1) (e : Same B1 B) : Fr (G.at B1) B H σ T :=
  ⟨f.bh, e, f.h0, fun p hp => (f.n0 p hp).trans (u.n p hp).symm, f.len, f.sl⟩
theorem Fr.up {G : Cn} {B H : Hp} {σ : L2.St} {T : List Ty} (f : Fr G B H σ T) : Up G B := ⟨f.b0, f.n0⟩
theorem Goes.root {G : Cn} {B1 : Hp} {T : List Ty} {k : L2.St → Hp → Prop} (h : Goes G T k) (u : Up G B1) : Goes (G.at B1) T k := fun B H σ f => h B H σ (f.root u)
/-- what may be given back -/
def RetD (G : Cn) (rt : VK) {α : Type} (r : Rp α) (b : α) : Prop := ∀ v B H, Ext G.B0 G.H0 B H → r.rp G.K B b v → rt v H
def RetN (G : Cn) (rt : VK) {α : Type} (r : Rp α) (xs : List α) : Prop := ∀ p vs B H, Ext G.B0 G.H0 B H → G.H0 p = none → B p = none → H p = some (.lst vs) → Paired (r.rp G.K B) xs vs → rt (.ref p) H
theorem Up.ext {G : Cn} {B1 B H : Hp} (u : Up G B1) (x : Ext B1 G.H0 B H) : Ext G.B0 G.H0 B H := ⟨u.b.trans x.b, x.h, x.s, fun p hp => (x.n p hp).trans (u.n p hp)⟩
theorem RetD.root {G : Cn} {B1 : Hp} {rt : VK} {α : Type} {r : Rp α} {b : α} (h : RetD G rt r b) (u : Up G B1) : RetD (G.at B1) rt r b := fun v B H x z => h v B H (u.ext x) z
theorem RetN.root {G : Cn} {B1 : Hp} {rt : VK} {α : Type} {r : Rp α} {b : List α} (h : RetN G rt r b) (u : Up G B1) : RetN (G.at B1) rt r b := fun p vs B H x => h p vs B H (u.ext x)
theorem Fr.ext0 {G : Cn} {B H : Hp} {σ : L2.St} {T : List Ty} (f : Fr G B H σ T) : Ext G.B0 G.H0 B H := ⟨f.b0, f.h0, f.bh, f.n0⟩
section
variable {G : Cn} {T : List Ty} {te ta tb tc : TE} {α β γ : Type} {r : Rp α} {r' : Rp β} {D : Ends} {tz tu tw : TS} {c : TT} {k : L2.St → Hp → Prop}
theorem g_at {I : List Ty → Prop} (h : I T) : Goes G T (At G I) := fun B H σ f => ⟨T, B, h, f⟩
theorem g_mono {k' : L2.St → Hp → Prop} (h : Goes G T k) (e : ∀ σ H, k σ H → k' σ H) : Goes G T k' := fun B H σ f => e σ H (h B H σ f)
theorem g_of_at {I : List Ty → Prop} (k0 : ∀ T, I T → Goes G T k) : ∀ σ H, At G I σ H → k σ H := fun σ H ⟨T, B, h, f⟩ => k0 T h B H σ f
theorem g_seq (h : Goes G T (tz { D with nx := tu D })) : Goes G T (tSeq tz tu D) := h
theorem g_next (h : Goes G T D.nx) : Goes G T (tNext D) := h
theorem g_brk (h : Goes G T D.bk) : Goes G T (tBreak D) := h
theorem g_cont (h : Goes G T D.ct) : Goes G T (tCont D) := h
/-- a statement, then the rest, with a word between them -/
def tCut (t u : TS) : TS := fun D σ H => ∃ Mid : L2.St → Hp → Prop, t { D with nx := Mid } σ H ∧ ∀ σ' H', Mid σ' H' → u D σ' H'
theorem pss_cut {X : Cx} {st : Stmt} {rest : List Stmt} {t u : TS} (h1 : PS X st t) (h2 : PSs X rest u) : PSs X (st :: rest) (tCut t u) := by
  refine ⟨fun pins s σ H D I h => ?_⟩
  obtain ⟨Mid, hm, hu⟩ := h
  refine wpAny_execs_cons (thn (h1.run pins s σ H { D with nx := Mid } I hm) fun f s1 q => ?_)
  cases f with
  | next =>
    obtain ⟨σ', H', I', q⟩ := q
    exact h2.run pins s1 σ' H' D I' (hu σ' H' q)
  | ret v => exact q
  | brk => exact q
  | cont => exact q
theorem g_cut (I : List Ty → Prop) (h : Goes G T (tz { D with nx := At G I })) (k0 : ∀ T', I T' → Goes G T' (tu D)) : Goes G T (tCut tz tu D) := fun B H σ f => ⟨_, h B H σ f, g_of_at k0⟩
theorem g_if {b : Bool} (h : EvT G c T b) (h1 : b = true → Goes G T (tz D)) (h2 : b = false → Goes G T (tu D)) : Goes G T (tIfS c tz tu D) := fun B H σ f => h B H σ f _ fun B1 H1 x1 => by
  cases b with
  | true => exact iteT (h1 rfl B1 H1 σ (f.ext x1))
  | false => exact iteF (h2 rfl B1 H1 σ (f.ext x1))
theorem g_ret {b : α} (h : EvD G te T r b) (q : RetD G D.rt r b) : Goes G T (tRet te D) := fun B H σ f => h B H σ f _ fun v B1 H1 x1 e1 => q v B1 H1 (f.ext x1).ext0 e1
theorem g_retN {xs : List α} (h : EvN G te T r xs) (q : RetN G D.rt r xs) : Goes G T (tRet te D) := fun B H σ f => h B H σ f _ fun p vs B1 H1 x1 n1 n2 e z => q p vs B1 H1 (f.ext x1).ext0 (f.h0.free n1) n2 e z
theorem g_retM {i : Nat} {a : ML α} (h : T[i]? = some (.ow (@owML α r) a)) (q : RetN G D.rt r a.l) : Goes G T (tRet (tVar i) D) := fun B H σ f => by
  obtain ⟨own, o0, sl⟩ := f.sl
  obtain ⟨s, e1, v, rfl, p, vs, rfl, hp, n, e, z⟩ := sl i _ h
  exact ⟨_, e1, q p vs B H f.ext0 (o0 p i hp) n e z⟩
theorem RetN.d {rt : VK} {xs : List α} (h : RetD G rt (@rpList α r) xs) : RetN G rt r xs := fun p vs B H x n1 n2 e z => by
  have sB : Same B (upd B p (.lst vs)) := fun b o e => by
    rw [upd_ne (ne_of_none e n2)]
    exact e
  refine h (.ref p) (upd B p (.lst vs)) H ⟨x.b.trans sB, x.h, fun b o e' => ?_, fun b hb => ?_⟩ ⟨p, vs, rfl, upd_same, paired_mono sB z⟩
  · by_cases hp : b = p
    · subst hp; rw [upd_same] at e'; cases e'; exact e
    · rw [upd_ne hp] at e'; exact x.s b o e'
  · rw [upd_ne fun z => by subst z; exact hb n1]
    exact x.n b hb
theorem g_drop {a : α} (h : EvD G te T r a) (q : Goes G T D.nx) : Goes G T (tDrop te D) := fun B H σ f => h B H σ f _ fun v B1 H1 x1 e1 => q B1 H1 σ (f.ext x1)
/-! targets -/
def EvG (G : Cn) (g : TG) (T : List Ty) {α : Type} (r : Rp α) (a : α) (T' : List Ty) : Prop := ∀ B H σ v, Fr G B H σ T → r.rp G.K B a v → ∀ Q : L2.St → Hp → Prop, (∀ σ', Fr G B H σ' T' → Q σ' H) → g v σ H Q
theorem eg_name {i : Nat} {a : α} : EvG G (gName i) T r a (T.set i (.im r a)) := fun B H σ v f z Q q => q _ (f.set_im i r z)
theorem eg_pair {i j : Nat} {a : α × β} : EvG G (gTup G.K 2 (gCons (gName i) (gCons (gName j) gNil))) T (@rpPair α β r r') a ((T.set i (.im r a.1)).set j (.im r' a.2)) := fun B H σ v f z Q q => by
  obtain ⟨p, x, y, rfl, hp, h1, h2⟩ := z
  exact ⟨p, [x, y], rfl, .inl (.inl (f.bh _ _ hp)), rfl, x, [y], rfl, y, [], rfl, rfl, q _ ((f.set_im i r h1).set_im j r' h2)⟩
theorem eg_trip {r'' : Rp γ} {i j l : Nat} {a : T3 α β γ} : EvG G (gTup G.K 3 (gCons (gName i) (gCons (gName j) (gCons (gName l) gNil)))) T (@rpT3 α β γ r r' r'') a (((T.set i (.im r a.a)).set j (.im r' a.b)).set l (.im r'' a.c)) := fun B H σ v f z Q q => by
  obtain ⟨p, x, y, u, rfl, hp, h1, h2, h3⟩ := z
  exact ⟨p, [x, y, u], rfl, .inl (.inl (f.bh _ _ hp)), rfl, x, [y, u], rfl, y, [u], rfl, u, [], rfl, rfl, q _ (((f.set_im i r h1).set_im j r' h2).set_im l r'' h3)⟩
theorem g_asgT {g : TG} {a : α} {T' : List Ty} (h : EvD G te T r a) (hg : EvG G g T r a T') (q : Goes G T' D.nx) : Goes G T (tAsg te g D) := fun B H σ f =>
  h B H σ f _ fun v B1 H1 x1 e1 => hg B1 H1 σ v (f.ext x1) e1 _ fun σ' f' => q B1 H1 σ' f'
theorem g_asg {i : Nat} {a : α} (h : EvD G te T r a) (q : Goes G (T.set i (.im r a)) D.nx) : Goes G T (tAsg te (gName i) D) := g_asgT h eg_name q
theorem g_asgN {i : Nat} {xs : List α} (h : EvN G te T r xs) (q : Goes G (T.set i (.ow owML ⟨xs⟩)) D.nx) : Goes G T (tAsg te (gName i) D) := fun B H σ f =>
  h B H σ f _ fun p vs B1 H1 x1 n1 n2 e z => q B1 H1 _ (f.set_ow i owML (F := fun q => q = p) x1.s x1.b (fun q hq => by rw [hq]; exact n1) (fun q hq => ⟨by
    cases hH : H q with
    | none => exact absurd hH hq
    | some o => exact x1.h q o hH, x1.n q hq⟩) ⟨p, vs, rfl, rfl, n2, e, z⟩)
/-- an owned list let stand -/
theorem g_freeze {i : Nat} {a : ML α} (h : T[i]? = some (.ow (@owML α r) a)) (q : Goes G (T.set i (.im (@rpList α r) a.l)) k) : Goes G T k := fun B H σ f =>
  let ⟨B', f'⟩ := f.freeze h
  q B' H σ f'
/-- a slot forgotten -/
theorem g_any (i : Nat) (q : Goes G (T.set i .any) k) : Goes G T k := fun B H σ f => q B H σ (by
  obtain ⟨own, o0, sl⟩ := f.sl
  refine ⟨f.bh, f.b0, f.h0, f.n0, by rw [List.length_set]; exact f.len, own, o0, fun j t e => ?_⟩
  by_cases hi : i = j
  · subst hi
    have hj : i < T.length := by
      have z := (List.getElem?_eq_some_iff.mp e).1
      rw [List.length_set] at z
      exact z
    rw [List.getElem?_set_self hj] at e
    cases e
    obtain ⟨s, e1, _⟩ := sl i _ (List.getElem?_eq_getElem hj)
    exact ⟨s, e1, trivial⟩
  · rw [List.getElem?_set_ne hi] at e
    exact sl j t e)
/-! lists changed in place -/
theorem setA {H : Hp} {p : Addr} {o u : HO} (h : H p = some u) {q : Addr} (hq : q ≠ p) : upd H p o q = H q := upd_ne hq
theorem Fr.mutL {B H : Hp} {σ : L2.St} (f : Fr G B H σ T) {j : Nat} {a : ML α} (hj : T[j]? = some (.ow (@owML α r) a)) :
    ∃ p vs, σ[j]? = some (some (.ref p)) ∧ H p = some (.lst vs) ∧ Paired (r.rp G.K B) a.l vs ∧ ∀ (B' H' : Hp) (ws : List V) (ys : List α), Ext B H B' H' → Paired (r.rp G.K B') ys ws → Fr G B' (upd H' p (.lst ws)) σ (T.set j (.ow (@owML α r) ⟨ys⟩)) := by
  obtain ⟨v, F, e1, ⟨p, vs, rfl, hp, n, e, z⟩, k⟩ := f.mut hj
  refine ⟨p, vs, e1, e, z, fun B' H' ws ys x h => ?_⟩
  have nB := x.none e n
  refine k (ML α) owML ⟨ys⟩ B' (upd H' p (.lst ws)) (fun q o hq => ?_) x.b x.n (fun q hq hF => ?_) ⟨p, ws, rfl, hp, nB, upd_same, h⟩
  · rw [upd_ne (ne_of_none hq nB)]
    exact x.s q o hq
  · rw [upd_ne fun z => hF (by rw [z]; exact hp)]
    cases hH : H q with
    | none => exact absurd hH hq
    | some o => exact x.h q o hH
theorem g_app {i : Nat} {a : ML α} {y : α} (hi : T[i]? = some (.ow (@owML α r) a)) (h : EvD G te T r y) (hz : a.l.length < 100000) (q : Goes G (T.set i (.ow (@owML α r) ⟨a.l ++ [y]⟩)) D.nx) :
    Goes G T (tDrop (tBM G.K "list" rAppend (tVar i) (tCons te tNil)) D) := fun B H σ f => by
  obtain ⟨p, vs, e1, e2, z, k⟩ := f.mutL hi
  refine ⟨_, e1, .inl ⟨rfl, vs, .inl (.inl e2)⟩, h B H σ f _ fun v B1 H1 x1 h1 => ⟨p, vs, v, rfl, rfl, x1.h _ _ e2, by rw [← Paired.length z]; exact sz_lt hz, ?_⟩⟩
  exact q B1 _ σ (k B1 H1 (vs ++ [v]) (a.l ++ [y]) x1 (paired_append (paired_mono x1.b z) (.cons h1 .nil)))
theorem g_setL {i j : Nat} {a : ML α} {y : α} {m : Int} (hi : T[i]? = some (.ow (@owML α r) a)) (h : EvD G te T r y) (hm : EvD G tb T rpInt m) (hj : ixN a.l.length m = some j) (q : Goes G (T.set i (.ow (@owML α r) ⟨a.l.set j y⟩)) D.nx) :
    Goes G T (tAsg te (gSub (tVar i) tb rSetL) D) := fun B H σ f => by
  obtain ⟨p, vs, e1, e2, z, k⟩ := f.mutL hi
  refine h B H σ f _ fun v B1 H1 x1 h1 => ⟨_, e1, hm B1 H1 σ (f.ext x1) _ fun u B2 H2 x2 h2 => ⟨p, vs, m, j, rfl, h2, x2.h _ _ (x1.h _ _ e2), by rw [← Paired.length z]; exact hj, ?_⟩⟩
  exact q B2 _ σ (k B2 H2 (vs.set j v) (a.l.set j y) (x1.trans x2) (paired_set (r.mono x2.b h1) j (paired_mono (x1.trans x2).b z)))
/-- extend by a new list -/
theorem g_ext {i : Nat} {a : ML α} {ys : List α} (hi : T[i]? = some (.ow (@owML α r) a)) (h : EvN G te T r ys) (hz : a.l.length + ys.length ≤ 100000) (q : Goes G (T.set i (.ow (@owML α r) ⟨a.l ++ ys⟩)) D.nx) :
    Goes G T (tDrop (tBM G.K "list" rExtend (tVar i) (tCons te tNil)) D) := fun B H σ f => by
  obtain ⟨p, vs, e1, e2, z, k⟩ := f.mutL hi
  refine ⟨_, e1, .inl ⟨rfl, vs, .inl (.inl e2)⟩, h B H σ f _ fun b ws B1 H1 x1 n1 n2 e w => ⟨p, b, vs, ws, rfl, rfl, x1.h _ _ e2, e, by rw [← Paired.length z, ← Paired.length w]; exact sz_of hz, ?_⟩⟩
  exact q B1 _ σ (k B1 H1 (vs ++ ws) (a.l ++ ys) x1 (paired_append (paired_mono x1.b z) w))
theorem paired_erase {F : α → β → Prop} : ∀ {xs : List α} {ys : List β} (i : Nat), Paired F xs ys → Paired F (xs.eraseIdx i) (ys.eraseIdx i)
  | _, _, _, .nil => .nil
  | _, _, 0, .cons _ t => t
  | _, _, i + 1, .cons q t => .cons q (paired_erase i t)
theorem ixN_lt {n j : Nat} {m : Int} (h : ixN n m = some j) : seqIndex? m n = some j ∧ j < n ∧ -(n : Int) ≤ m ∧ m < n := ixN_seq h
/-- x = xs.pop(m) -/
theorem g_popAt {i l j : Nat} {a : ML α} {y : α} {m : Int} (hi : T[i]? = some (.ow (@owML α r) a)) (hm : EvD G tb T rpInt m) (hj : ixN a.l.length m = some j) (hz : a.l.length ≤ 100000) (hy : a.l[j]? = some y)
    (q : Goes G ((T.set i (.ow (@owML α r) ⟨a.l.eraseIdx j⟩)).set l (.im r y)) D.nx) : Goes G T (tAsg (tBM G.K "list" rPopAt (tVar i) (tCons tb tNil)) (gName l) D) := fun B H σ f => by
  obtain ⟨p, vs, e1, e2, z, k⟩ := f.mutL hi
  obtain ⟨s1, s2, s3, s4⟩ := ixN_lt hj
  refine ⟨_, e1, .inl ⟨rfl, vs, .inl (.inl e2)⟩, hm B H σ f _ fun u B1 H1 x1 h1 => ?_⟩
  obtain ⟨v, hv, rv⟩ := paired_get (paired_mono (K := G.K) (r := r) x1.b z) hy
  refine ⟨p, vs, m, j, v, rfl, by rw [show u = V.int m from h1], x1.h _ _ e2, by omega, by omega, by rw [← Paired.length z]; exact s1, hv, ?_⟩
  exact q B1 _ _ ((k B1 H1 (vs.eraseIdx j) (a.l.eraseIdx j) x1 (paired_erase j (paired_mono x1.b z))).set_im l r rv)
/-- xs.clear() -/
theorem g_clear {i : Nat} {a : ML α} (hi : T[i]? = some (.ow (@owML α r) a)) (q : Goes G (T.set i (.ow (@owML α r) ⟨[]⟩)) D.nx) : Goes G T (tDrop (tBM0 G.K "list" rClear (tVar i)) D) := fun B H σ f => by
  obtain ⟨p, vs, e1, e2, z, k⟩ := f.mutL hi
  exact ⟨_, e1, .inl ⟨rfl, vs, .inl (.inl e2)⟩, p, vs, rfl, rfl, e2, q B _ σ (k B H [] [] (Ext.refl f.bh) .nil)⟩
/-! what a for walks -/
structure ItOk (K : PySem.W.Frag) (B1 : Hp) {α : Type} (r : Rp α) (J : It) (xs : List α) : Prop where
  go : ∀ B H i x, Same B1 B → Same B H → xs[i]? = some x → J.go i H
  stop : ∀ B H, Same B1 B → Same B H → J.stop xs.length H
  yld : ∀ B H i x v H', Same B1 B → Same B H → xs[i]? = some x → J.yld i H v H' → ∃ B', Ext B H B' H' ∧ r.rp K B' x v
def EvI (G : Cn) (wi : TI) (T : List Ty) {α : Type} (r : Rp α) (xs : List α) : Prop := ∀ B H σ, Fr G B H σ T → ∀ R : It → Hp → Prop, (∀ J B' H', Ext B H B' H' → ItOk G.K B' r J xs → R J H') → wi σ H R
theorem ei_list {xs : List α} (h : EvD G te T (@rpList α r) xs) : EvI G (iList G.K te) T r xs := fun B H σ f R q => h B H σ f _ fun v B1 H1 x1 e1 => by
  obtain ⟨p, vs, rfl, hp, z⟩ := e1
  have sq : ∀ B H, Same B1 B → Same B H → SqL G.K H p vs := fun B H a b => .inl (.inl (b _ _ (a _ _ hp)))
  refine ⟨p, rfl, ⟨vs, .inl (.inl (x1.s _ _ hp))⟩, q _ B1 H1 x1 ⟨fun B H i x a b e => ?_, fun B H a b => ⟨vs, sq B H a b, by rw [Paired.length z]; exact Nat.le_refl _⟩, fun B H i x v H' a b e y => ?_⟩⟩
  · obtain ⟨y, h1, _⟩ := paired_get z e
    exact ⟨vs, y, sq B H a b, h1⟩
  · obtain ⟨rfl, y⟩ := y
    obtain ⟨w, h1, h2⟩ := paired_get z e
    have e2 := Option.some.inj ((y vs (sq B _ a b)).symm.trans h1)
    subst e2
    exact ⟨B, Ext.refl b, r.mono a h2⟩
theorem ei_scr {s : Scr} (h : EvD G te T rpScr s) : EvI G (iList G.K te) T rpInt s.cells := fun B H σ f R q => h B H σ f _ fun v B1 H1 x1 e1 => by
  obtain ⟨p, rfl, hp⟩ := e1
  have sq : ∀ B H, Same B1 B → Same B H → SqL G.K H p (s.cells.map V.int) := fun B H a b => Same.seq b (Same.seq a hp)
  refine ⟨p, rfl, ⟨_, Same.seq x1.s hp⟩, q _ B1 H1 x1 ⟨fun B H i x a b e => ⟨_, .int x, sq B H a b, by rw [List.getElem?_map, e] <;> rfl⟩, fun B H a b => ⟨_, sq B H a b, by rw [List.length_map]; exact Nat.le_refl _⟩, fun B H i x v H' a b e y => ?_⟩⟩
  obtain ⟨rfl, y⟩ := y
  have h1 := y _ (sq B _ a b)
  rw [List.getElem?_map, e] at h1
  exact ⟨B, Ext.refl b, (Option.some.inj h1).symm⟩
/-- lo, lo + 1, .. -/
def rng (lo : Int) (n : Nat) : List Int := (List.range n).map fun (i : Nat) => lo + (i : Int)
theorem rng_len {lo : Int} {n : Nat} : (rng lo n).length = n := by unfold rng; rw [List.length_map, List.length_range]
theorem rng_get {lo : Int} {n i : Nat} {x : Int} (h : (rng lo n)[i]? = some x) : i < n ∧ x = lo + i := by
  unfold rng at h
  rw [List.getElem?_map] at h
  cases e : (List.range n)[i]? with
  | none => rw [e] at h; cases h
  | some j =>
    rw [e] at h
    obtain ⟨h1, h2⟩ := List.getElem?_eq_some_iff.mp e
    rw [List.length_range] at h1
    rw [List.getElem_range] at h2
    exact ⟨h1, by rw [h2]; exact (Option.some.inj h).symm⟩
theorem itr_ok {K : PySem.W.Frag} {B1 : Hp} {lo : Int} {n : Nat} : ItOk K B1 rpInt (Itr lo n) (rng lo n) := ⟨fun B H i x _ _ e => (rng_get e).1, fun B H _ _ => Nat.le_of_eq rng_len.symm, fun B H i x v H' _ b e y => by
  obtain ⟨rfl, y⟩ := y
  exact ⟨B, Ext.refl b, by rw [(rng_get e).2]; exact y⟩⟩
theorem ei_rng1 {n : Int} (h : EvD G te T rpInt n) (hn : n ≤ 100000) (h0 : -100000 ≤ n) : EvI G (iRng1 (tCons te tNil)) T rpInt (rng 0 n.toNat) := fun B H σ f R q => h B H σ f _ fun v B1 H1 x1 e1 =>
  ⟨n, by rw [show v = V.int n from e1], by omega, by omega, q _ B1 H1 x1 itr_ok⟩
theorem ei_rng2 {m n : Int} (h : EvD G ta T rpInt m) (h' : EvD G tb T rpInt n) (hm : -100000 ≤ m ∧ m ≤ 100000 ∧ -100000 ≤ n ∧ n ≤ 100000) : EvI G (iRng2 (tCons ta (tCons tb tNil))) T rpInt (rng m (n - m).toNat) := fun B H σ f R q =>
  h B H σ f _ fun v B1 H1 x1 e1 => h' B1 H1 σ (f.ext x1) _ fun u B2 H2 x2 e2 => ⟨m, n, by rw [show v = V.int m from e1, show u = V.int n from e2], by omega, q _ B2 H2 (x1.trans x2) itr_ok⟩
def rngC (lo c : Int) (n : Nat) : List Int := (List.range n).map fun (i : Nat) => lo + (i : Int) * c
theorem rngC_len {lo c : Int} {n : Nat} : (rngC lo c n).length = n := by unfold rngC; rw [List.length_map, List.length_range]
theorem rngC_get {lo c : Int} {n i : Nat} {x : Int} (h : (rngC lo c n)[i]? = some x) : i < n ∧ x = lo + i * c := by
  unfold rngC at h
  rw [List.getElem?_map] at h
  cases e : (List.range n)[i]? with
  | none => rw [e] at h; cases h
  | some j =>
    rw [e] at h
    obtain ⟨h1, h2⟩ := List.getElem?_eq_some_iff.mp e
    rw [List.length_range] at h1
    rw [List.getElem_range] at h2
    exact ⟨h1, by rw [h2]; exact (Option.some.inj h).symm⟩
theorem itc_ok {K : PySem.W.Frag} {B1 : Hp} {lo c : Int} {n : Nat} : ItOk K B1 rpInt (Itc lo c n) (rngC lo c n) := ⟨fun B H i x _ _ e => (rngC_get e).1, fun B H _ _ => Nat.le_of_eq rngC_len.symm, fun B H i x v H' _ b e y => by
  obtain ⟨rfl, y⟩ := y
  exact ⟨B, Ext.refl b, by rw [(rngC_get e).2]; exact y⟩⟩
theorem ei_rng3 {m n s : Int} {k : Nat} (h : EvD G ta T rpInt m) (h' : EvD G tb T rpInt n) (h'' : EvD G tc T rpInt s) (hr : RgC m n s k) : EvI G (iRng3 (tCons ta (tCons tb (tCons tc tNil)))) T rpInt (rngC m s k) := fun B H σ f R q =>
  h B H σ f _ fun v B1 H1 x1 e1 => h' B1 H1 σ (f.ext x1) _ fun u B2 H2 x2 e2 => h'' B2 H2 σ ((f.ext x1).ext x2) _ fun w B3 H3 x3 e3 =>
    ⟨m, n, s, k, by rw [show v = V.int m from e1, show u = V.int n from e2, show w = V.int s from e3], hr, q _ B3 H3 ((x1.trans x2).trans x3) itc_ok⟩
/-- (0, x), (1, y), .. -/
def enumI (xs : List α) : List (Int × α) := xs.zipIdx.map fun p => ((p.2 : Int), p.1)
theorem enumI_len {xs : List α} : (enumI xs).length = xs.length := by unfold enumI; rw [List.length_map, List.length_zipIdx]
theorem enumI_get {xs : List α} {i : Nat} {p : Int × α} (h : (enumI xs)[i]? = some p) : xs[i]? = some p.2 ∧ p.1 = i := by
  unfold enumI at h
  rw [List.getElem?_map, List.getElem?_zipIdx] at h
  cases e : xs[i]? with
  | none => rw [e] at h; cases h
  | some j =>
    rw [e] at h
    have z := Option.some.inj h
    rw [← z]
    exact ⟨rfl, by show ((0 + i : Nat) : Int) = i; rw [Nat.zero_add]⟩
theorem ei_enum {xs : List α} (h : EvD G te T (@rpList α r) xs) : EvI G (iEnum G.K (tCons te tNil)) T (@rpPair Int α rpInt r) (enumI xs) := fun B H σ f R q => h B H σ f _ fun v B1 H1 x1 e1 => by
  obtain ⟨p, vs, rfl, hp, z⟩ := e1
  have sq : ∀ B H, Same B1 B → Same B H → SqL G.K H p vs := fun B H a b => .inl (.inl (b _ _ (a _ _ hp)))
  refine ⟨p, vs, rfl, .inl (.inl (x1.s _ _ hp)), q _ B1 H1 x1 ⟨fun B H i x a b e => ?_, fun B H a b => ⟨vs, sq B H a b, by rw [enumI_len, Paired.length z]; exact Nat.le_refl _⟩, fun B H i x v H' a b e y => ?_⟩⟩
  · obtain ⟨y, h1, _⟩ := paired_get z (enumI_get e).1
    exact ⟨vs, y, sq B H a b, h1⟩
  · obtain ⟨t, u, rfl, nt, rfl, y⟩ := y
    obtain ⟨w, h1, h2⟩ := paired_get z (enumI_get e).1
    have e2 := Option.some.inj ((y vs (sq B _ a b)).symm.trans h1)
    subst e2
    have x3 := upd_ext (o := .tup [.int (i : Nat), u]) b nt
    exact ⟨_, x3, t, _, u, rfl, upd_same, by rw [(enumI_get e).2]; rfl, r.mono (a.trans x3.b) h2⟩
/-! for, while -/
theorem g_for {wi : TI} {g : TG} {xs : List α} (I : Nat → List Ty → Prop) (hi : EvI G wi T r xs) (h0 : I 0 T)
    (hs : ∀ B1, Up G B1 → ∀ i x T', xs[i]? = some x → I i T' → ∃ T2, EvG (G.at B1) g T' r x T2 ∧ Goes (G.at B1) T2 (tz { D with nx := At (G.at B1) (I (i + 1)), ct := At (G.at B1) (I (i + 1)), bk := D.nx }))
    (hd : ∀ T', I xs.length T' → Goes G T' D.nx) : Goes G T (tFor wi g tz D) := fun B H σ f => hi B H σ f _ fun J B1 H1 x1 ok => by
  have f1 := f.ext x1
  have u := f1.up
  refine ⟨fun i m σ H => m = xs.length - i ∧ i ≤ xs.length ∧ ∃ T' B, I i T' ∧ Fr (G.at B1) B H σ T', ⟨xs.length, rfl, Nat.zero_le _, T, B1, h0, f1.lift u (Same.refl _)⟩, ?_⟩
  rintro i m σ' H' ⟨rfl, hle, T', B', hI, f'⟩
  by_cases hlt : i < xs.length
  · have ex : xs[i]? = some xs[i] := List.getElem?_eq_getElem hlt
    obtain ⟨T2, hg, hb⟩ := hs B1 u i _ T' ex hI
    refine .inr ⟨ok.go B' H' i _ f'.b0 f'.bh ex, At (G.at B1) (I (i + 1)), fun σ2 H2 ⟨T3, B3, h3, f3⟩ => ⟨xs.length - (i + 1), by omega, rfl, hlt, T3, B3, h3, f3⟩, fun v H2 y => ?_⟩
    obtain ⟨B2, x2, rv⟩ := ok.yld B' H' i _ v H2 f'.b0 f'.bh ex y
    exact hg B2 H2 σ' v (f'.ext x2) rv _ fun σ3 f3 => hb B2 H2 σ3 f3
  · have e : i = xs.length := by omega
    subst e
    exact .inl ⟨ok.stop B' H' f'.b0 f'.bh, hd T' hI B' H' σ' (f'.root u)⟩
theorem g_while (I : Nat → List Ty → Prop) (m0 : Nat) (h0 : I m0 T)
    (hs : ∀ m T', I m T' → ∃ b, EvT G c T' b ∧ (b = true → Goes G T' (tz { D with nx := At G fun T2 => ∃ m', m' < m ∧ I m' T2, ct := At G fun T2 => ∃ m', m' < m ∧ I m' T2, bk := D.nx })) ∧ (b = false → Goes G T' D.nx)) : Goes G T (tWhile c tz D) := fun B H σ f => by
  refine ⟨fun m σ H => ∃ T' B, I m T' ∧ Fr G B H σ T', ⟨m0, T, B, h0, f⟩, ?_⟩
  rintro m σ' H' ⟨T', B', hI, f'⟩
  obtain ⟨b, ht, h1, h2⟩ := hs m T' hI
  refine ht B' H' σ' f' _ fun B1 H1 x1 => ?_
  cases b with
  | true => exact iteT ⟨_, fun σ2 H2 ⟨T2, B2, ⟨m', l, h3⟩, f2⟩ => ⟨m', l, T2, B2, h3, f2⟩, h1 rfl B1 H1 σ' (f'.ext x1)⟩
  | false => exact iteF (h2 rfl B1 H1 σ' (f'.ext x1))
/-! the same, something behind -/
theorem q_asg {i : Nat} {a : α} (h : EvD G te T r a) (q : Goes G (T.set i (.im r a)) (tu D)) : Goes G T (tSeq (tAsg te (gName i)) tu D) := g_asg (D := { D with nx := tu D }) h q
theorem q_asgT {g : TG} {a : α} {T' : List Ty} (h : EvD G te T r a) (hg : EvG G g T r a T') (q : Goes G T' (tu D)) : Goes G T (tSeq (tAsg te g) tu D) := g_asgT (D := { D with nx := tu D }) h hg q
theorem q_asgN {i : Nat} {xs : List α} (h : EvN G te T r xs) (q : Goes G (T.set i (.ow owML ⟨xs⟩)) (tu D)) : Goes G T (tSeq (tAsg te (gName i)) tu D) := g_asgN (D := { D with nx := tu D }) h q
theorem q_drop {a : α} (h : EvD G te T r a) (q : Goes G T (tu D)) : Goes G T (tSeq (tDrop te) tu D) := g_drop (D := { D with nx := tu D }) h q
theorem q_app {i : Nat} {a : ML α} {y : α} (hi : T[i]? = some (.ow (@owML α r) a)) (h : EvD G te T r y) (hz : a.l.length < 100000) (q : Goes G (T.set i (.ow (@owML α r) ⟨a.l ++ [y]⟩)) (tu D)) : Goes G T (tSeq (tDrop (tBM G.K "list" rAppend (tVar i) (tCons te tNil))) tu D) := g_app (D := { D with nx := tu D }) hi h hz q
theorem q_setL {i j : Nat} {a : ML α} {y : α} {m : Int} (hi : T[i]? = some (.ow (@owML α r) a)) (h : EvD G te T r y) (hm : EvD G tb T rpInt m) (hj : ixN a.l.length m = some j) (q : Goes G (T.set i (.ow (@owML α r) ⟨a.l.set j y⟩)) (tu D)) : Goes G T (tSeq (tAsg te (gSub (tVar i) tb rSetL)) tu D) := g_setL (D := { D with nx := tu D }) hi h hm hj q
theorem q_ext {i : Nat} {a : ML α} {ys : List α} (hi : T[i]? = some (.ow (@owML α r) a)) (h : EvN G te T r ys) (hz : a.l.length + ys.length ≤ 100000) (q : Goes G (T.set i (.ow (@owML α r) ⟨a.l ++ ys⟩)) (tu D)) : Goes G T (tSeq (tDrop (tBM G.K "list" rExtend (tVar i) (tCons te tNil))) tu D) := g_ext (D := { D with nx := tu D }) hi h hz q
theorem q_popAt {i l j : Nat} {a : ML α} {y : α} {m : Int} (hi : T[i]? = some (.ow (@owML α r) a)) (hm : EvD G tb T rpInt m) (hj : ixN a.l.length m = some j) (hz : a.l.length ≤ 100000) (hy : a.l[j]? = some y) (q : Goes G ((T.set i (.ow (@owML α r) ⟨a.l.eraseIdx j⟩)).set l (.im r y)) (tu D)) : Goes G T (tSeq (tAsg (tBM G.K "list" rPopAt (tVar i) (tCons tb tNil)) (gName l)) tu D) := g_popAt (D := { D with nx := tu D }) hi hm hj hz hy q
theorem q_if {b : Bool} (h : EvT G c T b) (h1 : b = true → Goes G T (tz { D with nx := tu D })) (h2 : b = false → Goes G T (tw { D with nx := tu D })) : Goes G T (tSeq (tIfS c tz tw) tu D) := g_if (D := { D with nx := tu D }) h h1 h2
theorem q_when {b : Bool} (h : EvT G c T b) (h1 : b = true → Goes G T (tz { D with nx := tu D })) (h2 : b = false → Goes G T (tu D)) : Goes G T (tSeq (tIfS c tz tNext) tu D) := g_if (D := { D with nx := tu D }) h h1 h2
theorem g_when {b : Bool} (h : EvT G c T b) (h1 : b = true → Goes G T (tz D)) (h2 : b = false → Goes G T D.nx) : Goes G T (tIfS c tz tNext D) := g_if h h1 h2
theorem q_for {wi : TI} {g : TG} {xs : List α} (I : Nat → List Ty → Prop) (hi : EvI G wi T r xs) (h0 : I 0 T)
    (hs : ∀ B1, Up G B1 → ∀ i x T', xs[i]? = some x → I i T' → ∃ T2, EvG (G.at B1) g T' r x T2 ∧ Goes (G.at B1) T2 (tz { D with nx := At (G.at B1) (I (i + 1)), ct := At (G.at B1) (I (i + 1)), bk := tu D }))
    (hd : ∀ T', I xs.length T' → Goes G T' (tu D)) : Goes G T (tSeq (tFor wi g tz) tu D) := g_for (D := { D with nx := tu D }) I hi h0 hs hd
theorem q_while (I : Nat → List Ty → Prop) (m0 : Nat) (h0 : I m0 T)
    (hs : ∀ m T', I m T' → ∃ b, EvT G c T' b ∧ (b = true → Goes G T' (tz { D with nx := At G fun T2 => ∃ m', m' < m ∧ I m' T2, ct := At G fun T2 => ∃ m', m' < m ∧ I m' T2, bk := tu D })) ∧ (b = false → Goes G T' (tu D))) : Goes G T (tSeq (tWhile c tz) tu D) := g_while (D := { D with nx := tu D }) I m0 h0 hs
/-! comprehensions -/
def wipeT (T : List Ty) : List Nat → List Ty
  | [] => T
  | v :: vs => (wipeT T vs).set v .un
theorem Fr.wipe {B H : Hp} {σ : L2.St} (f : Fr G B H σ T) : ∀ vs : List Nat, Fr G B H (L2.wipe σ vs) (wipeT T vs)
  | [] => f
  | v :: vs => by
    have f' := Fr.wipe f vs
    obtain ⟨own, o0, sl⟩ := f'.sl
    refine ⟨f.bh, f.b0, f.h0, f.n0, by show ((L2.wipe σ vs).set v none).length = ((wipeT T vs).set v .un).length; rw [List.length_set, List.length_set]; exact f'.len, own, o0, fun j t e => ?_⟩
    replace e : ((wipeT T vs).set v .un)[j]? = some t := e
    by_cases hi : v = j
    · subst hi
      have hj : v < (wipeT T vs).length := by
        have z := (List.getElem?_eq_some_iff.mp e).1
        rw [List.length_set] at z
        exact z
      rw [List.getElem?_set_self hj] at e
      cases e
      exact ⟨none, List.getElem?_set_self (by rw [f'.len]; exact hj), rfl⟩
    · rw [List.getElem?_set_ne hi] at e
      obtain ⟨s, e1, q⟩ := sl j t e
      exact ⟨s, by show ((L2.wipe σ vs).set v none)[j]? = some s; rw [List.getElem?_set_ne hi]; exact e1, q⟩
theorem wipe_set {σ : L2.St} {x : Option V} : ∀ {vs : List Nat} {j : Nat}, j ∈ vs → L2.wipe (σ.set j x) vs = L2.wipe σ vs
  | [], _, h => by cases h
  | v :: vs, j, h => by
    show (L2.wipe (σ.set j x) vs).set v none = (L2.wipe σ vs).set v none
    by_cases hv : j ∈ vs
    · rw [wipe_set hv]
    · have e : j = v := by
        rcases List.mem_cons.mp h with e | e
        · exact e
        · exact absurd e hv
      subst e
      have aux : ∀ (vs : List Nat), (L2.wipe (σ.set j x) vs).set j none = (L2.wipe σ vs).set j none := by
        intro vs
        induction vs with
        | nil => show ((σ.set j x).set j none) = σ.set j none; rw [List.set_set]
        | cons w vs ih =>
          show (((L2.wipe (σ.set j x) vs).set w none).set j none) = (((L2.wipe σ vs).set w none).set j none)
          by_cases hw : w = j
          · subst hw; rw [ih]
          · rw [List.set_comm _ _ hw, ih, List.set_comm _ _ (Ne.symm hw)]
      exact aux vs
theorem wipe_wipe {σ : L2.St} {vs : List Nat} : L2.wipe (L2.wipe σ vs) vs = L2.wipe σ vs := by
  have aux : ∀ (us ws : List Nat), (∀ u ∈ us, u ∈ ws) → L2.wipe (L2.wipe σ us) ws = L2.wipe σ ws := by
    intro us
    induction us with
    | nil => intro ws _; rfl
    | cons u us ih =>
      intro ws h
      show L2.wipe ((L2.wipe σ us).set u none) ws = L2.wipe σ ws
      rw [wipe_set (h u List.mem_cons_self)]
      exact ih ws fun w hw => h w (List.mem_cons_of_mem _ hw)
  exact aux vs vs fun _ h => h
/-- a target that stores its block's own names alone -/
def Own (g : TG) (vs : List Nat) : Prop := ∀ v σ H (Q Q' : L2.St → Hp → Prop), (∀ σ', L2.wipe σ' vs = L2.wipe σ vs → Q σ' H → Q' σ' H) → g v σ H Q → g v σ H Q'
theorem own_name {j : Nat} {vs : List Nat} (h : j ∈ vs) : Own (gName j) vs := fun v σ H Q Q' k q => k _ (wipe_set h) q
theorem own_pair {K : PySem.W.Frag} {i j : Nat} {vs : List Nat} (hi : i ∈ vs) (hj : j ∈ vs) : Own (gTup K 2 (gCons (gName i) (gCons (gName j) gNil))) vs := fun v σ H Q Q' k q => by
  obtain ⟨a, xs, e1, e2, e3, x, l, e4, y, l', e5, e6, q⟩ := q
  exact ⟨a, xs, e1, e2, e3, x, l, e4, y, l', e5, e6, k _ (by rw [wipe_set hj, wipe_set hi]) q⟩
/-- [e for .. in .. if ..]: p tells which turns give, f what -/
theorem ev_lc {δ : Type} [r2 : Rp δ] {wi : TI} {g : TG} {tt : TT} {vs : List Nat} {xs : List α} (p : α → Bool) (f : α → δ) (hi : EvI G wi T r xs) (ho : Own g vs)
    (hs : ∀ x, x ∈ xs → ∃ T2, EvG G g (wipeT T vs) r x T2 ∧ EvT G tt T2 (p x) ∧ (p x = true → EvD G te T2 r2 (f x))) (hz : xs.length ≤ 90000) : EvN G (tLc wi g tt te vs) T r2 ((xs.filter p).map f) := fun B H σ fr Q q => hi B H σ fr _ fun J B1 H1 x1 ok => by
  refine fun Dl hD => ?_
  have nD : H Dl = none := x1.h.free hD
  have nB : B1 Dl = none := x1.s.free hD
  have x1' : Ext B H B1 (upd H1 Dl (.lst [])) := x1.trans (upd_extN x1.s hD)
  refine ⟨fun i m H' => m = xs.length - i ∧ i ≤ xs.length ∧ ∃ B' ws, Ext B H B' H' ∧ Same B1 B' ∧ B' Dl = none ∧ H' Dl = some (.lst ws) ∧ Paired (r2.rp G.K B') (((xs.take i).filter p).map f) ws,
    ⟨xs.length, rfl, Nat.zero_le _, B1, [], x1', Same.refl _, nB, upd_same, by rw [List.take_zero]; exact .nil⟩, ?_⟩
  rintro i m H' ⟨rfl, hle, B', ws, x', s1, nB', hDl, pw⟩
  by_cases hlt : i < xs.length
  · have ex : xs[i]? = some xs[i] := List.getElem?_eq_getElem hlt
    obtain ⟨T2, hg, ht, he⟩ := hs xs[i] (List.getElem_mem hlt)
    have etk : xs.take (i + 1) = xs.take i ++ [xs[i]] := by rw [List.take_add_one, ex] <;> rfl
    refine .inr ⟨ok.go B' H' i _ s1 x'.s ex, fun H3 => ∃ B3 ws3, Ext B H B3 H3 ∧ Same B1 B3 ∧ B3 Dl = none ∧ H3 Dl = some (.lst ws3) ∧ Paired (r2.rp G.K B3) (((xs.take (i + 1)).filter p).map f) ws3, fun H3 h3 => ⟨xs.length - (i + 1), by omega, rfl, hlt, h3⟩, fun v H2 y => ?_⟩
    obtain ⟨B2, x2, rv⟩ := ok.yld B' H' i _ v H2 s1 x'.s ex y
    have fr2 : Fr G B2 H2 (L2.wipe σ vs) (wipeT T vs) := ((fr.ext x').ext x2).wipe vs
    refine ho v _ H2 (fun σ2 H4 => H4 = H2 ∧ Fr G B2 H2 σ2 T2) _ (fun σ2 hw hq => ?_) (hg B2 H2 _ v fr2 rv _ fun σ2 f2 => ⟨rfl, f2⟩)
    obtain ⟨_, f2⟩ := hq
    refine ⟨by rw [hw, wipe_wipe], ht B2 H2 σ2 f2 _ fun B5 H5 x5 => ?_⟩
    have hD5 : H5 Dl = some (.lst ws) := x5.h _ _ (x2.h _ _ hDl)
    have x25 := x2.trans x5
    have nB5 : B5 Dl = none := x25.none hDl nB'
    cases hp : p xs[i] with
    | true =>
      refine iteT (he hp B5 H5 σ2 (f2.ext x5) _ fun w B6 H6 x6 rw6 => ?_)
      have x26 := x25.trans x6
      have nB6 : B6 Dl = none := x26.none hDl nB'
      have hl : ws.length < 100000 := by
        rw [← Paired.length pw, List.length_map]
        have h1 := List.length_filter_le p (xs.take i)
        have h2 := List.length_take_le i xs
        omega
      refine ⟨ws, x6.h _ _ hD5, sz_lt hl, B6, ws ++ [w], ⟨(x'.trans x26).b, fun b o e => ?_, fun b o e => ?_, (x'.trans x26).n⟩, s1.trans x26.b, nB6, upd_same, ?_⟩
      · rw [upd_ne (ne_of_none e nD)]; exact (x'.trans x26).h b o e
      · rw [upd_ne (ne_of_none e nB6)]; exact x26.s b o e
      · rw [etk, List.filter_append, List.map_append]
        refine paired_append (paired_mono x26.b pw) ?_
        rw [show [xs[i]].filter p = [xs[i]] by rw [List.filter_cons, if_pos hp] <;> rfl]
        exact .cons rw6 .nil
    | false =>
      refine iteF ⟨B5, ws, x'.trans x25, s1.trans x25.b, nB5, hD5, ?_⟩
      rw [etk, List.filter_append, List.map_append, show [xs[i]].filter p = [] by rw [List.filter_cons, if_neg (by rw [hp]; decide)] <;> rfl]
      show Paired _ (_ ++ []) _
      rw [List.append_nil]
      exact paired_mono x25.b pw
  · have e : i = xs.length := by omega
    subst e
    rw [List.take_length] at pw
    exact .inl ⟨ok.stop B' H' s1 x'.s, q Dl ws B' H' x' nD nB' hDl pw⟩
theorem et_yes : EvT G tYes T true := fun B H σ f Q q => q B H (Ext.refl f.bh)
theorem ev_lcA {δ : Type} [r2 : Rp δ] {wi : TI} {g : TG} {vs : List Nat} {xs : List α} (f : α → δ) (hi : EvI G wi T r xs) (ho : Own g vs)
    (hs : ∀ x, x ∈ xs → ∃ T2, EvG G g (wipeT T vs) r x T2 ∧ EvD G te T2 r2 (f x)) (hz : xs.length ≤ 90000) : EvN G (tLc wi g tYes te vs) T r2 (xs.map f) := by
  have h := ev_lc (G := G) (T := T) (te := te) (fun _ => true) f hi ho (fun x hx => let ⟨T2, a, b⟩ := hs x hx; ⟨T2, a, et_yes, fun _ => b⟩) hz
  have e : xs.filter (fun _ => true) = xs := List.filter_eq_self.mpr fun _ _ => rfl
  rw [e] at h
  exact h
/-! calls -/
/-- a def that gives f x, or raises: arguments As x -/
def SpX (K : PySem.W.Frag) {ι β : Type} (As : ι → List Ty) (pre : ι → Prop) (r : Rp β) (f : ι → Except Addr β) : Sp := fun vs H Q E => ∃ (B : Hp) (x : ι), Same B H ∧ pre x ∧ ArgsOk K B vs (As x) ∧
  (∀ b, f x = .ok b → ∀ v B' H', Ext B H B' H' → r.rp K B' b v → Q v H') ∧ (∀ C, f x = .error C → ∀ H', Same H H' → E (.ref C) none H')
/-- .. that gives a new list -/
def SpN (K : PySem.W.Frag) {ι β : Type} (As : ι → List Ty) (pre : ι → Prop) (r : Rp β) (f : ι → Except Addr (List β)) : Sp := fun vs H Q E => ∃ (B : Hp) (x : ι), Same B H ∧ pre x ∧ ArgsOk K B vs (As x) ∧
  (∀ b, f x = .ok b → ∀ p ws B' H', Ext B H B' H' → H p = none → B' p = none → H' p = some (.lst ws) → Paired (r.rp K B') b ws → Q (.ref p) H') ∧ (∀ C, f x = .error C → ∀ H', Same H H' → E (.ref C) none H')
section
variable {ι : Type} {As : ι → List Ty} {pre : ι → Prop} {f : ι → Except Addr β} {fn : ι → Except Addr (List β)} {E : XK} {tr : TA} {x : ι}
theorem ev_call {b : β} (ha : EvA G tr T (As x)) (hp : pre x) (hf : f x = .ok b) : EvD G (tCall (SpX G.K As pre r' f) [] E tr) T r' b := fun B H σ fr Q q => ha B H σ fr _ fun vs B1 H1 x1 ok => by
  rw [List.append_nil]
  exact ⟨B1, x, x1.s, hp, ok, fun b' e v B' H' y z => q v B' H' (x1.trans y) (by rw [hf] at e; cases e; exact z), fun C e => by rw [hf] at e; cases e⟩
theorem ev_callS [Sc β] {b : β} (ha : EvAH G tr T (As x)) (hp : pre x) (hf : f x = .ok b) : EvD G (tCall (SpX G.K As pre r' f) [] E tr) T r' b := fun B H σ fr Q q => ha B H σ fr _ fun vs B1 H1 x1 ok => by
  rw [List.append_nil]
  exact ⟨H1, x, Same.refl _, hp, ok, fun b' e v B' H' y z => q v B1 H' (x1.trans ⟨Same.refl _, y.h, x1.s.trans y.h, fun _ _ => rfl⟩) (by rw [hf] at e; cases e; exact Sc.any z), fun C e => by rw [hf] at e; cases e⟩
theorem ev_callN {b : List β} (ha : EvA G tr T (As x)) (hp : pre x) (hf : fn x = .ok b) : EvN G (tCall (SpN G.K As pre r' fn) [] E tr) T r' b := fun B H σ fr Q q => ha B H σ fr _ fun vs B1 H1 x1 ok => by
  rw [List.append_nil]
  exact ⟨B1, x, x1.s, hp, ok, fun b' e p ws B' H' y n1 n2 h z => q p ws B' H' (x1.trans y) (x1.h.free n1) n2 h (by rw [hf] at e; cases e; exact z), fun C e => by rw [hf] at e; cases e⟩
theorem ev_callNS [Sc β] {b : List β} (ha : EvAH G tr T (As x)) (hp : pre x) (hf : fn x = .ok b) : EvN G (tCall (SpN G.K As pre r' fn) [] E tr) T r' b := fun B H σ fr Q q => ha B H σ fr _ fun vs B1 H1 x1 ok => by
  rw [List.append_nil]
  exact ⟨H1, x, Same.refl _, hp, ok, fun b' e p ws B' H' y n1 n2 h z => q p ws B1 H' (x1.trans ⟨Same.refl _, y.h, x1.s.trans y.h, fun _ _ => rfl⟩) (x1.h.free n1) (x1.s.free n1) h (by rw [hf] at e; cases e; exact paired_sc z), fun C e => by rw [hf] at e; cases e⟩
/-- an expression that raises -/
def EvX (G : Cn) (te : TE) (T : List Ty) (W : Hp → Prop) : Prop := ∀ B H σ, Fr G B H σ T → (∀ H', Same G.H0 H' → W H') → ∀ Q, te σ H Q
theorem ex_call {C : Addr} (ha : EvAH G tr T (As x)) (hp : pre x) (hf : f x = .error C) : EvX G (tCall (SpX G.K As pre r' f) [] E tr) T (fun H => E (.ref C) none H) := fun B H σ fr w Q => ha B H σ fr _ fun vs B1 H1 x1 ok => by
  rw [List.append_nil]
  exact ⟨H1, x, Same.refl _, hp, ok, fun b' e => (by rw [hf] at e; cases e), fun C' e H' s => by rw [hf] at e; cases e; exact w H' ((fr.h0.trans x1.h).trans s)⟩
theorem ex_callN {C : Addr} (ha : EvAH G tr T (As x)) (hp : pre x) (hf : fn x = .error C) : EvX G (tCall (SpN G.K As pre r' fn) [] E tr) T (fun H => E (.ref C) none H) := fun B H σ fr w Q => ha B H σ fr _ fun vs B1 H1 x1 ok => by
  rw [List.append_nil]
  exact ⟨H1, x, Same.refl _, hp, ok, fun b' e => (by rw [hf] at e; cases e), fun C' e H' s => by rw [hf] at e; cases e; exact w H' ((fr.h0.trans x1.h).trans s)⟩
theorem gx_asg {g : TG} {W : Hp → Prop} (h : EvX G te T W) (w : ∀ H', Same G.H0 H' → W H') : Goes G T (tAsg te g D) := fun B H σ fr => h B H σ fr w _
theorem gx_ret {W : Hp → Prop} (h : EvX G te T W) (w : ∀ H', Same G.H0 H' → W H') : Goes G T (tRet te D) := fun B H σ fr => h B H σ fr w _
theorem gx_drop {W : Hp → Prop} (h : EvX G te T W) (w : ∀ H', Same G.H0 H' → W H') : Goes G T (tDrop te D) := fun B H σ fr => h B H σ fr w _
theorem g_raise {C : Value} {W : L2.St → Hp → Prop} (h : Goes G T W) : Goes G T W := h
end
end
/-! ### a def keeps its promise -/
theorem args_get {K : PySem.W.Frag} {B : Hp} : ∀ {vs : List V} {As : List Ty} {i : Nat} {t : Ty} (H : Hp) (F : Addr → Prop), ArgsOk K B vs As → As[i]? = some t → ∃ s, (vs.map some)[i]? = some s ∧ Slot K B H F s t
  | [], [], _, _, _, _, _, e => by simp at e
  | v :: vs, .im r a :: As, 0, t, _, _, h, e => by
    simp at e
    subst e
    exact ⟨some v, rfl, v, rfl, h.1⟩
  | v :: vs, .im r a :: As, i + 1, t, H, F, h, e => by
    obtain ⟨s, e1, q⟩ := args_get (i := i) H F h.2 (by simpa using e)
    exact ⟨s, by simpa using e1, q⟩
  | [], _ :: _, _, _, _, _, h, _ => by cases h
  | _ :: _, [], _, _, _, _, h, _ => by cases h
  | _ :: _, .ow _ _ :: _, _, _, _, _, h, _ => by cases h
  | _ :: _, .un :: _, _, _, _, _, h, _ => by cases h
  | _ :: _, .any :: _, _, _, _, _, h, _ => by cases h
theorem args_len {K : PySem.W.Frag} {B : Hp} : ∀ {vs : List V} {As : List Ty}, ArgsOk K B vs As → vs.length = As.length
  | [], [], _ => rfl
  | v :: vs, .im r a :: As, h => congrArg (· + 1) (args_len h.2)
  | [], _ :: _, h => by cases h
  | _ :: _, [], h => by cases h
  | _ :: _, .ow _ _ :: _, h => by cases h
  | _ :: _, .un :: _, h => by cases h
  | _ :: _, .any :: _, h => by cases h
theorem Fr.entry {K : PySem.W.Frag} {B H : Hp} {vs : List V} {As : List Ty} {N : List Str} (s : Same B H) (h : ArgsOk K B vs As) : Fr ⟨K, B, H⟩ B H (L2.start N vs) (As ++ List.replicate (N.length - As.length) .un) := by
  have hl := args_len h
  refine ⟨s, Same.refl _, Same.refl _, fun _ _ => rfl, ?_, fun _ => none, fun _ _ e => (by cases e), fun i t e => ?_⟩
  · unfold L2.start
    rw [List.length_append, List.length_append, List.length_map, List.length_replicate, List.length_replicate, hl]
  · unfold L2.start
    by_cases hi : i < As.length
    · rw [List.getElem?_append_left hi] at e
      obtain ⟨s, e1, q⟩ := args_get H (fun p => (fun _ => (none : Option Nat)) p = some i) h e
      exact ⟨s, by rw [List.getElem?_append_left (by rw [List.length_map, hl]; exact hi)]; exact e1, q⟩
    · rw [List.getElem?_append_right (by omega)] at e
      obtain ⟨h1, h2⟩ := List.getElem?_eq_some_iff.mp e
      rw [List.length_replicate] at h1
      rw [List.getElem_replicate] at h2
      subst h2
      refine ⟨none, ?_, rfl⟩
      rw [List.getElem?_append_right (by rw [List.length_map, hl]; omega), List.length_map, hl]
      rw [List.getElem?_replicate, if_pos h1]
section
variable {P : Program} {w : World} {K : PySem.W.Frag} {mg : Str → Option Value} {base : Heap} {x qual : Str} {st : Stmt} {fa : Addr} {fd : FuncData} {N ps : List Str} {k : Nat} {ι β : Type} {As : ι → List Ty} {pre : ι → Prop} {r : Rp β} {f : ι → Except Addr β} {fn : ι → Except Addr (List β)}
theorem def_ok (F : Fun K x qual st fa fd) (S : FnScope N ps (defScope st)) (len : ∀ x, (As x).length = ps.length)
    (hbody : ∀ (cdv : Value) (A : Around) (outer : List Env) (s : Shared) (H : Hp) (E : XK), Room k (A.deeper (envOfC qual (defScope st) s.heap.objs.size fa cdv)) →
      ∃ t, PSs (cxOf (L2.CX P w) P w K mg base N qual (defScope st) fa cdv A outer s H E) (defBody st) t ∧ ∀ (B : Hp) (x : ι) (Q : VK), pre x → (∀ b, f x = .ok b → RetD ⟨K, B, H⟩ Q r b) → (∀ C, f x = .error C → ∀ H', Same H H' → E (.ref C) none H') →
        Goes ⟨K, B, H⟩ (As x ++ List.replicate (N.length - (As x).length) .un) (t { nx := fun _ H' => Q .non H', rt := Q })) :
    FnOk P w K mg base (L2.CX P w) (k + 1) fa fd ps (SpX K As pre r f) := by
  refine F.okX S (fun vs H Q E h => ?_) (fun cdv A outer s H vs Q E hr h => ?_)
  · obtain ⟨B, x, _, _, ok, _⟩ := h
    exact (args_len ok).trans (len x)
  · obtain ⟨B, x, sB, hp, ok, h1, h2⟩ := h
    obtain ⟨t, ht, hg⟩ := hbody cdv A outer s H E hr
    exact ⟨t, ht, hg B x Q hp (fun b e v B' H' y z => h1 b e v B' H' y z) h2 B H _ (Fr.entry sB ok)⟩
theorem def_okN (F : Fun K x qual st fa fd) (S : FnScope N ps (defScope st)) (len : ∀ x, (As x).length = ps.length)
    (hbody : ∀ (cdv : Value) (A : Around) (outer : List Env) (s : Shared) (H : Hp) (E : XK), Room k (A.deeper (envOfC qual (defScope st) s.heap.objs.size fa cdv)) →
      ∃ t, PSs (cxOf (L2.CX P w) P w K mg base N qual (defScope st) fa cdv A outer s H E) (defBody st) t ∧ ∀ (B : Hp) (x : ι) (Q : VK), pre x → (∀ b, fn x = .ok b → RetN ⟨K, B, H⟩ Q r b) → (∀ C, fn x = .error C → ∀ H', Same H H' → E (.ref C) none H') →
        Goes ⟨K, B, H⟩ (As x ++ List.replicate (N.length - (As x).length) .un) (t { nx := fun _ H' => Q .non H', rt := Q })) :
    FnOk P w K mg base (L2.CX P w) (k + 1) fa fd ps (SpN K As pre r fn) := by
  refine F.okX S (fun vs H Q E h => ?_) (fun cdv A outer s H vs Q E hr h => ?_)
  · obtain ⟨B, x, _, _, ok, _⟩ := h
    exact (args_len ok).trans (len x)
  · obtain ⟨B, x, sB, hp, ok, h1, h2⟩ := h
    obtain ⟨t, ht, hg⟩ := hbody cdv A outer s H E hr
    exact ⟨t, ht, hg B x Q hp (fun b e p vs B' H' y n1 n2 h z => h1 b e p vs B' H' y n1 n2 h z) h2 B H _ (Fr.entry sB ok)⟩
end
end DL

set_option Elab.async false
set_option linter.all false
set_option maxRecDepth 100000
set_option maxHeartbeats 4000000
namespace DL
open PySem PySem.Spec PyProof.Rows L2
/-! ### data of any form -/
inductive D where
  | non | bl (b : Bool) | int (i : Int) | str (s : Str) | lst (l : List D) | tup (l : List D)
mutual
def rpDv (K : PySem.W.Frag) (H : Hp) : D → V → Prop
  | .non, v => v = .non
  | .bl b, v => v = .bl b
  | .int i, v => v = .int i
  | .str s, v => v = .str s
  | .lst l, v => ∃ p vs, v = .ref p ∧ H p = some (.lst vs) ∧ rpDs K H l vs
  | .tup l, v => ∃ p vs, v = .ref p ∧ H p = some (.tup vs) ∧ rpDs K H l vs
def rpDs (K : PySem.W.Frag) (H : Hp) : List D → List V → Prop
  | [], vs => vs = []
  | d :: ds, vs => ∃ v r, vs = v :: r ∧ rpDv K H d v ∧ rpDs K H ds r
end
mutual
theorem rpDv_mono {K : PySem.W.Frag} {H H' : Hp} (e : Same H H') : ∀ (d : D) (v : V), rpDv K H d v → rpDv K H' d v
  | .non, _, h => h
  | .bl _, _, h => h
  | .int _, _, h => h
  | .str _, _, h => h
  | .lst l, _, ⟨p, vs, a, b, c⟩ => ⟨p, vs, a, e _ _ b, rpDs_mono e l vs c⟩
  | .tup l, _, ⟨p, vs, a, b, c⟩ => ⟨p, vs, a, e _ _ b, rpDs_mono e l vs c⟩
theorem rpDs_mono {K : PySem.W.Frag} {H H' : Hp} (e : Same H H') : ∀ (d : List D) (v : List V), rpDs K H d v → rpDs K H' d v
  | [], _, h => h
  | d :: ds, _, ⟨v, r, a, b, c⟩ => ⟨v, r, a, rpDv_mono e d v b, rpDs_mono e ds r c⟩
end
instance rpD : Rp D := ⟨rpDv, fun {K H H' a v} e h => rpDv_mono e a v h⟩
theorem rpDs_paired {K : PySem.W.Frag} {H : Hp} : ∀ {l : List D} {vs : List V}, rpDs K H l vs ↔ Paired (rpD.rp K H) l vs
  | [], vs => ⟨fun h => by
      have e : vs = [] := h
      subst e; exact .nil, fun h => by cases h; rfl⟩
  | d :: ds, vs => ⟨fun ⟨v, r, a, b, c⟩ => by subst a; exact .cons b (rpDs_paired.mp c), fun h => by
      cases h with
      | cons a b => exact ⟨_, _, rfl, a, rpDs_paired.mpr b⟩⟩
/-- what of a kind is told as data -/
class ToD (α : Type) [Rp α] where
  d : α → D
  rp : ∀ {K : PySem.W.Frag} {H : Hp} {a : α} {v : V}, Rp.rp K H a v → rpDv K H (d a) v
  pr : ∀ {K : PySem.W.Frag} {H : Hp} {a : α} {v : V}, rpDv K H (d a) v → Rp.rp K H a v
instance toInt : ToD Int := ⟨D.int, fun h => h, fun h => h⟩
instance toBool : ToD Bool := ⟨D.bl, fun h => h, fun h => h⟩
instance toStr : ToD Str := ⟨D.str, fun h => h, fun h => h⟩
instance toUnit : ToD Unit := ⟨fun _ => D.non, fun h => h, fun h => h⟩
instance toD : ToD D := ⟨fun d => d, fun h => h, fun h => h⟩
theorem paired_map {α β γ : Type} {F : α → γ → Prop} {G : β → γ → Prop} {m : α → β} (h : ∀ a c, F a c → G (m a) c) : ∀ {xs : List α} {ys : List γ}, Paired F xs ys → Paired G (xs.map m) ys
  | _, _, .nil => .nil
  | _, _, .cons r t => .cons (h _ _ r) (paired_map h t)
theorem paired_unmap {α β γ : Type} {F : α → γ → Prop} {G : β → γ → Prop} {m : α → β} (h : ∀ a c, G (m a) c → F a c) : ∀ {xs : List α} {ys : List γ}, Paired G (xs.map m) ys → Paired F xs ys
  | [], _, .nil => .nil
  | _ :: _, _, .cons r t => .cons (h _ _ r) (paired_unmap h t)
instance toList {α : Type} [Rp α] [ToD α] : ToD (List α) := ⟨fun l => D.lst (l.map ToD.d), fun ⟨p, vs, a, b, c⟩ => ⟨p, vs, a, b, rpDs_paired.mpr (paired_map (fun _ _ h => ToD.rp h) c)⟩, fun ⟨p, vs, a, b, c⟩ => ⟨p, vs, a, b, paired_unmap (F := Rp.rp _ _) (G := rpDv _ _) (m := ToD.d) (fun _ _ h => ToD.pr h) (rpDs_paired.mp c)⟩⟩
instance toPair {α β : Type} [Rp α] [ToD α] [Rp β] [ToD β] : ToD (α × β) := ⟨fun p => D.tup [ToD.d p.1, ToD.d p.2], fun ⟨p, x, y, a, b, c, d⟩ => ⟨p, _, a, b, x, [y], rfl, ToD.rp c, y, [], rfl, ToD.rp d, rfl⟩, fun ⟨p, vs, a, b, x, r, e1, c, y, r', e2, d, e3⟩ => ⟨p, x, y, a, by rw [b, e1, e2, show r' = [] from e3], ToD.pr c, ToD.pr d⟩⟩
/-- the name of a thing's type -/
def D.tn : D → String
  | .non => "NoneType"
  | .bl _ => "bool"
  | .int _ => "int"
  | .str _ => "str"
  | .lst _ => "list"
  | .tup _ => "tuple"
theorem rpDv_ty {K : PySem.W.Frag} {H : Hp} {d : D} {v : V} (h : rpDv K H d v) : TyX K H v (.type d.tn) := by
  cases d with
  | non => rw [show v = _ from h]; exact .base .non
  | bl b => rw [show v = _ from h]; exact .base (.bl b)
  | int i => rw [show v = _ from h]; exact .base (.int i)
  | str i => rw [show v = _ from h]; exact .base (.str i)
  | lst l => obtain ⟨p, vs, rfl, b, c⟩ := h; exact .base (.lst b)
  | tup l => obtain ⟨p, vs, rfl, b, c⟩ := h; exact .base (.tup b)
class Tn (α : Type) [Rp α] where
  tn : α → String
  ok : ∀ {K : PySem.W.Frag} {H : Hp} {a : α} {v : V}, Rp.rp K H a v → TyX K H v (.type (tn a))
instance tnD : Tn D := ⟨D.tn, fun h => rpDv_ty h⟩
instance tnInt : Tn Int := ⟨fun _ => "int", fun h => by rw [show _ = V.int _ from h]; exact .base (.int _)⟩
instance tnBool : Tn Bool := ⟨fun _ => "bool", fun h => by rw [show _ = V.bl _ from h]; exact .base (.bl _)⟩
instance tnStr : Tn Str := ⟨fun _ => "str", fun h => by rw [show _ = V.str _ from h]; exact .base (.str _)⟩
instance tnUnit : Tn Unit := ⟨fun _ => "NoneType", fun h => by rw [show _ = V.non from h]; exact .base .non⟩
instance tnList {α : Type} [Rp α] : Tn (List α) := ⟨fun _ => "list", fun ⟨p, vs, a, b, c⟩ => by rw [a]; exact .base (.lst b)⟩
instance tnPair {α β : Type} [Rp α] [Rp β] : Tn (α × β) := ⟨fun _ => "tuple", fun ⟨p, x, y, a, b, _⟩ => by rw [a]; exact .base (.tup b)⟩
instance tnT3 {α β γ : Type} [Rp α] [Rp β] [Rp γ] : Tn (T3 α β γ) := ⟨fun _ => "tuple", fun ⟨p, x, y, z, a, b, _⟩ => by rw [a]; exact .base (.tup b)⟩
instance tnT4 {α β γ δ : Type} [Rp α] [Rp β] [Rp γ] [Rp δ] : Tn (T4 α β γ δ) := ⟨fun _ => "tuple", fun ⟨p, x, y, z, u, a, b, _⟩ => by rw [a]; exact .base (.tup b)⟩
instance tnOpt {α : Type} [Rp α] [Tn α] : Tn (Option α) := ⟨fun o => match o with | none => "NoneType" | some a => Tn.tn a, fun {K H a v} h => by
  cases a with
  | none => rw [show v = V.non from h]; exact .base .non
  | some a => exact Tn.ok (α := α) h⟩
/-- isinstance by the types' names -/
def isT (t c : String) : Bool := t == c || (t == "bool" && c == "int")
theorem kit_isT {K : PySem.W.Frag} {t c : String} (ht : t ∈ ["NoneType", "bool", "int", "str", "list", "tuple", "dict"]) (hc : c ∈ ["bool", "int", "str", "list", "tuple"]) : PySem.W.kitOne K (.type t) (.type c) = some (isT t c) := by
  simp only [List.mem_cons, List.mem_nil_iff, or_false] at ht hc
  rcases ht with rfl | rfl | rfl | rfl | rfl | rfl | rfl <;> rcases hc with rfl | rfl | rfl | rfl | rfl <;> rfl
section
variable {G : Cn} {T : List Ty} {te ta tb tc : TE} {α β γ : Type} {r : Rp α} {r' : Rp β}
theorem ev_isi [Tn α] {a : α} {n : String} {b : Bool} (h : EvH G te T r a) (ht : ∀ K : PySem.W.Frag, PySem.W.kitOne K (.type (Tn.tn a)) (.type n) = some b) : EvD G (tCB (rIsi G.K) (tCons te (tCons (tC (.ty n)) tNil))) T rpBool b := fun B H σ f Q q =>
  h B H σ f _ fun v B1 H1 x1 e1 => ⟨v, .ty n, _, _, b, rfl, .ty n, Tn.ok e1, ht _, q _ B1 H1 x1 rfl⟩
/-- a thing told as data, and back -/
theorem EvD.toD [ToD α] {a : α} (h : EvD G te T r a) : EvD G te T rpD (ToD.d a) := fun B H σ f Q q => h B H σ f Q fun v B' H' x z => q v B' H' x (ToD.rp z)
theorem EvD.ofD [ToD α] {a : α} (h : EvD G te T rpD (ToD.d a)) : EvD G te T r a := fun B H σ f Q q => h B H σ f Q fun v B' H' x z => q v B' H' x (ToD.pr z)
theorem EvH.toD [ToD α] {a : α} (h : EvH G te T r a) : EvH G te T rpD (ToD.d a) := fun B H σ f Q q => h B H σ f Q fun v B' H' x z => q v B' H' x (ToD.rp z)
theorem EvD.dl {l : List D} (h : EvD G te T rpD (.lst l)) : EvD G te T (@rpList D rpD) l := fun B H σ f Q q => h B H σ f Q fun v B' H' x z => q v B' H' x (by
  obtain ⟨p, vs, a, b, c⟩ := z
  exact ⟨p, vs, a, b, rpDs_paired.mp c⟩)
theorem EvD.d2 {a b : D} (h : EvD G te T rpD (.tup [a, b])) : EvD G te T (@rpPair D D rpD rpD) (a, b) := fun B H σ f Q q => h B H σ f Q fun v B' H' x z => q v B' H' x (by
  obtain ⟨p, vs, e, b, x, r, e1, c, y, r', e2, d, e3⟩ := z
  exact ⟨p, x, y, e, by rw [b, e1, e2, show r' = [] from e3], c, d⟩)
/-- the length of a tuple -/
theorem ev_lenTup {l : List D} (h : EvH G te T rpD (.tup l)) : EvD G (tCB (rLenQ G.K) (tCons te tNil)) T rpInt (l.length : Int) := fun B H σ f Q q =>
  h B H σ f _ fun v B1 H1 x1 e1 => by
    obtain ⟨p, vs, rfl, s, z⟩ := e1
    refine ⟨p, vs, rfl, .inr (.inl (.inl s)), ?_⟩
    rw [← Paired.length (rpDs_paired.mp z)]
    exact q _ B1 H1 x1 rfl
/-! sorted -/
theorem ev_sorted {xs ys : List Int} (h : EvC G te T rpInt xs) (hy : ys.Perm xs) (hs : ys.Pairwise (· ≤ ·)) : EvN G (tCB (rSortedI G.K) (tCons te tNil)) T rpInt ys := fun B H σ f Q q =>
  h B H σ f _ fun v B1 H1 x1 e1 => by
    obtain ⟨p, vs, rfl, s, z⟩ := e1
    have e := ints_of z
    subst e
    refine ⟨p, xs, rfl, s, fun ns l hp hw hl => ?_⟩
    have e2 : ns = ys := (hp.trans hy.symm).eq_of_pairwise (fun a b _ _ h1 h2 => Int.le_antisymm h1 h2) hw hs
    subst e2
    have x2 := upd_extN (o := .lst (ns.map V.int)) x1.s hl
    exact q l _ B1 _ (x1.trans x2) (x1.h.free hl) (x1.s.free hl) upd_same of_ints
/-- sorted of pairs of ints -/
def le2 (a b : Int × Int) : Prop := a.1 < b.1 ∨ (a.1 = b.1 ∧ a.2 ≤ b.2)
def keyOf (H : Hp) : V → Int × Int
  | .ref t => match H t with
    | some (.tup [.int i, .int j]) => (i, j)
    | _ => (0, 0)
  | _ => (0, 0)
theorem keys_of {K : PySem.W.Frag} {H : Hp} : ∀ {xs : List (Int × Int)} {vs : List V}, Paired ((@rpPair Int Int rpInt rpInt).rp K H) xs vs → xs = vs.map (keyOf H) ∧ ∀ v ∈ vs, ∃ t, v = .ref t ∧ H t = some (.tup [.int (keyOf H v).1, .int (keyOf H v).2])
  | [], _, .nil => ⟨rfl, fun _ h => by cases h⟩
  | (i, j) :: xs, v :: vs, .cons ⟨p, x, y, a, b, c, d⟩ t => by
    obtain ⟨e, h⟩ := keys_of t
    have c' : x = V.int i := c
    have d' : y = V.int j := d
    subst a c' d'
    have ek : keyOf H (.ref p) = (i, j) := by
      show (match H p with | some (.tup [.int i, .int j]) => (i, j) | _ => (0, 0)) = _
      rw [b]
    refine ⟨by rw [List.map_cons, ek, ← e], fun v hv => ?_⟩
    rcases List.mem_cons.mp hv with z | z
    · subst z; exact ⟨p, rfl, by rw [ek]; exact b⟩
    · exact h v z
theorem of_keys {K : PySem.W.Frag} {B H : Hp} : ∀ {vs : List V}, (∀ v ∈ vs, (@rpPair Int Int rpInt rpInt).rp K B (keyOf H v) v) → Paired ((@rpPair Int Int rpInt rpInt).rp K B) (vs.map (keyOf H)) vs
  | [], _ => .nil
  | v :: vs, h => .cons (h v List.mem_cons_self) (of_keys fun w hw => h w (List.mem_cons_of_mem _ hw))
theorem paired_mem {F : α → β → Prop} : ∀ {xs : List α} {ys : List β} {y : β}, Paired F xs ys → y ∈ ys → ∃ x, x ∈ xs ∧ F x y
  | _, _, _, .nil, h => by cases h
  | _, _, y, .cons r t, h => by
    rcases List.mem_cons.mp h with e | h
    · subst e; exact ⟨_, List.mem_cons_self, r⟩
    · obtain ⟨x, h1, h2⟩ := paired_mem t h
      exact ⟨x, List.mem_cons_of_mem _ h1, h2⟩
theorem ev_sortedP {xs ys : List (Int × Int)} (h : EvC G te T (@rpPair Int Int rpInt rpInt) xs) (hy : ys.Perm xs) (hs : ys.Pairwise le2) :
    EvN G (tCB (rSortedPO G.K) (tCons te tNil)) T (@rpPair Int Int rpInt rpInt) ys := fun B H σ f Q q =>
  h B H σ f _ fun v B1 H1 x1 e1 => by
    obtain ⟨p, vs, rfl, s, z⟩ := e1
    have zH := paired_mono x1.s z
    obtain ⟨e, hk⟩ := keys_of zH
    refine ⟨p, vs, keyOf H1, rfl, s, hk, fun ws l h1 h2 hl => ?_⟩
    have hperm : (ws.map (keyOf H1)).Perm xs := by rw [e]; exact h2.perm.map _
    have hsort : (ws.map (keyOf H1)).Pairwise le2 := by
      rw [List.pairwise_map]
      refine List.Pairwise.imp ?_ h1
      intro a b hab
      have hab' : SrtO.lexB (keyOf H1 b) (keyOf H1 a) = false := hab
      have hn : ¬ (SrtO.lexB (keyOf H1 b) (keyOf H1 a) = true) := by rw [hab']; decide
      rw [SrtO.lexB_iff] at hn
      unfold le2
      omega
    have e2 : ws.map (keyOf H1) = ys := (hperm.trans hy.symm).eq_of_pairwise (fun a b _ _ h1 h2 => by
      unfold le2 at h1 h2
      exact Prod.ext (by omega) (by omega)) hsort hs
    have x2 := upd_extN (o := .lst ws) x1.s hl
    refine q l _ B1 _ (x1.trans x2) (x1.h.free hl) (x1.s.free hl) upd_same ?_
    rw [← e2]
    refine of_keys fun v hv => ?_
    have hv' : v ∈ vs := h2.perm.subset hv
    obtain ⟨w, _, rw'⟩ := paired_mem z hv'
    have : keyOf H1 v = w := by
      obtain ⟨p, x, y, a, b, c, d⟩ := rw'
      have c' : x = V.int w.1 := c
      have d' : y = V.int w.2 := d
      subst a c' d'
      show (match H1 p with | some (.tup [.int i, .int j]) => (i, j) | _ => (0, 0)) = _
      rw [x1.s _ _ b]
    rw [this]
    exact rw'
end
end DL

set_option Elab.async false
set_option linter.all false
set_option maxRecDepth 100000
set_option maxHeartbeats 4000000
namespace DL
open PySem PySem.Spec PyProof.Rows L2
/-- the built-ins that no name of the module hides -/
structure Blt (mg : Str → Option Value) : Prop where
  isinstance : mg "isinstance" = none
  len : mg "len" = none
  range : mg "range" = none
  sorted : mg "sorted" = none
  enumerate : mg "enumerate" = none
  zip : mg "zip" = none
  sum : mg "sum" = none
  min : mg "min" = none
  max : mg "max" = none
  int : mg "int" = none
  bool : mg "bool" = none
  list : mg "list" = none
  tuple : mg "tuple" = none
  str : mg "str" = none
  set : mg "set" = none
  ValueError : mg "ValueError" = none
/-- a def of the module's top, as it stands -/
structure DefT (K : PySem.W.Frag) (mg : Str → Option Value) (x : Str) (st : Stmt) (ps : List Str) : Prop where
  ex : ∃ f fd, Fun K x x st f fd ∧ mg x = some (.ref f) ∧ Binds K fd ps []
/-- a def with its promise -/
structure Def (P : Program) (w : World) (K : PySem.W.Frag) (mg : Str → Option Value) (base : Heap) (k : Nat) (x : Str) (ps : List Str) (sp : Sp) : Prop where
  ex : ∃ f fd, FnOk P w K mg base (L2.CX P w) k f fd ps sp ∧ mg x = some (.ref f) ∧ PySem.W.keepIn K (.ref f) = true ∧ Binds K fd ps []
theorem DefT.mk' {K : PySem.W.Frag} {mg : Str → Option Value} {x : Str} {st : Stmt} {ps : List Str} {f : Addr} {fd : FuncData} (F : Fun K x x st f fd) (g : mg x = some (.ref f)) (b : Binds K fd ps []) : DefT K mg x st ps := ⟨f, fd, F, g, b⟩
section
variable {P : Program} {w : World} {K : PySem.W.Frag} {mg : Str → Option Value} {base : Heap} {k : Nat} {x : Str} {ps : List Str} {sp : Sp} {st : Stmt}
theorem DefT.to (T : DefT K mg x st ps) (h : ∀ f fd, Fun K x x st f fd → FnOk P w K mg base (L2.CX P w) k f fd ps sp) : Def P w K mg base k x ps sp := by
  obtain ⟨f, fd, F, g, b⟩ := T.ex
  exact ⟨f, fd, h f fd F, g, F.kp, b⟩
end
theorem pe_callD {X : Cx} {x : Str} {ps : List Str} {sp : Sp} {k j : Nat} {E : XK} {e : Expr} {es : List Expr} {t : TA} {p pos : Pos} (D : Def X.prog X.w X.K X.mg X.base k x ps sp) (hr : Room j X.A) (hg : Gl X x) (hx : Passes (L2.CX X.prog X.w) X E) (ha : PA X (e :: es) t) (hj : k ≤ j := by decide)
    (hdb : (x == ("__debug__" : Str)) = false := by decide) (he : starEach (e :: es) X.env = (false, eval e X.env) :: starEach es X.env := by rfl) (hpl : (backTo pos (starEach es X.env)).any (·.1) = false := by rfl) :
    PE X (.Call (.Name x p) (e :: es) [] pos) (tCall sp [] E t) := by
  obtain ⟨f, fd, F, g, kp, b⟩ := D.ex
  exact pe_call F (hr.mono hj) hg g kp b .nil hx ha hdb he hpl
/-- a call within a try -/
theorem pe_callDS {X : Cx} {x : Str} {ps : List Str} {sp : Sp} {k j : Nat} {E : L2.St → XK} {e : Expr} {es : List Expr} {t : TA} {p pos : Pos} (D : Def X.prog X.w X.K X.mg X.base k x ps sp) (hr : Room j X.A) (hg : Gl X x) (hx : ∀ σ, PassesAt (L2.CX X.prog X.w) X σ (E σ)) (ha : PA X (e :: es) t) (hj : k ≤ j := by decide)
    (hdb : (x == ("__debug__" : Str)) = false := by decide) (he : starEach (e :: es) X.env = (false, eval e X.env) :: starEach es X.env := by rfl) (hpl : (backTo pos (starEach es X.env)).any (·.1) = false := by rfl) :
    PE X (.Call (.Name x p) (e :: es) [] pos) (tCallS sp E t) := by
  obtain ⟨f, fd, F, g, kp, b⟩ := D.ex
  exact pe_callS F (hr.mono hj) hg g kp b hx ha hdb he hpl
/-- an own error class over ValueError, without a method of its own -/
structure ECls (K : PySem.W.Frag) (mg : Str → Option Value) (x : Str) (C : Addr) : Prop where
  mg : mg x = some (.ref C)
  ex : PySem.W.excIn K C [.type "ValueError", .type "Exception", .type "BaseException", .type "object"] "ValueError.__new__" = true
  kp : PySem.W.keepIn K (.ref C) = true
  sb : PySem.W.subIn K (.ref C) (.type "BaseException") = some true
  ty : PySem.W.typeIn K (.ref C) = some (.type "type")
  hd : PySem.W.hasDictIn K C = true
  sf : PySem.W.subIn K (.ref C) (.ref C) = some true
theorem ECls.pmk {X : Cx} {x m : Str} {C : Addr} {j : Nat} {p p2 pos : Pos} (c : ECls X.K X.mg x C) (hg : Gl X x := by rfl) (hdb : (x == ("__debug__" : Str)) = false := by decide) :
    PMk X (.Call (.Name x p) [.Constant (.str m) j p2] [] pos) (fun _ H Q => Q (.ref C) none H) := pmk_own PySem.F.excBase_ValueError c.ex c.mg c.kp (raises_own c.sb c.ty) hg hdb
section
variable {G : Cn} {T : List Ty} {D : Ends} {W : Hp → Prop} {C : Addr} {E : XK}
theorem g_rs (w : ∀ H', Same G.H0 H' → E (.ref C) none H') : Goes G T fun σ H => E (.ref C) none H := fun B H σ f => w H f.h0
end
/-! ### len(set(xs)) -/
/-- how many unlike ones there are -/
def ddl (ns : List Int) : Nat := (ns.foldl PyProof.Rows.step_dedup []).length
theorem getD_all (ns : List Int) : (List.range ns.length).map (fun i => ns.getD i 0) = ns := by
  apply List.ext_getElem
  · simp
  · intro i h1 h2
    simp [List.getD_eq_getElem?_getD, List.getElem?_eq_getElem h2]
theorem firstMet_ddl (ns : List Int) : (PyProof.Rows.firstMet (fun i => ns.getD i 0) ns.length).length = ddl ns := by
  unfold PyProof.Rows.firstMet ddl
  rw [getD_all]
theorem dedup_mem (ns : List Int) : ∀ (acc : List Int) (k : Int), k ∈ ns.foldl PyProof.Rows.step_dedup acc ↔ k ∈ acc ∨ k ∈ ns := by
  induction ns with
  | nil => intro acc k; simp
  | cons a ns ih =>
    intro acc k
    rw [List.foldl_cons, ih]
    unfold PyProof.Rows.step_dedup
    by_cases h : acc.any (· == a) = true
    · rw [if_pos h]
      have : a ∈ acc := by simpa using h
      constructor
      · rintro (h1 | h1)
        · exact .inl h1
        · exact .inr (List.mem_cons_of_mem _ h1)
      · rintro (h1 | h1)
        · exact .inl h1
        · rcases List.mem_cons.mp h1 with e | h1
          · subst e; exact .inl this
          · exact .inr h1
    · rw [if_neg h]
      simp [or_assoc]
theorem dedup_len (ns : List Int) : ∀ (acc : List Int), (ns.foldl PyProof.Rows.step_dedup acc).length ≤ acc.length + ns.length ∧ ((ns.foldl PyProof.Rows.step_dedup acc).length = acc.length + ns.length ↔ ns.Nodup ∧ ∀ x ∈ ns, x ∉ acc) := by
  induction ns with
  | nil => intro acc; simp
  | cons a ns ih =>
    intro acc
    rw [List.foldl_cons]
    obtain ⟨h1, h2⟩ := ih (PyProof.Rows.step_dedup acc a)
    by_cases h : acc.any (· == a) = true
    · have ha : a ∈ acc := by simpa using h
      have e : PyProof.Rows.step_dedup acc a = acc := by unfold PyProof.Rows.step_dedup; rw [if_pos h]
      rw [e] at h1 h2 ⊢
      refine ⟨by rw [List.length_cons]; omega, fun z => ?_, fun z => absurd ha (z.2 a List.mem_cons_self)⟩
      rw [List.length_cons] at z
      omega
    · have ha : a ∉ acc := by simpa using h
      have e : PyProof.Rows.step_dedup acc a = acc ++ [a] := by unfold PyProof.Rows.step_dedup; rw [if_neg h]
      rw [e, List.length_append, List.length_singleton] at h1 h2
      rw [e, List.length_cons]
      refine ⟨by omega, ?_⟩
      rw [show acc.length + (ns.length + 1) = acc.length + 1 + ns.length by omega, h2, List.nodup_cons]
      constructor
      · rintro ⟨n1, n2⟩
        refine ⟨⟨fun hm => n2 a hm (by simp), n1⟩, fun x hx => ?_⟩
        rcases List.mem_cons.mp hx with e | hx
        · subst e; exact ha
        · exact fun hm => n2 x hx (List.mem_append_left _ hm)
      · rintro ⟨⟨n1, n2⟩, n3⟩
        refine ⟨n2, fun x hx hm => ?_⟩
        rcases List.mem_append.mp hm with hm | hm
        · exact n3 x (List.mem_cons_of_mem _ hx) hm
        · rw [List.mem_singleton.mp hm] at hx
          exact n1 hx
theorem ddl_le (ns : List Int) : ddl ns ≤ ns.length := by
  have := (dedup_len ns []).1
  simpa [ddl] using this
theorem ddl_iff (ns : List Int) : ddl ns = ns.length ↔ ns.Nodup := by
  have := (dedup_len ns []).2
  simpa [ddl] using this
def tLenSetQ (K : PySem.W.Frag) (ta : TE) : TE := fun σ H Q => ta σ H fun x H1 => ∃ (l : Addr) (ns : List Int), x = V.ref l ∧ SqL K H1 l (ns.map V.int) ∧ ns.length < 4000 ∧ Q (.int (ddl ns : Nat)) H1
theorem pe_lenSetQ {X : Cx} {a : Expr} {ta : TE} {p p2 q pos : Pos} (hc : X.calm = true) (hg : Gl X "len") (hm : X.mg "len" = none) (hg2 : Gl X "set") (hm2 : X.mg "set" = none) (ha : PE X a ta)
    (na : starEach [a] X.env = (false, eval a X.env) :: starEach [] X.env := by rfl) : PE X (.Call (.Name "len" p) [.Call (.Name "set" p2) [a] [] q] [] pos) (tLenSetQ X.K ta) := by
  refine ⟨fun pins s σ H Q I h => ?_⟩
  refine Call_ (ld_blt I hg hm PySem.boot_len ?_)
  refine PyProof.Rows.callWith_builtin1 (PyProof.Rows.args_cons ?_ rfl) rfl rfl
  refine Call_ (ld_blt I hg2 hm2 PyProof.Rows.boot_set ?_)
  refine PyProof.Rows.callWith_type1 (PyProof.Rows.args_cons (thn (ha.run pins s σ H _ I h) fun v s1 ⟨x, H1, I1, r1, q1⟩ => PyProof.Rows.args_nil ?_) na) na rfl
  obtain ⟨l, ns, rfl, hq, h1, q1⟩ := q1
  cases r1
  obtain ⟨its, r, pl, hz⟩ := I1.list hq
  have hl : its.toArray.size = ns.length := by rw [List.size_toArray, ← r.length, List.length_map]
  refine call_set_list (I1.ok.hd hc) pl.isList (ns := ns) (by simpa using r.ints) (by unfold scanBound; omega) fun h' tk hS hk => ?_
  rw [hl] at hS
  rw [firstMet_ddl] at hS
  refine PyProof.Rows.args_nil ?_
  obtain ⟨o, es, ep, t, ho, hex, hd, _, _, _, hf, hn⟩ := hS
  have I2 : Inv X pins σ H1 { s1 with heap := h', toks := tk } := I1.kept fun b o e => hk b o (Heap.lt_size e) e
  have hb := ddl_le ns
  refine call_len_set ho hex hd hf (by rw [hn] <;> omega) ⟨.int (ddl ns : Nat), H1, I2.tok _, ⟨_, by rw [hn]⟩, q1⟩
theorem ev_lenSet {G : Cn} {T : List Ty} {te : TE} {xs : List Int} (h : EvC G te T rpInt xs) (hz : xs.length < 4000) : EvD G (tLenSetQ G.K te) T rpInt (ddl xs : Int) := fun B H σ f Q q =>
  h B H σ f _ fun v B1 H1 x1 e1 => by
    obtain ⟨p, vs, rfl, s, z⟩ := e1
    have e := ints_of z
    subst e
    exact ⟨p, xs, rfl, s, hz, q _ B1 H1 x1 rfl⟩
/-! ### what laws share -/
/-- the k-th cell, nought where there is none -/
def cell (s : Scr) (k : Int) : Int := if k < (s.cells.length : Int) then (atI s.cells k).getD 0 else 0
def mix (c p m : Int) : Int := c * 48271 % p % m
/-- a whole number from lo to hi -/
def within : D → Int → Int → Bool
  | .int i, lo, hi => decide (lo ≤ i) && decide (i ≤ hi)
  | _, _, _ => false
end DL
namespace DL
open PySem PySem.Spec PyProof.Rows L2
/-! ### orders -/
def D.toI : D → Int
  | .int i => i
  | _ => 0
theorem within_int {d : D} {lo hi : Int} (h : within d lo hi = true) : ∃ i, d = .int i ∧ lo ≤ i ∧ i ≤ hi := by
  cases d with
  | int i =>
    have h' : (decide (lo ≤ i) && decide (i ≤ hi)) = true := h
    rw [Bool.and_eq_true, decide_eq_true_eq, decide_eq_true_eq] at h'
    exact ⟨i, rfl, h'.1, h'.2⟩
  | _ => exact absurd h (by simp [within])
def ordOk (l : List D) : Bool := decide (1 ≤ l.length ∧ l.length ≤ 16) && (l.all (fun x => within x 0 ((l.length : Int) - 1)) && decide (ddl (l.map D.toI) = l.length))
def ordOf : D → Option (List Int)
  | .lst l => if ordOk l = true then some (l.map D.toI) else none
  | _ => none
def ordE (C : Addr) (d : D) : Except Addr (List Int) := match ordOf d with
  | some xs => .ok xs
  | none => .error C
theorem all_int {l : List D} {lo hi : Int} (h : ∀ x ∈ l, within x lo hi = true) : l = (l.map D.toI).map D.int := by
  induction l with
  | nil => rfl
  | cons a l ih =>
    obtain ⟨i, e, _⟩ := within_int (h a List.mem_cons_self)
    subst e
    rw [List.map_cons, List.map_cons, ← ih fun x hx => h x (List.mem_cons_of_mem _ hx)]
    rfl
/-- an order of n lines -/
def IsOrd (xs : List Int) : Prop := 1 ≤ xs.length ∧ xs.length ≤ 16 ∧ (∀ x ∈ xs, 0 ≤ x ∧ x < xs.length) ∧ xs.Nodup
theorem toI_int (xs : List Int) : (xs.map D.int).map D.toI = xs := by
  rw [List.map_map]
  exact List.map_id'' (fun _ => rfl) xs
theorem ordOf_ord {xs : List Int} (h : IsOrd xs) : ordOf (ToD.d xs) = some xs := by
  show (if ordOk (xs.map D.int) = true then some ((xs.map D.int).map D.toI) else none) = some xs
  have e : ordOk (xs.map D.int) = true := by
    unfold ordOk
    rw [toI_int, List.length_map, Bool.and_eq_true, Bool.and_eq_true, decide_eq_true_eq, decide_eq_true_eq, ddl_iff, List.all_eq_true]
    refine ⟨⟨h.1, h.2.1⟩, fun x hx => ?_, h.2.2.2⟩
    obtain ⟨i, hi, rfl⟩ := List.mem_map.mp hx
    obtain ⟨h1, h2⟩ := h.2.2.1 i hi
    show (decide (0 ≤ i) && decide (i ≤ (xs.length : Int) - 1)) = true
    rw [Bool.and_eq_true, decide_eq_true_eq, decide_eq_true_eq]
    omega
  rw [if_pos e, toI_int]
theorem ordOf_is {d : D} {xs : List Int} (h : ordOf d = some xs) : IsOrd xs ∧ d = ToD.d xs := by
  cases d with
  | lst l =>
    have h' : (if ordOk l = true then some (l.map D.toI) else none) = some xs := h
    by_cases e : ordOk l = true
    · rw [if_pos e] at h'
      have e2 := Option.some.inj h'
      unfold ordOk at e
      rw [Bool.and_eq_true, Bool.and_eq_true, decide_eq_true_eq, decide_eq_true_eq, List.all_eq_true] at e
      obtain ⟨h1, h2, h3⟩ := e
      have e3 := all_int h2
      rw [e2] at e3 h3
      have hl : xs.length = l.length := by rw [← e2, List.length_map]
      refine ⟨⟨by omega, by omega, fun x hx => ?_, (ddl_iff xs).mp (by omega)⟩, by show D.lst l = D.lst (xs.map D.int); rw [← e3]⟩
      obtain ⟨i, hi, a, b⟩ := within_int (h2 (D.int x) (by rw [e3]; exact List.mem_map.mpr ⟨x, hx, rfl⟩))
      cases hi
      omega
    · rw [if_neg e] at h'
      cases h'
  | _ => cases h
end DL
namespace DL
open PySem PySem.Spec PyProof.Rows L2
/-! ### the law's own orders -/
instance (a b : Int × Int) : Decidable (le2 a b) := inferInstanceAs (Decidable (_ ∨ _))
def sort2 (l : List (Int × Int)) : List (Int × Int) := l.mergeSort fun a b => decide (le2 a b)
theorem sort2_perm (l : List (Int × Int)) : (sort2 l).Perm l := List.mergeSort_perm _ _
theorem sort2_le (l : List (Int × Int)) : (sort2 l).Pairwise le2 := by
  have h := List.pairwise_mergeSort (le := fun a b => decide (le2 a b)) (fun a b c h1 h2 => by
    simp only [decide_eq_true_eq] at h1 h2 ⊢
    unfold le2 at h1 h2 ⊢
    omega) (fun a b => by
    simp only [Bool.or_eq_true, decide_eq_true_eq]
    unfold le2
    omega) l
  exact h.imp fun h => by simpa using h
theorem sort2_len (l : List (Int × Int)) : (sort2 l).length = l.length := (sort2_perm l).length_eq
def orderKeys (s : Scr) (a m : Int) : List (Int × Int) := (rng 0 m.toNat).map fun k => (mix (cell s (a + k) + 29 * k * k) 9931 997, k)
def orderL (s : Scr) (a m : Int) : List Int := (sort2 (orderKeys s a m)).map fun p => p.2
theorem orderL_perm (s : Scr) (a m : Int) : (orderL s a m).Perm (rng 0 m.toNat) := by
  have h := (sort2_perm (orderKeys s a m)).map (fun p => p.2)
  have e : (orderKeys s a m).map (fun p => p.2) = rng 0 m.toNat := by
    unfold orderKeys
    rw [List.map_map]
    exact List.map_id'' (fun _ => rfl) _
  rw [e] at h
  exact h
theorem rng_mem {lo x : Int} {n : Nat} : x ∈ rng lo n ↔ lo ≤ x ∧ x < lo + n := by
  unfold rng
  rw [List.mem_map]
  constructor
  · rintro ⟨i, hi, rfl⟩
    have := List.mem_range.mp hi
    omega
  · rintro ⟨h1, h2⟩
    exact ⟨(x - lo).toNat, List.mem_range.mpr (by omega), by omega⟩
theorem rng_nodup (lo : Int) (n : Nat) : (rng lo n).Nodup := by
  unfold rng
  rw [List.nodup_iff_pairwise_ne, List.pairwise_map]
  exact (List.nodup_iff_pairwise_ne.mp List.nodup_range).imp fun h e => h (by omega)
theorem orderL_ord {s : Scr} {a m : Int} (h1 : 1 ≤ m) (h2 : m ≤ 16) : IsOrd (orderL s a m) := by
  have hp := orderL_perm s a m
  have hl : (orderL s a m).length = m.toNat := by rw [hp.length_eq, rng_len]
  refine ⟨by omega, by omega, fun x hx => ?_, hp.nodup_iff.mpr (rng_nodup 0 m.toNat)⟩
  have := rng_mem.mp (hp.subset hx)
  omega
theorem orderL_len {s : Scr} {a m : Int} : (orderL s a m).length = m.toNat := by rw [(orderL_perm s a m).length_eq, rng_len]
def whole : D → Bool
  | .int _ => true
  | _ => false
end DL

set_option Elab.async false
set_option linter.all false
set_option maxRecDepth 100000
set_option maxHeartbeats 4000000
namespace DL
open PySem PySem.Spec PyProof.Rows L2
/-! ### the layer's rules, the written part told by its letter -/
section
variable {X : Cx}
theorem kx_list (K : PySem.W.Frag) (h : X.K = K) : IxR X (rIxL K) := by subst h; exact ix_list
theorem kx_tup (K : PySem.W.Frag) (h : X.K = K) : IxR X (rIxT K) := by subst h; exact ix_tup
theorem kr_len (K : PySem.W.Frag) (h : X.K = K) : CallR X (.builtin "len") (rLenQ K) := by subst h; exact cr_lenQ
theorem kr_list (K : PySem.W.Frag) (h : X.K = K) : CallR X (.type "list") (rListQ K) := by subst h; exact cr_listQ
theorem kr_sum (K : PySem.W.Frag) (h : X.K = K) (hc : X.calm = true) : CallR X (.builtin "sum") (rSum K) := by subst h; exact cr_sum hc
theorem kr_max (K : PySem.W.Frag) (h : X.K = K) (hc : X.calm = true) : CallR X (.builtin "max") (rMax K) := by subst h; exact cr_max hc
theorem kr_min (K : PySem.W.Frag) (h : X.K = K) (hc : X.calm = true) : CallR X (.builtin "min") (rMin K) := by subst h; exact cr_min hc
theorem kr_sortedI (K : PySem.W.Frag) (h : X.K = K) : CallR X (.builtin "sorted") (rSortedI K) := by subst h; exact cr_sortedI
theorem kr_sortedP (K : PySem.W.Frag) (h : X.K = K) : CallR X (.builtin "sorted") (rSortedPO K) := by subst h; exact cr_sortedPO
theorem kr_isi (K : PySem.W.Frag) (h : X.K = K) : CallR X (.builtin "isinstance") (rIsi K) := by subst h; exact call_isi
theorem ks_list (K : PySem.W.Frag) (h : X.K = K) : SlR X (rSlL K) := by subst h; exact sl_list
theorem ks_tup (K : PySem.W.Frag) (h : X.K = K) : SlR X (rSlT K) := by subst h; exact sl_tup
theorem ko_in (K : PySem.W.Frag) (h : X.K = K) : OpR X (compareOp .In) (rIn K false) := by subst h; exact op_in_seq
theorem ko_notIn (K : PySem.W.Frag) (h : X.K = K) : OpR X (compareOp .NotIn) (rIn K true) := by subst h; exact op_notIn_seq
theorem hu64 {k : Nat} {A : Around} (hr : Room k A) : A.units + 64 < cLine := by have := hr.un; omega
theorem hu65 {k : Nat} {A : Around} (hr : Room k A) : A.units + 65 < cLine := by have := hr.un; omega
theorem ko_eqD {k : Nat} (K : PySem.W.Frag) (h : X.K = K) (hr : Room k X.A) : OpR X (compareOp .Eq) (rEqD K) := by subst h; exact op_eqD (hu64 hr)
theorem ko_neD {k : Nat} (K : PySem.W.Frag) (h : X.K = K) (hr : Room k X.A) : OpR X (compareOp .NotEq) (rNeD K) := by subst h; exact op_neD (hu64 hr)
theorem ko_inD {k : Nat} (K : PySem.W.Frag) (h : X.K = K) (hr : Room k X.A) : OpR X (compareOp .In) (rInD K) := by subst h; exact op_inD (hu65 hr)
theorem ko_notInD {k : Nat} (K : PySem.W.Frag) (h : X.K = K) (hr : Room k X.A) : OpR X (compareOp .NotIn) (rNotInD K) := by subst h; exact op_notInD (hu65 hr)
theorem kp_list {l tg : Expr} {tl : TE} (K : PySem.W.Frag) (h : X.K = K) (hl : PE X l tl) : PI X tg l (iList K tl) := by subst h; exact pi_list hl
theorem kp_tup {l tg : Expr} {tl : TE} (K : PySem.W.Frag) (h : X.K = K) (hl : PE X l tl) : PI X tg l (iTup K tl) := by subst h; exact pi_tup hl
theorem kt_truth {a : Expr} {ta : TE} (K : PySem.W.Frag) (h : X.K = K) (ha : PE X a ta) (he : ∀ whole, isTrue a X.env whole = (do let v ← whole; standAt a.pos; holding [v] (truthy v))) : PT X a (tTruR K ta) := by subst h; exact pt_truth ha he
theorem ke_bm0 {o : Expr} {to : TE} {name : Str} {apos cpos : Pos} {T : String} {r : V → List V → Hp → VK → Prop} (K : PySem.W.Frag) (h : X.K = K) (p : PE X (.Call (.Attribute o name apos) [] [] cpos) (tBM0 X.K T r to)) : PE X (.Call (.Attribute o name apos) [] [] cpos) (tBM0 K T r to) := by subst h; exact p
theorem ke_bm {o e : Expr} {es : List Expr} {to : TE} {t : TA} {name : Str} {apos cpos : Pos} {T : String} {r : V → List V → Hp → VK → Prop} (K : PySem.W.Frag) (h : X.K = K) (p : PE X (.Call (.Attribute o name apos) (e :: es) [] cpos) (tBM X.K T r to t)) : PE X (.Call (.Attribute o name apos) (e :: es) [] cpos) (tBM K T r to t) := by subst h; exact p
theorem kg_tup {n : Nat} {t : TGs} (K : PySem.W.Frag) (h : X.K = K) {tg : Expr} (p : PG X tg (gTup X.K n t)) : PG X tg (gTup K n t) := by subst h; exact p
theorem ke_lenSet {a : Expr} {ta : TE} {p p2 q pos : Pos} (K : PySem.W.Frag) (h : X.K = K) (hc : X.calm = true) (hg : Gl X "len") (hm : X.mg "len" = none) (hg2 : Gl X "set") (hm2 : X.mg "set" = none) (ha : PE X a ta)
    (na : starEach [a] X.env = (false, eval a X.env) :: starEach [] X.env := by rfl) : PE X (.Call (.Name "len" p) [.Call (.Name "set" p2) [a] [] q] [] pos) (tLenSetQ K ta) := by subst h; exact pe_lenSetQ hc hg hm hg2 hm2 ha na
theorem kp_enum {a : Expr} {ta : TA} {es : List Expr} {k : Nat} {tp p pos : Pos} (K : PySem.W.Frag) (h : X.K = K) (q : PI X (.Tuple es k tp) (.Call (.Name "enumerate" p) [a] [] pos) (iEnum X.K ta)) : PI X (.Tuple es k tp) (.Call (.Name "enumerate" p) [a] [] pos) (iEnum K ta) := by subst h; exact q
theorem kp_zip {a b : Expr} {ta : TA} {es : List Expr} {k : Nat} {tp p pos : Pos} (K : PySem.W.Frag) (h : X.K = K) (q : PI X (.Tuple es k tp) (.Call (.Name "zip" p) [a, b] [] pos) (iZip X.K ta)) : PI X (.Tuple es k tp) (.Call (.Name "zip" p) [a, b] [] pos) (iZip K ta) := by subst h; exact q
theorem ke_listR {e : Expr} {te : L2.St → Hp → (Int → Int → Hp → Prop) → Prop} {p pos : Pos} (hc : X.calm = true) (hg : Gl X "list") (hm : X.mg "list" = none) (he : PRg X e te) (na : starEach [e] X.env = (false, eval e X.env) :: starEach [] X.env := by rfl) : PE X (.Call (.Name "list" p) [e] [] pos) (tLstRg te) := pe_listRg hc hg hm he na
end
/-! ### data that are compared -/
class Pd (α : Type) [Rp α] where
  pd : α → PyData
  dp : ∀ {K : PySem.W.Frag} {H : Hp} {a : α} {v : V}, Rp.rp K H a v → Dp K H v (pd a)
  lay : ∀ a, (pd a).canLay0 = true
  dn : Nat
  dep : ∀ a, (pd a).depth ≤ dn
  eqv : ∀ a b, PyData.eqv (pd a) (pd b) = true ↔ a = b
instance pdInt : Pd Int := ⟨PyData.int, fun h => by rw [show _ = V.int _ from h]; exact .int _, fun _ => by simp [PyData.canLay0], 0, fun _ => by simp [PyData.depth], fun a b => by simp [PyData.eqv]⟩
instance pdBool : Pd Bool := ⟨PyData.bool, fun h => by rw [show _ = V.bl _ from h]; exact .bl _, fun _ => by simp [PyData.canLay0], 0, fun _ => by simp [PyData.depth], fun a b => by simp [PyData.eqv]⟩
section
variable {α β γ : Type} [Rp α] [Pd α] [Rp β] [Pd β] [Rp γ] [Pd γ]
theorem pds_dp {K : PySem.W.Frag} {H : Hp} : ∀ {as : List α} {vs : List V}, Paired (Rp.rp K H) as vs → DpAll K H vs (as.map Pd.pd)
  | _, _, .nil => .nil
  | _, _, .cons r t => .cons (Pd.dp r) (pds_dp t)
theorem pds_lay : ∀ as : List α, PyData.canLayAll0 (as.map Pd.pd) = true
  | [] => by simp [PyData.canLayAll0]
  | a :: as => by simp [PyData.canLayAll0, Pd.lay a, pds_lay as]
theorem pds_dep : ∀ as : List α, PyData.depthAll (as.map Pd.pd) ≤ Pd.dn α
  | [] => by simp [PyData.depthAll]
  | a :: as => by
    have h1 := pds_dep as
    have h2 := Pd.dep a
    simp only [List.map_cons, PyData.depthAll]
    omega
theorem pds_eqv : ∀ as bs : List α, PyData.eqvAll (as.map Pd.pd) (bs.map Pd.pd) = true ↔ as = bs
  | [], [] => by simp [PyData.eqvAll]
  | [], _ :: _ => by simp [PyData.eqvAll]
  | _ :: _, [] => by simp [PyData.eqvAll]
  | a :: as, b :: bs => by
    simp only [List.map_cons, PyData.eqvAll, Bool.and_eq_true, Pd.eqv a b, pds_eqv as bs, List.cons.injEq]
instance pdList : Pd (List α) := ⟨fun l => .list (l.map Pd.pd), fun ⟨p, vs, a, b, c⟩ => by rw [a]; exact .lst (.inl (.inl b)) (pds_dp c), fun l => by simp only [PyData.canLay0]; exact pds_lay l, Pd.dn α + 1, fun l => by
  have := pds_dep l
  simp only [PyData.depth]
  omega, fun a b => by simp only [PyData.eqv]; exact pds_eqv a b⟩
instance pdPair : Pd (α × β) := ⟨fun p => .tuple [Pd.pd p.1, Pd.pd p.2], fun ⟨p, x, y, a, b, c, d⟩ => by rw [a]; exact .tup (.inl (.inl b)) (.cons (Pd.dp c) (.cons (Pd.dp d) .nil)), fun p => by simp [PyData.canLay0, PyData.canLayAll0, Pd.lay p.1, Pd.lay p.2], max (Pd.dn α) (Pd.dn β) + 1, fun p => by
  have h1 := Pd.dep p.1
  have h2 := Pd.dep p.2
  simp only [PyData.depth, PyData.depthAll]
  omega, fun a b => by simp only [PyData.eqv, PyData.eqvAll, Bool.and_eq_true, Pd.eqv, Prod.ext_iff, and_true]⟩
instance pdT3 : Pd (T3 α β γ) := ⟨fun p => .tuple [Pd.pd p.a, Pd.pd p.b, Pd.pd p.c], fun ⟨p, x, y, z, a, b, c, d, f⟩ => by rw [a]; exact .tup (.inl (.inl b)) (.cons (Pd.dp c) (.cons (Pd.dp d) (.cons (Pd.dp f) .nil))), fun p => by simp [PyData.canLay0, PyData.canLayAll0, Pd.lay p.a, Pd.lay p.b, Pd.lay p.c], max (max (Pd.dn α) (Pd.dn β)) (Pd.dn γ) + 1, fun p => by
  have h1 := Pd.dep p.a
  have h2 := Pd.dep p.b
  have h3 := Pd.dep p.c
  simp only [PyData.depth, PyData.depthAll]
  omega, fun a b => by
  obtain ⟨a1, a2, a3⟩ := a
  obtain ⟨b1, b2, b3⟩ := b
  simp only [PyData.eqv, PyData.eqvAll, Bool.and_eq_true, Pd.eqv, T3.mk.injEq, and_true]⟩
/-- equal as data -/
def eqvB (a b : α) : Bool := PyData.eqv (Pd.pd a) (Pd.pd b)
theorem eqvB_iff {a b : α} : eqvB a b = true ↔ a = b := Pd.eqv a b
theorem eqvB_self {a : α} : eqvB a a = true := eqvB_iff.mpr rfl
theorem eqvB_dec [DecidableEq α] {a b : α} : eqvB a b = decide (a = b) := by
  by_cases h : a = b
  · rw [decide_eq_true h, eqvB_iff.mpr h]
  · rw [decide_eq_false h]
    exact Bool.eq_false_iff.mpr fun z => h (eqvB_iff.mp z)
def inB (a : α) (l : List α) : Bool := l.any fun z => eqvB z a
theorem inB_iff {a : α} {l : List α} : inB a l = true ↔ a ∈ l := by
  unfold inB
  rw [List.any_eq_true]
  exact ⟨fun ⟨x, h1, h2⟩ => eqvB_iff.mp h2 ▸ h1, fun h => ⟨a, h, eqvB_self⟩⟩
end
section
variable {G : Cn} {T : List Ty} {te ta tb tc : TE} {α β γ : Type} {r : Rp α} {r' : Rp β}
theorem shaped_of [p : @Pd α r] {a : α} (h : p.dn ≤ 64) : SeqAt.shaped (p.pd a) = true := by
  show ((p.pd a).canLay0 && decide ((p.pd a).depth ≤ 64)) = true
  rw [Bool.and_eq_true, p.lay a, decide_eq_true_eq]
  exact ⟨rfl, Nat.le_trans (p.dep a) h⟩
theorem ev_eqD [p : @Pd α r] {a b : α} (ha : EvH G ta T r a) (hb : EvH G tb T r b) (hd : p.dn ≤ 64 := by decide) : EvD G (tOp (rEqD G.K) ta tb) T rpBool (@eqvB α r p a b) := fun B H σ f Q q =>
  ha B H σ f _ fun v B1 H1 x1 e1 => hb B1 H1 σ (f.ext x1) _ fun u B2 H2 x2 e2 => ⟨_, _, p.dp (r.mono x2.h e1), p.dp e2, shaped_of hd, shaped_of hd, q _ B2 H2 (x1.trans x2) rfl⟩
theorem ev_neD [p : @Pd α r] {a b : α} (ha : EvH G ta T r a) (hb : EvH G tb T r b) (hd : p.dn ≤ 64 := by decide) : EvD G (tOp (rNeD G.K) ta tb) T rpBool (!(@eqvB α r p a b)) := fun B H σ f Q q =>
  ha B H σ f _ fun v B1 H1 x1 e1 => hb B1 H1 σ (f.ext x1) _ fun u B2 H2 x2 e2 => ⟨_, _, p.dp (r.mono x2.h e1), p.dp e2, shaped_of hd, shaped_of hd, q _ B2 H2 (x1.trans x2) rfl⟩
theorem any_pd [p : @Pd α r] {a : α} {l : List α} : (l.map p.pd).any (fun z => PyData.eqv z (p.pd a)) = @inB α r p a l := by
  unfold inB
  rw [List.any_map]
  rfl
theorem ev_inD [p : @Pd α r] {a : α} {l : List α} (ha : EvH G ta T r a) (hb : EvH G tb T (@rpList α r) l) (hd : p.dn ≤ 63 := by decide) : EvD G (tOp (rInD G.K) ta tb) T rpBool (@inB α r p a l) := fun B H σ f Q q =>
  ha B H σ f _ fun v B1 H1 x1 e1 => hb B1 H1 σ (f.ext x1) _ fun u B2 H2 x2 e2 => ⟨_, _, p.dp (r.mono x2.h e1), (@pdList α r p).dp e2, shaped_of (by omega), @shaped_of (List α) (@rpList α r) (@pdList α r p) l (by show p.dn + 1 ≤ 64; omega), q _ B2 H2 (x1.trans x2) (by rw [any_pd]; rfl)⟩
theorem ev_ninD [p : @Pd α r] {a : α} {l : List α} (ha : EvH G ta T r a) (hb : EvH G tb T (@rpList α r) l) (hd : p.dn ≤ 63 := by decide) : EvD G (tOp (rNotInD G.K) ta tb) T rpBool (!(@inB α r p a l)) := fun B H σ f Q q =>
  ha B H σ f _ fun v B1 H1 x1 e1 => hb B1 H1 σ (f.ext x1) _ fun u B2 H2 x2 e2 => ⟨_, _, p.dp (r.mono x2.h e1), (@pdList α r p).dp e2, shaped_of (by omega), @shaped_of (List α) (@rpList α r) (@pdList α r p) l (by show p.dn + 1 ≤ 64; omega), q _ B2 H2 (x1.trans x2) (by rw [any_pd]; rfl)⟩
theorem flat_ints (xs : List Int) : (xs.map V.int).all flatV = true := by
  rw [List.all_eq_true]
  intro v hv
  obtain ⟨i, _, rfl⟩ := List.mem_map.mp hv
  rfl
theorem inV_int {i : Int} {xs : List Int} : inV (.int i) (xs.map V.int) = decide (i ∈ xs) := by
  unfold inV
  rw [List.any_map]
  by_cases h : i ∈ xs
  · rw [decide_eq_true h, List.any_eq_true]
    exact ⟨i, h, by simp [eqV]⟩
  · rw [decide_eq_false h, List.any_eq_false]
    intro j hj z
    refine h ?_
    have : j = i := by simpa [eqV] using z
    exact this ▸ hj
/-- a whole number in a list of them -/
theorem ev_inI {i : Int} {xs : List Int} (ha : EvD G ta T rpInt i) (hb : EvC G tb T rpInt xs) : EvD G (tOp (rIn G.K false) ta tb) T rpBool (decide (i ∈ xs)) := fun B H σ f Q q =>
  ha B H σ f _ fun v B1 H1 x1 e1 => hb B1 H1 σ (f.ext x1) _ fun u B2 H2 x2 e2 => by
    obtain ⟨p, vs, rfl, s, z⟩ := e2
    have e := ints_of z
    subst e
    have ev : v = .int i := e1
    subst ev
    exact ⟨p, _, rfl, .inl s, rfl, flat_ints xs, q _ B2 H2 (x1.trans x2) (by rw [if_neg (by decide), inV_int]; rfl)⟩
theorem ev_ninI {i : Int} {xs : List Int} (ha : EvD G ta T rpInt i) (hb : EvC G tb T rpInt xs) : EvD G (tOp (rIn G.K true) ta tb) T rpBool (!decide (i ∈ xs)) := fun B H σ f Q q =>
  ha B H σ f _ fun v B1 H1 x1 e1 => hb B1 H1 σ (f.ext x1) _ fun u B2 H2 x2 e2 => by
    obtain ⟨p, vs, rfl, s, z⟩ := e2
    have e := ints_of z
    subst e
    have ev : v = .int i := e1
    subst ev
    exact ⟨p, _, rfl, .inl s, rfl, flat_ints xs, q _ B2 H2 (x1.trans x2) (by rw [if_pos rfl, inV_int]; rfl)⟩
/-! two lists glued, a list over and over -/
theorem ev_cat {xs ys : List α} (ha : EvN G ta T r xs) (hb : EvN G tb T r ys) (hz : xs.length + ys.length ≤ 100000) : EvN G (tOp rCat ta tb) T r (xs ++ ys) := fun B H σ f Q q =>
  ha B H σ f _ fun p vs B1 H1 x1 n1 n2 e1 z1 => hb B1 H1 σ (f.ext x1) _ fun p' ws B2 H2 x2 m1 m2 e2 z2 => ⟨p, p', vs, ws, rfl, rfl, x2.h _ _ e1, e2, by rw [← Paired.length z1, ← Paired.length z2]; exact sz_of hz, fun l hl => by
    have x3 := upd_extN (o := .lst (vs ++ ws)) x2.s hl
    exact q l _ B2 _ ((x1.trans x2).trans x3) (x1.h.free (x2.h.free hl)) (x2.s.free hl) upd_same (paired_append (paired_mono x2.b z1) z2)⟩
/-- a list that stands, tracked -/
def EvK (G : Cn) (te : TE) (T : List Ty) {α : Type} (r : Rp α) (xs : List α) : Prop := ∀ B H σ, Fr G B H σ T → ∀ Q : VK, (∀ p vs B' H', Ext B H B' H' → H' p = some (.lst vs) → Paired (r.rp G.K B') xs vs → Q (.ref p) H') → te σ H Q
theorem EvN.k {xs : List α} (h : EvN G te T r xs) : EvK G te T r xs := fun B H σ f Q q => h B H σ f Q fun p vs B' H' x n1 n2 e z => q p vs B' H' x e z
theorem EvD.k {xs : List α} (h : EvD G te T (@rpList α r) xs) : EvK G te T r xs := fun B H σ f Q q => h B H σ f Q fun v B' H' x z => by
  obtain ⟨p, vs, rfl, h1, h2⟩ := z
  exact q p vs B' H' x (x.s _ _ h1) h2
theorem ev_varMK {i : Nat} {a : ML α} (h : T[i]? = some (.ow (@owML α r) a)) : EvK G (tVar i) T r a.l := fun B H σ f Q q => by
  obtain ⟨own, _, sl⟩ := f.sl
  obtain ⟨s, e1, v, rfl, p, vs, rfl, _, _, hp, z⟩ := sl i _ h
  exact ⟨_, e1, q p vs B H (Ext.refl f.bh) hp z⟩
theorem ev_catK {xs ys : List α} (ha : EvK G ta T r xs) (hb : EvK G tb T r ys) (hz : xs.length + ys.length ≤ 100000) : EvN G (tOp rCat ta tb) T r (xs ++ ys) := fun B H σ f Q q =>
  ha B H σ f _ fun p vs B1 H1 x1 e1 z1 => hb B1 H1 σ (f.ext x1) _ fun p' ws B2 H2 x2 e2 z2 => ⟨p, p', vs, ws, rfl, rfl, x2.h _ _ e1, e2, by rw [← Paired.length z1, ← Paired.length z2]; exact sz_of hz, fun l hl => by
    have x3 := upd_extN (o := .lst (vs ++ ws)) x2.s hl
    exact q l _ B2 _ ((x1.trans x2).trans x3) (x1.h.free (x2.h.free hl)) (x2.s.free hl) upd_same (paired_append (paired_mono x2.b z1) z2)⟩
theorem paired_rep {F : α → β → Prop} {xs : List α} {ys : List β} (h : Paired F xs ys) : ∀ n : Nat, Paired F (List.replicate n xs).flatten (List.replicate n ys).flatten
  | 0 => .nil
  | n + 1 => by
    rw [List.replicate_succ, List.replicate_succ, List.flatten_cons, List.flatten_cons]
    exact paired_append h (paired_rep h n)
theorem ev_rep {xs : List α} {k : Int} (ha : EvK G ta T r xs) (hb : EvD G tb T rpInt k) (hk : -1000 ≤ k ∧ k ≤ 1000) (hz : xs.length * k.toNat ≤ 100000) : EvN G (tOp rRep ta tb) T r (List.replicate k.toNat xs).flatten := fun B H σ f Q q =>
  ha B H σ f _ fun p vs B1 H1 x1 e1 z1 => hb B1 H1 σ (f.ext x1) _ fun u B2 H2 x2 e2 => ⟨p, k, vs, rfl, e2, x2.h _ _ e1, by omega, by omega, by rw [← Paired.length z1]; exact sz_of hz, fun l hl => by
    have x3 := upd_extN (o := .lst (List.replicate k.toNat vs).flatten) x2.s hl
    exact q l _ B2 _ ((x1.trans x2).trans x3) (x1.h.free (x2.h.free hl)) (x2.s.free hl) upd_same (paired_rep (paired_mono x2.b z1) _)⟩
theorem ev_listR1 {n : Int} (h : EvD G te T rpInt n) (h0 : 0 ≤ n) (hn : n ≤ 100000) : EvN G (tLstRg (tRg1 te)) T rpInt (rng 0 n.toNat) := fun B H σ f Q q =>
  h B H σ f _ fun v B1 H1 x1 e1 => ⟨n, e1, RgOk.of_le (by omega) (by omega) (by omega) h0, fun l hl => by
    have x3 := upd_extN (o := .lst (rgV 0 n)) x1.s hl
    refine q l _ B1 _ (x1.trans x3) (x1.h.free hl) (x1.s.free hl) upd_same ?_
    have e : rgV 0 n = (rng 0 n.toNat).map V.int := by
      unfold rgV rng
      rw [List.map_map, show (n - 0).toNat = n.toNat by omega]
      rfl
    rw [e]
    exact of_ints⟩
theorem ev_int1 {i : Int} (h : EvD G te T rpInt i) : EvD G (tCB (fun xs H Q => (∃ i, xs = [.int i] ∧ Q (.int i) H) ∨ ∃ k, xs = [.bl k] ∧ Q (.int (if k then 1 else 0)) H) (tCons te tNil)) T rpInt i := fun B H σ f Q q =>
  h B H σ f _ fun v B1 H1 x1 e1 => .inl ⟨i, by rw [show v = V.int i from e1], q _ B1 H1 x1 rfl⟩
theorem ev_intB {k : Bool} (h : EvD G te T rpBool k) : EvD G (tCB (fun xs H Q => (∃ i, xs = [.int i] ∧ Q (.int i) H) ∨ ∃ k, xs = [.bl k] ∧ Q (.int (if k then 1 else 0)) H) (tCons te tNil)) T rpInt (if k then 1 else 0) := fun B H σ f Q q =>
  h B H σ f _ fun v B1 H1 x1 e1 => .inr ⟨k, by rw [show v = V.bl k from e1], q _ B1 H1 x1 rfl⟩
end
end DL

set_option Elab.async false
set_option linter.all false
set_option maxRecDepth 100000
set_option maxHeartbeats 4000000
namespace DL
open PySem PySem.Spec PyProof.Rows L2
section
variable {G : Cn} {T : List Ty} {te ta tb tc : TE} {α β γ : Type} {r : Rp α} {r' : Rp β} {D : Ends} {tz tu tw : TS} {k : L2.St → Hp → Prop}
/-! slices -/
theorem slv_from {xs : List α} {i : Int} (h : 0 ≤ i) : (xs.drop (HT.sIx xs.length 0 (some i))).take (HT.sIx xs.length xs.length none - HT.sIx xs.length 0 (some i)) = xs.drop i.toNat := by
  have e : (some i : Option Int) = some ((i.toNat : Nat) : Int) := by rw [Int.toNat_of_nonneg h]
  rw [e, HT.sIx_nat, HT.sIx_none]
  by_cases hl : i.toNat ≤ xs.length
  · rw [Nat.min_eq_left hl]
    exact List.take_of_length_le (by rw [List.length_drop]; omega)
  · rw [Nat.min_eq_right (by omega), List.drop_of_length_le (Nat.le_refl _), List.drop_of_length_le (by omega)]
    exact List.take_nil
theorem slv_to {xs : List α} {i : Int} (h : 0 ≤ i) : (xs.drop (HT.sIx xs.length 0 none)).take (HT.sIx xs.length xs.length (some i) - HT.sIx xs.length 0 none) = xs.take i.toNat := by
  have e : (some i : Option Int) = some ((i.toNat : Nat) : Int) := by rw [Int.toNat_of_nonneg h]
  rw [e, HT.sIx_nat, HT.sIx_none, List.drop_zero, Nat.sub_zero]
  by_cases hl : i.toNat ≤ xs.length
  · rw [Nat.min_eq_left hl]
  · rw [Nat.min_eq_right (by omega), List.take_of_length_le (Nat.le_refl _), List.take_of_length_le (by omega)]
theorem slv_mid {xs : List α} {i j : Int} (h : 0 ≤ i) (h' : 0 ≤ j) : (xs.drop (HT.sIx xs.length 0 (some i))).take (HT.sIx xs.length xs.length (some j) - HT.sIx xs.length 0 (some i)) = (xs.drop i.toNat).take (j.toNat - i.toNat) := by
  have e : (some i : Option Int) = some ((i.toNat : Nat) : Int) := by rw [Int.toNat_of_nonneg h]
  have e' : (some j : Option Int) = some ((j.toNat : Nat) : Int) := by rw [Int.toNat_of_nonneg h']
  rw [e, e', HT.sIx_nat, HT.sIx_nat]
  by_cases hl : i.toNat ≤ xs.length
  · rw [Nat.min_eq_left hl]
    by_cases hj : j.toNat ≤ xs.length
    · rw [Nat.min_eq_left hj]
    · rw [Nat.min_eq_right (by omega), List.take_of_length_le (by rw [List.length_drop]; omega), List.take_of_length_le (by rw [List.length_drop]; omega)]
  · rw [Nat.min_eq_right (show xs.length ≤ i.toNat by omega), List.drop_of_length_le (Nat.le_refl _), List.drop_of_length_le (by omega), List.take_nil, List.take_nil]
theorem ev_from {xs : List α} {i : Int} (h : EvC G te T r xs) (hi : EvD G ta T rpInt i) (h0 : 0 ≤ i) : EvN G (tSl (rSlL G.K) te (tPart ta) tNoPart) T r (xs.drop i.toNat) := (ev_slice h (eo_part hi) eo_none).is (slv_from h0)
theorem ev_to {xs : List α} {i : Int} (h : EvC G te T r xs) (hi : EvD G ta T rpInt i) (h0 : 0 ≤ i) : EvN G (tSl (rSlL G.K) te tNoPart (tPart ta)) T r (xs.take i.toNat) := (ev_slice h eo_none (eo_part hi)).is (slv_to h0)
theorem ev_mid {xs : List α} {i j : Int} (h : EvC G te T r xs) (hi : EvD G ta T rpInt i) (hj : EvD G tb T rpInt j) (h0 : 0 ≤ i) (h1 : 0 ≤ j) : EvN G (tSl (rSlL G.K) te (tPart ta) (tPart tb)) T r ((xs.drop i.toNat).take (j.toNat - i.toNat)) := (ev_slice h (eo_part hi) (eo_part hj)).is (slv_mid h0 h1)
/-- a slot told otherwise -/
theorem g_as {i : Nat} {a : α} {b : β} (hi : T[i]? = some (.im r a)) (e : ∀ {K : PySem.W.Frag} {B : Hp} {v : V}, r.rp K B a v → r'.rp K B b v) (q : Goes G (T.set i (.im r' b)) k) : Goes G T k := fun B H σ f => by
  obtain ⟨v, e1, z⟩ := f.get hi
  have f' := f.set_im i r' (e z)
  have es : σ.set i (some v) = σ := by
    obtain ⟨h1, h2⟩ := List.getElem?_eq_some_iff.mp e1
    rw [← h2]
    exact List.set_getElem_self h1
  rw [es] at f'
  exact q B H σ f'
theorem g_ofD [ToD α] {i : Nat} {a : α} (hi : T[i]? = some (.im rpD (ToD.d a))) (q : Goes G (T.set i (.im r a)) k) : Goes G T k := g_as hi (fun h => ToD.pr h) q
/-- xs.append(ys.pop(m)) -/
theorem g_appPop {i l j : Nat} {a b : ML α} {y : α} {m : Int} (hi : T[i]? = some (.ow (@owML α r) a)) (hl : T[l]? = some (.ow (@owML α r) b)) (hil : i ≠ l) (hm : EvD G tb T rpInt m) (hj : ixN b.l.length m = some j) (hy : b.l[j]? = some y) (hz : b.l.length ≤ 100000) (hz' : a.l.length < 100000)
    (q : Goes G ((T.set l (.ow (@owML α r) ⟨b.l.eraseIdx j⟩)).set i (.ow (@owML α r) ⟨a.l ++ [y]⟩)) D.nx) :
    Goes G T (tDrop (tBM G.K "list" rAppend (tVar i) (tCons (tBM G.K "list" rPopAt (tVar l) (tCons tb tNil)) tNil)) D) := fun B H σ f => by
  obtain ⟨p, vs, e1, e2, z, k⟩ := f.mutL hi
  obtain ⟨p', ws, d1, d2, z', k'⟩ := f.mutL hl
  obtain ⟨s1, s2, s3, s4⟩ := ixN_lt hj
  refine ⟨_, e1, .inl ⟨rfl, vs, .inl (.inl e2)⟩, _, d1, .inl ⟨rfl, ws, .inl (.inl d2)⟩, hm B H σ f _ fun u B1 H1 x1 h1 => ?_⟩
  obtain ⟨v, hv, rv⟩ := paired_get (paired_mono (K := G.K) (r := r) x1.b z') hy
  refine ⟨p', ws, m, j, v, rfl, by rw [show u = V.int m from h1], x1.h _ _ d2, by omega, by omega, by rw [← Paired.length z']; exact s1, hv, ?_⟩
  have f1 := k' B1 H1 (ws.eraseIdx j) (b.l.eraseIdx j) x1 (paired_erase j (paired_mono x1.b z'))
  have hi1 : (T.set l (.ow (@owML α r) ⟨b.l.eraseIdx j⟩))[i]? = some (.ow (@owML α r) a) := by rw [List.getElem?_set_ne (Ne.symm hil)]; exact hi
  obtain ⟨p2, vs2, c1, c2, z2, k2⟩ := f1.mutL hi1
  rw [e1] at c1
  cases c1
  refine ⟨p, vs2, v, rfl, rfl, c2, by rw [← Paired.length z2]; exact sz_lt hz', ?_⟩
  exact q B1 _ σ (k2 B1 _ (vs2 ++ [v]) (a.l ++ [y]) (Ext.refl f1.bh) (paired_append z2 (.cons rv .nil)))
theorem q_appPop {i l j : Nat} {a b : ML α} {y : α} {m : Int} (hi : T[i]? = some (.ow (@owML α r) a)) (hl : T[l]? = some (.ow (@owML α r) b)) (hil : i ≠ l) (hm : EvD G tb T rpInt m) (hj : ixN b.l.length m = some j) (hy : b.l[j]? = some y) (hz : b.l.length ≤ 100000) (hz' : a.l.length < 100000)
    (q : Goes G ((T.set l (.ow (@owML α r) ⟨b.l.eraseIdx j⟩)).set i (.ow (@owML α r) ⟨a.l ++ [y]⟩)) (tu D)) :
    Goes G T (tSeq (tDrop (tBM G.K "list" rAppend (tVar i) (tCons (tBM G.K "list" rPopAt (tVar l) (tCons tb tNil)) tNil))) tu D) := g_appPop (D := { D with nx := tu D }) hi hl hil hm hj hy hz hz' q
end
/-! ### at -/
theorem atI_toNat {α : Type} {xs : List α} {i : Int} {a : α} (h : 0 ≤ i) (e : xs[i.toNat]? = some a) : atI xs i = some a := by
  have := atI_nat e
  rw [Int.toNat_of_nonneg h] at this
  exact this
theorem ixN_toNat {n : Nat} {i : Int} (h : 0 ≤ i) (h1 : i < n) : ixN n i = some i.toNat := by
  unfold ixN
  rw [if_pos h, if_pos h1]
/-! ### factorials -/
def fac : Nat → Int
  | 0 => 1
  | n + 1 => ((n : Int) + 1) * fac n
theorem fac_pos : ∀ n, 0 < fac n
  | 0 => by decide
  | n + 1 => Int.mul_pos (by omega) (fac_pos n)
theorem fac_mono {m n : Nat} (h : m ≤ n) : fac m ≤ fac n := by
  induction h with
  | refl => exact Int.le_refl _
  | @step n h ih =>
    refine Int.le_trans ih ?_
    show fac n ≤ ((n : Int) + 1) * fac n
    have := fac_pos n
    have h1 : fac n * 1 ≤ fac n * ((n : Int) + 1) := Int.mul_le_mul_of_nonneg_left (by omega) (Int.le_of_lt this)
    rw [Int.mul_comm ((n : Int) + 1)]
    omega
end DL

set_option Elab.async false
set_option linter.all false
set_option maxRecDepth 100000
set_option maxHeartbeats 4000000
namespace DL
open PySem PySem.Spec PyProof.Rows L2
/-! ### lists of whole numbers, in order -/
theorem firstLt_lex (ns ms : List Int) : ∀ k i, min ns.length ms.length = i + k →
    SeqAt.firstLt (fun j => decide (ns.getD j 0 = ms.getD j 0)) (fun j => decide (ns.getD j 0 < ms.getD j 0)) (decide (ns.length < ms.length)) ((List.range (min ns.length ms.length)).drop i) = HT.lexLt (ns.drop i) (ms.drop i)
  | 0, i, h => by
    rw [List.drop_of_length_le (by rw [List.length_range]; omega)]
    show decide (ns.length < ms.length) = _
    by_cases h1 : ns.length ≤ i
    · rw [List.drop_of_length_le h1]
      by_cases h2 : ms.length ≤ i
      · rw [List.drop_of_length_le h2, decide_eq_false (by omega)] <;> rfl
      · rw [List.drop_eq_getElem_cons (by omega : i < ms.length), decide_eq_true (by omega)] <;> rfl
    · rw [List.drop_eq_getElem_cons (by omega : i < ns.length), List.drop_of_length_le (by omega : ms.length ≤ i), decide_eq_false (by omega)] <;> rfl
  | k + 1, i, h => by
    have h1 : i < ns.length := by omega
    have h2 : i < ms.length := by omega
    have hd : (List.range (min ns.length ms.length)).drop i = i :: (List.range (min ns.length ms.length)).drop (i + 1) := by
      rw [List.drop_eq_getElem_cons (by rw [List.length_range]; omega), List.getElem_range]
    rw [hd, List.drop_eq_getElem_cons h1, List.drop_eq_getElem_cons h2, HT.lexLt_cons]
    have e1 : ns.getD i 0 = ns[i] := by rw [List.getD_eq_getElem?_getD, List.getElem?_eq_getElem h1]; rfl
    have e2 : ms.getD i 0 = ms[i] := by rw [List.getD_eq_getElem?_getD, List.getElem?_eq_getElem h2]; rfl
    by_cases hc : ns[i] = ms[i]
    · rw [if_pos hc, SeqAt.firstLt_yes (decide_eq_true (by rw [e1, e2]; exact hc))]
      exact firstLt_lex ns ms k (i + 1) (by omega)
    · rw [if_neg hc, SeqAt.firstLt_no (decide_eq_false (by rw [e1, e2]; exact hc)), e1, e2]
def rLtL (K : PySem.W.Frag) : R2 := fun x y H Q => ∃ a b ns ms, x = .ref a ∧ y = .ref b ∧ SqL K H a (ns.map V.int) ∧ SqL K H b (ms.map V.int) ∧ Q (.bl (HT.lexLt ns ms)) H
theorem op_ltL {X : Cx} (hu : X.A.units < cLine) : OpR X (compareOp .Lt) (rLtL X.K) := by
  intro pins s σ H x y v u Q I rx ry h
  obtain ⟨a, b, ns, ms, rfl, rfl, ha, hb, q⟩ := h
  cases rx
  cases ry
  obtain ⟨its, r1, p1, _⟩ := I.list ha
  obtain ⟨its2, r2, p2, _⟩ := I.list hb
  have i1 : IntsAre its ns := Vals.ints r1
  have i2 : IntsAre its2 ms := Vals.ints r2
  have e1 : its.toArray.size = ns.length := by rw [List.size_toArray]; exact i1.length
  have e2 : its2.toArray.size = ms.length := by rw [List.size_toArray]; exact i2.length
  have at1 : ∀ j (h1 : j < its.toArray.size), ∃ t, its.toArray[j] = .int (ns.getD j 0) t := fun j h1 => PyProof.Rows.IntsAre.int_at i1 _ _ (by simp at h1; simp [h1])
  have at2 : ∀ j (h1 : j < its2.toArray.size), ∃ t, its2.toArray[j] = .int (ms.getD j 0) t := fun j h1 => PyProof.Rows.IntsAre.int_at i2 _ _ (by simp at h1; simp [h1])
  have R := SeqAt.RcLt.lists (A := X.A) (s := s) (e := fun j => decide (ns.getD j 0 = ms.getD j 0)) (r := fun j => decide (ns.getD j 0 < ms.getD j 0)) p1.isList p2.isList hu (fun j h1 h2 => by
    obtain ⟨t, et⟩ := at1 j h1
    obtain ⟨t', et'⟩ := at2 j h2
    rw [et, et']
    have z : (ns.getD j 0 == ms.getD j 0) = decide (ns.getD j 0 = ms.getD j 0) := by
      by_cases q : ns.getD j 0 = ms.getD j 0
      · rw [decide_eq_true q]; exact beq_iff_eq.mpr q
      · rw [decide_eq_false q]; exact beq_eq_false_iff_ne.mpr q
    rw [← z]
    exact SeqAt.EqAt.int_int _ _ _ _) (fun j h1 h2 _ => by
    obtain ⟨t, et⟩ := at1 j h1
    obtain ⟨t', et'⟩ := at2 j h2
    rw [et, et']
    exact Ob.RcOp.lt_int _ _ _ _)
  rw [e1, e2] at R
  have e3 := firstLt_lex ns ms (min ns.length ms.length) 0 (by omega)
  rw [List.drop_zero, List.drop_zero, List.drop_zero] at e3
  rw [e3] at R
  have z : wpAny (model X.prog X.w) X.A (compareOp .Lt (.ref a) (.ref b)) (EP X pins σ Q) X.xe s := R X.prog X.w X.xe (EP X pins σ Q) ⟨.bl _, H, I, rfl, q⟩
  exact z
theorem ko_ltL {X : Cx} {k : Nat} (K : PySem.W.Frag) (h : X.K = K) (hr : Room k X.A) : OpR X (compareOp .Lt) (rLtL K) := by subst h; exact op_ltL (by have := hr.un; omega)
theorem ev_ltL {G : Cn} {T : List Ty} {ta tb : TE} {xs ys : List Int} (ha : EvC G ta T rpInt xs) (hb : EvC G tb T rpInt ys) : EvD G (tOp (rLtL G.K) ta tb) T rpBool (HT.lexLt xs ys) := fun B H σ f Q q =>
  ha B H σ f _ fun v B1 H1 x1 e1 => hb B1 H1 σ (f.ext x1) _ fun u B2 H2 x2 e2 => by
    obtain ⟨p, vs, rfl, s, z⟩ := e1.ext x2
    obtain ⟨p', ws, rfl, s', z'⟩ := e2
    have a1 := ints_of z
    have a2 := ints_of z'
    subst a1 a2
    exact ⟨p, p', xs, ys, rfl, rfl, s, s', q _ B2 H2 (x1.trans x2) rfl⟩
/-! ### the law's end -/
def SpLaw (K : PySem.W.Frag) : Sp := SpX K (fun s : Scr => [.im rpScr s]) (fun s => s.cells.length ≤ 63) rpBool fun _ => .ok true
theorem spLaw_of {K : PySem.W.Frag} {H : Hp} {a : Addr} {ns : List Int} (hl : ns.length ≤ 63) (hS : SqL K H a (ns.map V.int)) : SpLaw K [.ref a] H (fun v _ => v = .bl true) fun _ _ _ => False :=
  ⟨H, ⟨ns⟩, Same.refl _, hl, ⟨⟨a, rfl, hS⟩, trivial⟩, fun b e v B' H' _ z => by cases e; exact z, fun C e => by cases e⟩
/-- what the top has written of a def: read by k_is -/
theorem defT_mk {K : PySem.W.Frag} {h : Heap} {mg : Str → Option Value} {x : Str} {st : Stmt} {ps : List Str} {f : Addr} {od an : Option Addr} {sl : Array (Option Value)} {oc kV dc pm cd ct : Value} (X : K.In h) (G : h.Ns mainGlobals mg)
    (a : PySem.W.nsIn K mainGlobals x = some (some (.ref f))) (l : K.lookup f = some ⟨oc, od, .func (PySem.W.fnOf x x (defArgs st) (defBody st) (defScope st) .none kV dc pm an cd ct), sl⟩) (c : PySem.W.codeIn K cd x = true) (k : PySem.W.keepIn K (.ref f) = true)
    (hb : ∀ (kV doc pm : Value) (an : Option Addr) (cdv ct : Value) (us : List Value), us.length = ps.length → bindArgs (PySem.W.fnOf x x (defArgs st) (defBody st) (defScope st) .none kV doc pm an cdv ct) ⟨us, []⟩ = pure (ps.zip us)) : DefT K mg x st ps :=
  ⟨f, _, fun_mk l c k, PySem.W.mg_of X G a, (fun_mk l c k).binds hb⟩
theorem ecls_mk {K : PySem.W.Frag} {h : Heap} {mg : Str → Option Value} {x : Str} {C : Addr} (X : K.In h) (G : h.Ns mainGlobals mg) (a : PySem.W.nsIn K mainGlobals x = some (some (.ref C))) (e : PySem.W.excIn K C [.type "ValueError", .type "Exception", .type "BaseException", .type "object"] "ValueError.__new__" = true)
    (k : PySem.W.keepIn K (.ref C) = true) (s : PySem.W.subIn K (.ref C) (.type "BaseException") = some true) (t : PySem.W.typeIn K (.ref C) = some (.type "type")) (d : PySem.W.hasDictIn K C = true) (f : PySem.W.subIn K (.ref C) (.ref C) = some true) : ECls K mg x C := ⟨PySem.W.mg_of X G a, e, k, s, t, d, f⟩
end DL

set_option Elab.async false
set_option linter.all false
set_option maxRecDepth 100000
set_option maxHeartbeats 4000000
namespace DL
open PySem PySem.Spec PyProof.Rows L2
/-! ### try .. except -/
section
variable {G : Cn} {T : List Ty} {te ta tb tc : TE} {α β γ : Type} {r : Rp α} {r' : Rp β} {D : Ends} {tz tu tw : TS} {ι : Type} {As : ι → List Ty} {pre : ι → Prop} {f : ι → Except Addr β} {fn : ι → Except Addr (List β)} {E : L2.St → XK} {tr : TA} {x : ι}
theorem ev_callT {b : β} (ha : EvA G tr T (As x)) (hp : pre x) (hf : f x = .ok b) : EvD G (tCallS (SpX G.K As pre r' f) E tr) T r' b := fun B H σ fr Q q => ha B H σ fr _ fun vs B1 H1 x1 ok =>
  ⟨B1, x, x1.s, hp, ok, fun b' e v B' H' y z => q v B' H' (x1.trans y) (by rw [hf] at e; cases e; exact z), fun C e => by rw [hf] at e; cases e⟩
theorem ev_callTN {b : List β} (ha : EvA G tr T (As x)) (hp : pre x) (hf : fn x = .ok b) : EvN G (tCallS (SpN G.K As pre r' fn) E tr) T r' b := fun B H σ fr Q q => ha B H σ fr _ fun vs B1 H1 x1 ok =>
  ⟨B1, x, x1.s, hp, ok, fun b' e p ws B' H' y n1 n2 h z => q p ws B' H' (x1.trans y) (x1.h.free n1) n2 h (by rw [hf] at e; cases e; exact z), fun C e => by rw [hf] at e; cases e⟩
/-- an expression within a try that raises: what is wished holds of the frame as it stands -/
def EvXT (G : Cn) (te : TE) (T : List Ty) (W : L2.St → Hp → Prop) : Prop := Goes G T W → ∀ B H σ, Fr G B H σ T → ∀ Q, te σ H Q
theorem Ext.raise {B H H' : Hp} (bh : Same B H) (s : Same H H') : Ext B H B H' := ⟨Same.refl _, s, bh.trans s, fun _ _ => rfl⟩
theorem ex_callT {C : Addr} (ha : EvAH G tr T (As x)) (hp : pre x) (hf : f x = .error C) : EvXT G (tCallS (SpX G.K As pre r' f) E tr) T (fun σ H => E σ (.ref C) none H) := fun w B H σ fr Q => ha B H σ fr _ fun vs B1 H1 x1 ok =>
  ⟨H1, x, Same.refl _, hp, ok, fun b' e => (by rw [hf] at e; cases e), fun C' e H' s => by rw [hf] at e; cases e; exact w B1 H' σ ((fr.ext x1).ext (Ext.raise x1.s s))⟩
theorem ex_callTN {C : Addr} (ha : EvAH G tr T (As x)) (hp : pre x) (hf : fn x = .error C) : EvXT G (tCallS (SpN G.K As pre r' fn) E tr) T (fun σ H => E σ (.ref C) none H) := fun w B H σ fr Q => ha B H σ fr _ fun vs B1 H1 x1 ok =>
  ⟨H1, x, Same.refl _, hp, ok, fun b' e => (by rw [hf] at e; cases e), fun C' e H' s => by rw [hf] at e; cases e; exact w B1 H' σ ((fr.ext x1).ext (Ext.raise x1.s s))⟩
theorem gt_drop {W : L2.St → Hp → Prop} (h : EvXT G te T W) (w : Goes G T W) : Goes G T (tDrop te D) := fun B H σ fr => h w B H σ fr _
theorem gt_ret {W : L2.St → Hp → Prop} (h : EvXT G te T W) (w : Goes G T W) : Goes G T (tRet te D) := fun B H σ fr => h w B H σ fr _
theorem gt_asg {g : TG} {W : L2.St → Hp → Prop} (h : EvXT G te T W) (w : Goes G T W) : Goes G T (tAsg te g D) := fun B H σ fr => h w B H σ fr _
theorem q_tryDrop {te : Ends → TE} {a : α} (h : EvD G (te { D with nx := tu D }) T r a) (q : Goes G T (tu D)) : Goes G T (tSeq (fun D σ H => tDrop (te D) D σ H) tu D) := g_drop (D := { D with nx := tu D }) h q
theorem q_tryDropX {te : Ends → TE} {W : L2.St → Hp → Prop} (h : EvXT G (te { D with nx := tu D }) T W) (w : Goes G T W) : Goes G T (tSeq (fun D σ H => tDrop (te D) D σ H) tu D) := gt_drop (D := { D with nx := tu D }) h w
/-- the clause takes it -/
theorem g_only {c C : Addr} {ts : Addr → Value → Option Addr → TS} {Wout : WX} (e : PySem.W.exmOne G.K (.ref C) (.ref c) = some true) (h : ∀ a, Goes G T (ts a (.ref C) none D)) : Goes G T (fun σ H => wOnly G.K (.ref c) ts Wout D (.ref C) none σ H) := fun B H σ fr =>
  ⟨true, e, fun _ a _ => h a B H σ fr, fun z => Bool.noConfusion z⟩
end
theorem ECls.exm {K : PySem.W.Frag} {mg mg' : Str → Option Value} {x y : Str} {C c : Addr} (hc : ECls K mg y c) (s : PySem.W.subIn K (.ref C) (.ref c) = some true) : PySem.W.exmOne K (.ref C) (.ref c) = some true := PySem.W.exm_ref hc.sb hc.hd hc.ty s
theorem ECls.exms {K : PySem.W.Frag} {mg : Str → Option Value} {x : Str} {C : Addr} (hc : ECls K mg x C) : PySem.W.exmOne K (.ref C) (.ref C) = some true := PySem.W.exm_ref hc.sb hc.hd hc.ty hc.sf
end DL
namespace DL
theorem perm_of_sub {α : Type} [DecidableEq α] : ∀ (xs ys : List α), xs.Nodup → (∀ x ∈ xs, x ∈ ys) → ys.length ≤ xs.length → xs.Perm ys
  | [], ys, _, _, h => by
    have : ys = [] := List.length_eq_zero_iff.mp (by simpa using h)
    subst this
    exact .nil
  | x :: xs, ys, hn, hs, hl => by
    obtain ⟨h1, h2⟩ := List.nodup_cons.mp hn
    have hx : x ∈ ys := hs x List.mem_cons_self
    have p1 : ys.Perm (x :: ys.erase x) := List.perm_cons_erase hx
    have l1 : ys.length = (ys.erase x).length + 1 := p1.length_eq
    have ih := perm_of_sub xs (ys.erase x) h2 (fun y hy => (List.mem_erase_of_ne (fun z => h1 (by rw [← z]; exact hy))).mpr (hs y (List.mem_cons_of_mem _ hy))) (by rw [List.length_cons] at hl; omega)
    exact (ih.cons x).trans p1.symm
end DL
namespace DL
open PySem PySem.Spec PyProof.Rows L2
/-! ### lists by their places -/
theorem getD_int {xs : List Int} {i : Nat} (h : i < xs.length) : xs[i]? = some (xs.getD i 0) := by rw [List.getD_eq_getElem?_getD, List.getElem?_eq_getElem h]; rfl
theorem rng_get' {lo : Int} {n i : Nat} (h : i < n) : (rng lo n)[i]? = some (lo + i) := by
  unfold rng
  rw [List.getElem?_map, List.getElem?_eq_getElem (by rw [List.length_range]; exact h), List.getElem_range] <;> rfl
theorem idxOf_at {xs : List Int} (hn : xs.Nodup) {i : Nat} {x : Int} (h : xs[i]? = some x) : xs.idxOf x = i := by
  obtain ⟨hl, e⟩ := List.getElem?_eq_some_iff.mp h
  have hm : x ∈ xs := e ▸ List.getElem_mem hl
  have h1 : xs.idxOf x < xs.length := List.idxOf_lt_length_of_mem hm
  have h2 : xs[xs.idxOf x] = x := List.getElem_idxOf h1
  exact (List.getElem_inj hn).mp (h2.trans e.symm)
theorem ord_mem {xs : List Int} (ho : IsOrd xs) {j : Int} (h0 : 0 ≤ j) (h1 : j < xs.length) : j ∈ xs := by
  have hs : ∀ x ∈ xs, x ∈ rng 0 xs.length := fun x hx => rng_mem.mpr (by have := ho.2.2.1 x hx; omega)
  have hp : xs.Perm (rng 0 xs.length) := perm_of_sub xs _ ho.2.2.2 hs (by rw [rng_len]; exact Nat.le_refl _)
  exact hp.symm.subset (rng_mem.mpr ⟨h0, by omega⟩)
theorem ord_get {xs : List Int} (ho : IsOrd xs) {i : Nat} (h : i < xs.length) : ∃ x, xs[i]? = some x ∧ 0 ≤ x ∧ x < xs.length := by
  refine ⟨xs[i], List.getElem?_eq_getElem h, ?_⟩
  exact ho.2.2.1 _ (List.getElem_mem h)
theorem ord_getD {xs : List Int} (ho : IsOrd xs) {i : Nat} (h : i < xs.length) : 0 ≤ xs.getD i 0 ∧ xs.getD i 0 < xs.length := by
  obtain ⟨x, h1, h2⟩ := ord_get ho h
  rw [List.getD_eq_getElem?_getD, h1]
  exact h2
theorem ord_inj {xs : List Int} (ho : IsOrd xs) {i j : Nat} (hi : i < xs.length) (hj : j < xs.length) (e : xs.getD i 0 = xs.getD j 0) : i = j := by
  have h1 := idxOf_at ho.2.2.2 (getD_int hi)
  have h2 := idxOf_at ho.2.2.2 (getD_int hj)
  rw [e] at h1
  omega
theorem nodup_of_get {xs : List Int} (h : ∀ i j, i < xs.length → j < xs.length → xs.getD i 0 = xs.getD j 0 → i = j) : xs.Nodup := by
  rw [List.nodup_iff_pairwise_ne, List.pairwise_iff_getElem]
  intro i j hi hj hij e
  have := h i j hi hj (by rw [List.getD_eq_getElem?_getD, List.getD_eq_getElem?_getD, List.getElem?_eq_getElem hi, List.getElem?_eq_getElem hj]; exact e)
  omega
theorem ord_of_get {xs : List Int} (h1 : 1 ≤ xs.length) (h2 : xs.length ≤ 16) (hb : ∀ i, i < xs.length → 0 ≤ xs.getD i 0 ∧ xs.getD i 0 < xs.length) (hi : ∀ i j, i < xs.length → j < xs.length → xs.getD i 0 = xs.getD j 0 → i = j) : IsOrd xs := by
  refine ⟨h1, h2, fun x hx => ?_, nodup_of_get hi⟩
  obtain ⟨i, hl, e⟩ := List.getElem_of_mem hx
  have := hb i hl
  rw [List.getD_eq_getElem?_getD, List.getElem?_eq_getElem hl] at this
  rw [← e]
  exact this
theorem ext_getD {xs ys : List Int} (hl : xs.length = ys.length) (h : ∀ i, i < xs.length → xs.getD i 0 = ys.getD i 0) : xs = ys := by
  apply List.ext_getElem hl
  intro i h1 h2
  have := h i h1
  rw [List.getD_eq_getElem?_getD, List.getD_eq_getElem?_getD, List.getElem?_eq_getElem h1, List.getElem?_eq_getElem h2] at this
  exact this
theorem ord_rng {n : Nat} (h1 : 1 ≤ n) (h2 : n ≤ 16) : IsOrd (rng 0 n) := by
  refine ⟨by rw [rng_len]; exact h1, by rw [rng_len]; exact h2, fun x hx => ?_, rng_nodup 0 n⟩
  have := rng_mem.mp hx
  rw [rng_len]
  omega
theorem foldl_take {α β : Type} {f : β → α → β} {xs : List α} {i : Nat} {x : α} {b : β} (h : xs[i]? = some x) : (xs.take (i + 1)).foldl f b = f ((xs.take i).foldl f b) x := by
  rw [List.take_add_one, h, List.foldl_append]
  rfl
end DL

set_option Elab.async false
set_option linter.all false
set_option maxRecDepth 100000
/-! a law's own layer, tenth part: branches that meet again -/
namespace DL
open PySem PySem.Spec PyProof.Rows L2
variable {G : Cn} {T : List Ty} {D : Ends} {c : TT} {tz tw tu : TS}
theorem q_ifJ {b : Bool} {T' : List Ty} (h : EvT G c T b) (h1 : b = true → Goes G T' (tu D) → Goes G T (tz { D with nx := tu D })) (h2 : b = false → Goes G T' (tu D) → Goes G T (tw { D with nx := tu D })) (q : Goes G T' (tu D)) : Goes G T (tSeq (tIfS c tz tw) tu D) := q_if h (fun hb => h1 hb q) (fun hb => h2 hb q)
theorem q_whenJ {b : Bool} {T' : List Ty} (h : EvT G c T b) (h1 : b = true → Goes G T' (tu D) → Goes G T (tz { D with nx := tu D })) (h2 : b = false → Goes G T' (tu D) → Goes G T (tu D)) (q : Goes G T' (tu D)) : Goes G T (tSeq (tIfS c tz tNext) tu D) := q_when h (fun hb => h1 hb q) (fun hb => h2 hb q)
theorem ord_perm {xs ys : List Int} (h : ys.Perm xs) (ho : IsOrd xs) : IsOrd ys := by
  obtain ⟨h1, h2, h3, h4⟩ := ho
  have hl := h.length_eq
  exact ⟨by rw [hl]; exact h1, by rw [hl]; exact h2, fun x hx => by rw [hl]; exact h3 x (h.mem_iff.mp hx), h.nodup_iff.mpr h4⟩
/-! ### except X as e: return isinstance(e, ValueError) -/
/-- what a base of own error classes must say -/
structure EBase (K : PySem.W.Frag) (mg : Str → Option Value) (x : Str) (S : Addr) : Prop where
  mg : mg x = some (.ref S)
  sb : PySem.W.subIn K (.ref S) (.type "BaseException") = some true
  ty : PySem.W.typeIn K (.ref S) = some (.type "type")
  hd : PySem.W.hasDictIn K S = true
/-- C stands under S and under ValueError -/
structure EUp (K : PySem.W.Frag) (C S : Addr) : Prop where
  sub : PySem.W.subIn K (.ref C) (.ref S) = some true
  kit : PySem.W.kitOne K (.ref C) (.type "ValueError") = some true
  exc : ExcC K C
theorem EBase.exm {K : PySem.W.Frag} {mg : Str → Option Value} {x : Str} {S C : Addr} (b : EBase K mg x S) (u : EUp K C S) : PySem.W.exmOne K (.ref C) (.ref S) = some true := PySem.W.exm_ref b.sb b.hd b.ty u.sub
/-- isinstance(e, c), e what the clause holds -/
def rIsEg (K : PySem.W.Frag) (cls : Value) (d : Option Addr) (a : Addr) : List V → Hp → VK → Prop := fun xs H Q => ∃ D, cls = .ref D ∧ d = none ∧ ExcC K D ∧ rIsE K D a xs H Q
theorem call_isEg {X : Cx} {a : Addr} {oe : Obj} {pn : List (Addr × Obj)} {cls : Value} {d : Option Addr} (hz : Zc cls d oe) (hf : ∃ vs, oe.data = .fields vs) : CallR (X.suite a ((a, oe) :: pn)) (.builtin "isinstance") (rIsEg X.K cls d a) := by
  intro pins s σ H xs us Q I r h
  obtain ⟨D, rfl, rfl, C, h⟩ := h
  exact call_isE C hz hf pins s σ H xs us Q I r h
theorem g_asBase {i : Nat} {c C : Addr} {Wout : WX} (hi : i < T.length) (e : PySem.W.exmOne G.K (.ref C) (.ref c) = some true) (x : ExcC G.K C) (k : PySem.W.kitOne G.K (.ref C) (.type "ValueError") = some true) (q : RetD G D.rt rpBool true) :
    Goes G T (fun σ H => wAs G.K (.ref c) i (fun a cls d => tRet (tCB (rIsEg G.K cls d a) (tCons (tVar i) (tCons (tC (.ty "ValueError")) tNil)))) Wout D (.ref C) none σ H) := fun B H σ fr =>
  ⟨true, e, fun _ a _ => ⟨.ref a, by rw [List.getElem?_set_self (by rw [fr.len]; exact hi)], C, rfl, rfl, x, .ty "ValueError", .type "ValueError", true, rfl, fun u r => by cases r; rfl, k, q (.bl true) B H fr.ext0 rfl⟩, fun z => Bool.noConfusion z⟩
/-! ### tuples of any length -/
structure TL (α : Type) where
  l : List α
instance rpTL {α : Type} [Rp α] : Rp (TL α) := ⟨fun K H as v => ∃ p vs, v = .ref p ∧ H p = some (.tup vs) ∧ Paired (Rp.rp K H) as.l vs, fun e ⟨p, vs, a, b, c⟩ => ⟨p, vs, a, e _ _ b, paired_mono e c⟩⟩
instance toTL {α : Type} [Rp α] [ToD α] : ToD (TL α) := ⟨fun l => DL.D.tup (l.l.map ToD.d), fun ⟨p, vs, a, b, c⟩ => ⟨p, vs, a, b, rpDs_paired.mpr (paired_map (fun _ _ h => ToD.rp h) c)⟩, fun ⟨p, vs, a, b, c⟩ => ⟨p, vs, a, b, paired_unmap (F := Rp.rp _ _) (G := rpDv _ _) (m := ToD.d) (fun _ _ h => ToD.pr h) (rpDs_paired.mp c)⟩⟩
instance tnTL {α : Type} [Rp α] : Tn (TL α) := ⟨fun _ => "tuple", fun ⟨p, vs, a, b, c⟩ => by rw [a]; exact .base (.tup b)⟩
section
variable {G : Cn} {T : List Ty} {te ta tb tc : TE} {α β γ : Type} {r : Rp α} {D : Ends}
theorem ev_tupL {t : TA} {xs : List α} (h : EvL G t T r xs) (hl : xs.length ≤ 100000) : EvD G (tTup t) T (@rpTL α r) ⟨xs⟩ := fun B H σ f Q q =>
  h B H σ f _ fun vs B1 H1 x1 e1 => ⟨by rw [← Paired.length e1]; exact sz_of hl, fun p hp => by
    have x2 := upd_ext (o := .tup vs) x1.s hp
    exact q (.ref p) _ _ (x1.trans x2) ⟨p, vs, rfl, upd_same, paired_mono x2.b e1⟩⟩
def rTupQ (K : PySem.W.Frag) : List V → Hp → VK → Prop := fun xs H Q => ∃ p ys, xs = [.ref p] ∧ ((SqL K H p ys ∧ ∀ l, H l = none → Q (.ref l) (upd H l (.tup ys))) ∨ (SqT K H p ys ∧ Q (.ref p) H))
theorem kr_tuple {X : Cx} (K : PySem.W.Frag) (h : X.K = K) : CallR X (.type "tuple") (rTupQ K) := by subst h; exact call_tuple_of
theorem ev_tuple {xs : List α} (h : EvC G te T r xs) : EvD G (tCB (rTupQ G.K) (tCons te tNil)) T (@rpTL α r) ⟨xs⟩ := fun B H σ f Q q =>
  h B H σ f _ fun v B1 H1 x1 e1 => by
    obtain ⟨p, vs, rfl, s, z⟩ := e1
    refine ⟨p, vs, rfl, .inl ⟨s, fun l hl => ?_⟩⟩
    have x2 := upd_ext (o := .tup vs) x1.s hl
    exact q (.ref l) _ _ (x1.trans x2) ⟨l, vs, rfl, upd_same, paired_mono x2.b z⟩
theorem ev_inT {i : Int} {xs : TL Int} (ha : EvD G ta T rpInt i) (hb : EvD G tb T (@rpTL Int rpInt) xs) : EvD G (tOp (rIn G.K false) ta tb) T rpBool (decide (i ∈ xs.l)) := fun B H σ f Q q =>
  ha B H σ f _ fun v B1 H1 x1 e1 => hb B1 H1 σ (f.ext x1) _ fun u B2 H2 x2 e2 => by
    obtain ⟨p, vs, rfl, s, z⟩ := e2
    have e := ints_of z
    subst e
    have ev : v = .int i := e1
    subst ev
    exact ⟨p, _, rfl, .inr (.inl (.of (x2.s _ _ s))), rfl, flat_ints xs.l, q _ B2 H2 (x1.trans x2) (by rw [if_neg (by decide), inV_int]; rfl)⟩
theorem ev_ninT {i : Int} {xs : TL Int} (ha : EvD G ta T rpInt i) (hb : EvD G tb T (@rpTL Int rpInt) xs) : EvD G (tOp (rIn G.K true) ta tb) T rpBool (!decide (i ∈ xs.l)) := fun B H σ f Q q =>
  ha B H σ f _ fun v B1 H1 x1 e1 => hb B1 H1 σ (f.ext x1) _ fun u B2 H2 x2 e2 => by
    obtain ⟨p, vs, rfl, s, z⟩ := e2
    have e := ints_of z
    subst e
    have ev : v = .int i := e1
    subst ev
    exact ⟨p, _, rfl, .inr (.inl (.of (x2.s _ _ s))), rfl, flat_ints xs.l, q _ B2 H2 (x1.trans x2) (by rw [if_pos rfl, inV_int]; rfl)⟩
theorem EvD.dt {l : List DL.D} (h : EvD G te T rpD (.tup l)) : EvD G te T (@rpTL DL.D rpD) ⟨l⟩ := fun B H σ f Q q => h B H σ f Q fun v B' H' x z => q v B' H' x (by
  obtain ⟨p, vs, a, b, c⟩ := z
  exact ⟨p, vs, a, b, rpDs_paired.mp c⟩)
theorem ev_lenT {xs : TL α} (h : EvD G te T (@rpTL α r) xs) : EvD G (tCB (rLenQ G.K) (tCons te tNil)) T rpInt (xs.l.length : Int) := fun B H σ f Q q =>
  h B H σ f _ fun v B1 H1 x1 e1 => by
    obtain ⟨p, vs, rfl, s, z⟩ := e1
    refine ⟨p, vs, rfl, .inr (.inl (.of (x1.s _ _ s))), ?_⟩
    rw [← Paired.length z]
    exact q _ B1 H1 x1 rfl
theorem ev_ixT {xs : TL α} {i : Int} {a : α} (hl : EvD G ta T (@rpTL α r) xs) (hi : EvD G tb T rpInt i) (e : atI xs.l i = some a) : EvD G (tOp (rIxT G.K) ta tb) T r a := fun B H σ f Q q =>
  hl B H σ f _ fun v B1 H1 x1 e1 => hi B1 H1 σ (f.ext x1) _ fun u B2 H2 x2 e2 => by
    obtain ⟨p, vs, rfl, s, z⟩ := e1
    obtain ⟨y, h1, h2⟩ := atI_paired (paired_mono x2.b z) e
    exact ⟨p, vs, i, y, rfl, e2, .inl (.of (x2.s _ _ (x2.b _ _ s))), h1, q _ B2 H2 (x1.trans x2) h2⟩
theorem ev_min2 {i j : Int} (ha : EvD G ta T rpInt i) (hb : EvD G tb T rpInt j) : EvD G (tCB (fun xs H Q => ∃ i j, xs = [.int i, .int j] ∧ Q (.int (if j < i then j else i)) H) (tCons ta (tCons tb tNil))) T rpInt (if j < i then j else i) := fun B H σ f Q q =>
  ha B H σ f _ fun v B1 H1 x1 e1 => hb B1 H1 σ (f.ext x1) _ fun u B2 H2 x2 e2 => ⟨i, j, by rw [show v = .int i from e1, show u = .int j from e2], q _ B2 H2 (x1.trans x2) rfl⟩
theorem ev_max2 {i j : Int} (ha : EvD G ta T rpInt i) (hb : EvD G tb T rpInt j) : EvD G (tCB (fun xs H Q => ∃ i j, xs = [.int i, .int j] ∧ Q (.int (if j > i then j else i)) H) (tCons ta (tCons tb tNil))) T rpInt (if j > i then j else i) := fun B H σ f Q q =>
  ha B H σ f _ fun v B1 H1 x1 e1 => hb B1 H1 σ (f.ext x1) _ fun u B2 H2 x2 e2 => ⟨i, j, by rw [show v = .int i from e1, show u = .int j from e2], q _ B2 H2 (x1.trans x2) rfl⟩
theorem ex_arg1 {sp : Sp} {dvs : List V} {E' : XK} {tr : TA} {W : Hp → Prop} (h : EvX G te T W) : EvX G (tCall sp dvs E' (tCons te tr)) T W := fun B H σ fr w Q => h B H σ fr w _
end
/-! ### rows sorted, plainly -/
def ins1 (x : Int) : List Int → List Int
  | [] => [x]
  | y :: r => if x ≤ y then x :: y :: r else y :: ins1 x r
def isort : List Int → List Int
  | [] => []
  | x :: r => ins1 x (isort r)
theorem ins1_perm (x : Int) : ∀ l, (ins1 x l).Perm (x :: l)
  | [] => List.Perm.refl _
  | y :: r => by
    unfold ins1
    split
    · exact List.Perm.refl _
    · exact ((ins1_perm x r).cons y).trans (List.Perm.swap x y r)
theorem isort_perm : ∀ l, (isort l).Perm l
  | [] => List.Perm.refl _
  | x :: r => (ins1_perm x (isort r)).trans ((isort_perm r).cons x)
theorem ins1_le (x : Int) : ∀ l : List Int, l.Pairwise (· ≤ ·) → (ins1 x l).Pairwise (· ≤ ·)
  | [], _ => List.pairwise_singleton _ _
  | y :: r, h => by
    have h1 := List.pairwise_cons.mp h
    unfold ins1
    split
    · rename_i hxy
      refine List.pairwise_cons.mpr ⟨fun z hz => ?_, h⟩
      rcases List.mem_cons.mp hz with rfl | hz
      · exact hxy
      · exact Int.le_trans hxy (h1.1 z hz)
    · rename_i hxy
      refine List.pairwise_cons.mpr ⟨fun z hz => ?_, ins1_le x r h1.2⟩
      rcases List.mem_cons.mp ((ins1_perm x r).mem_iff.mp hz) with rfl | hz
      · omega
      · exact h1.1 z hz
theorem isort_le : ∀ l : List Int, (isort l).Pairwise (· ≤ ·)
  | [] => List.Pairwise.nil
  | x :: r => ins1_le x _ (isort_le r)
theorem isort_is {l m : List Int} (hp : m.Perm l) (hs : m.Pairwise (· ≤ ·)) : m = isort l :=
  List.Perm.eq_of_pairwise (le := fun a b : Int => a ≤ b) (fun a b _ _ h1 h2 => Int.le_antisymm h1 h2) hs (isort_le l) (hp.trans (isort_perm l).symm)
end DL

set_option Elab.async false
set_option linter.all false
set_option maxRecDepth 100000
set_option maxHeartbeats 4000000
/-! a law's own layer, eleventh part: owned things moved -/
namespace DL
open PySem PySem.Spec PyProof.Rows L2
section
variable {G : Cn} {T : List Ty} {D : Ends} {k : L2.St → Hp → Prop} {α β : Type} {r : Rp α} {r' : Rp β}
/-- a name takes over what another one owns -/
theorem g_move {i j : Nat} {w : Ow α} {a : α} (hj : T[j]? = some (.ow w a)) (hij : i ≠ j) (hi : i < T.length) (q : Goes G ((T.set j .any).set i (.ow w a)) D.nx) : Goes G T (tAsg (tVar j) (gName i) D) := fun B H σ f => by
  obtain ⟨own, o0, sl⟩ := f.sl
  obtain ⟨s, e1, v, e2, z⟩ := sl j _ hj
  subst e2
  refine ⟨v, e1, q B H (σ.set i (some v)) ⟨f.bh, f.b0, f.h0, f.n0, by rw [List.length_set, List.length_set, List.length_set]; exact f.len, fun p => if own p = some j then some i else if own p = some i then none else own p, fun p n h => ?_, fun n t e => ?_⟩⟩
  · dsimp only at h
    split at h
    · rename_i h1; exact o0 p j h1
    · split at h
      · cases h
      · exact o0 p n h
  · by_cases hn : n = i
    · subst hn
      rw [List.getElem?_set_self (by rw [List.length_set]; exact hi)] at e
      cases e
      refine ⟨some v, List.getElem?_set_self (by rw [f.len]; exact hi), v, rfl, w.fr z (Same.refl _) fun p hp _ => ⟨?_, rfl, rfl⟩⟩
      show (if own p = some j then some n else _) = some n
      rw [if_pos hp]
    · rw [List.getElem?_set_ne (Ne.symm hn)] at e
      rw [List.getElem?_set_ne (Ne.symm hn)]
      by_cases hnj : n = j
      · subst hnj
        have hjl : n < T.length := (List.getElem?_eq_some_iff.mp hj).1
        rw [List.getElem?_set_self hjl] at e
        cases e
        exact ⟨some v, e1, trivial⟩
      · rw [List.getElem?_set_ne (Ne.symm hnj)] at e
        obtain ⟨s, e3, z3⟩ := sl n t e
        refine ⟨s, e3, ?_⟩
        have hF : ∀ p, own p = some n → (if own p = some j then some i else if own p = some i then none else own p) = some n := fun p hp => by
          rw [if_neg (by rw [hp]; intro z; cases z; exact hnj rfl), if_neg (by rw [hp]; intro z; cases z; exact hn rfl)]
          exact hp
        cases t with
        | im r a => exact z3
        | ow r a =>
          obtain ⟨u, e4, z4⟩ := z3
          exact ⟨u, e4, r.fr z4 (Same.refl _) fun p hp _ => ⟨hF p hp, rfl, rfl⟩⟩
        | un => exact z3
        | any => trivial
theorem q_move {tu : TS} {i j : Nat} {w : Ow α} {a : α} (hj : T[j]? = some (.ow w a)) (hij : i ≠ j) (hi : i < T.length) (q : Goes G ((T.set j .any).set i (.ow w a)) (tu D)) : Goes G T (tSeq (tAsg (tVar j) (gName i)) tu D) := g_move (D := { D with nx := tu D }) hj hij hi q
/-- an owned list seen as one of another kind -/
theorem g_mapM {i : Nat} {a : ML α} {b : ML β} (hi : T[i]? = some (.ow (@owML α r) a)) (e : ∀ {K : PySem.W.Frag} {B : Hp} {vs : List V}, Paired (r.rp K B) a.l vs → Paired (r'.rp K B) b.l vs) (q : Goes G (T.set i (.ow (@owML β r') b)) k) : Goes G T k := fun B H σ f => q B H σ (by
  obtain ⟨own, o0, sl⟩ := f.sl
  refine ⟨f.bh, f.b0, f.h0, f.n0, by rw [List.length_set]; exact f.len, own, o0, fun j t h => ?_⟩
  by_cases hj : i = j
  · subst hj
    have hl : i < T.length := (List.getElem?_eq_some_iff.mp hi).1
    rw [List.getElem?_set_self hl] at h
    cases h
    obtain ⟨s, e1, v, e2, p, vs, h1, h2, h3, h4, h5⟩ := sl i _ hi
    exact ⟨s, e1, v, e2, p, vs, h1, h2, h3, h4, e h5⟩
  · rw [List.getElem?_set_ne hj] at h
    exact sl j t h)
theorem g_toDM [ToD α] {i : Nat} {a : ML α} (hi : T[i]? = some (.ow (@owML α r) a)) (q : Goes G (T.set i (.ow (@owML DL.D rpD) ⟨a.l.map ToD.d⟩)) k) : Goes G T k := g_mapM (b := ⟨a.l.map ToD.d⟩) hi (fun h => paired_map (fun _ _ z => ToD.rp z) h) q
variable {ta te : TE} {tr : TA} {ι : Type} {As : ι → List Ty} {pre : ι → Prop} {f : ι → Except Addr β} {x : ι} {E : XK}
/-- a call that reads what is owned: what it gives is read as it then stands -/
theorem ev_callH {b : β} (ha : EvAH G tr T (As x)) (hp : pre x) (hf : f x = .ok b) : EvH G (tCall (SpX G.K As pre r' f) [] E tr) T r' b := fun B H σ fr Q q => ha B H σ fr _ fun vs B1 H1 x1 ok => by
  rw [List.append_nil]
  exact ⟨H1, x, Same.refl _, hp, ok, fun b' e v B' H' y z => q v B1 H' (x1.trans ⟨Same.refl _, y.h, x1.s.trans y.h, fun _ _ => rfl⟩) (by rw [hf] at e; cases e; exact r'.mono y.s z), fun C e => by rw [hf] at e; cases e⟩
theorem EvN.toDs [ToD α] {xs : List α} (h : EvN G te T r xs) : EvN G te T rpD (xs.map ToD.d) := fun B H σ f Q q => h B H σ f Q fun p vs B' H' x n1 n2 e z => q p vs B' H' x n1 n2 e (paired_map (fun _ _ y => ToD.rp y) z)
/-- a try's body told as it stands -/
theorem q_try {tb : Ends → TS} {tu : TS} (h : Goes G T (tb { D with nx := tu D } { D with nx := tu D })) : Goes G T (tSeq (fun D σ H => tb D D σ H) tu D) := h
theorem atI_getD {α : Type} {l : List α} {i : Int} {d : α} (h0 : 0 ≤ i) (h : i < l.length) : atI l i = some (l.getD i.toNat d) := atI_toNat h0 (by
  have hl : i.toNat < l.length := by omega
  rw [List.getD_eq_getElem?_getD, List.getElem?_eq_getElem hl]
  rfl)
end
end DL

set_option Elab.async false
set_option linter.all false
set_option maxRecDepth 100000
set_option maxHeartbeats 4000000
/-! a law's own layer, twelfth part: a dict of whole numbers that is filled in place -/
namespace DL
open PySem PySem.Spec PyProof.Rows L2
/-- its keys in order; what stands at them is True -/
structure MS where
  ks : List Int
def dkv (ks : List Int) : List (Key × V) := ks.map fun i => (Sum.inl i, V.bl true)
instance owMS : Ow MS := ⟨fun K B H a v F => ∃ p, v = .ref p ∧ F p ∧ B p = none ∧ H p = some (.dK (dkv a.ks)), fun ⟨p, e, f, n, h⟩ sb k => by
  obtain ⟨k1, k2, k3⟩ := k p f (by rw [h]; intro z; cases z)
  exact ⟨p, e, k1, k3.trans n, k2.trans h⟩⟩
theorem valV_dkv (i : Int) : ∀ ks : List Int, valV (dkv ks) (Sum.inl i : Key) = if i ∈ ks then some (V.bl true) else none
  | [] => rfl
  | k :: ks => by
    by_cases h : k = i
    · subst h
      rw [if_pos List.mem_cons_self]
      exact valV_pos (p := ((Sum.inl k : Key), V.bl true)) rfl
    · have : valV (dkv (k :: ks)) (Sum.inl i : Key) = valV (dkv ks) (Sum.inl i : Key) := valV_neg (p := ((Sum.inl k : Key), V.bl true)) (fun z => h (Sum.inl.inj z))
      rw [this, valV_dkv i ks]
      by_cases hm : i ∈ ks
      · rw [if_pos hm, if_pos (List.mem_cons_of_mem _ hm)]
      · rw [if_neg hm, if_neg (fun z => (List.mem_cons.mp z).elim (fun e => h e.symm) hm)]
section
variable {G : Cn} {T : List Ty} {D : Ends} {te ta tb : TE} {tu : TS}
theorem g_newD {i : Nat} (q : Goes G (T.set i (.ow owMS ⟨[]⟩)) D.nx) : Goes G T (tAsg tDNewK (gName i) D) := fun B H σ f p hp => by
  have x1 := upd_extN (o := .dK []) f.bh hp
  exact q B _ _ (f.set_ow i owMS (F := fun q => q = p) x1.s x1.b (fun q hq => by rw [hq]; exact hp) (fun q hq => ⟨by
    cases hH : H q with
    | none => exact absurd hH hq
    | some o => exact x1.h q o hH, x1.n q hq⟩) ⟨p, rfl, rfl, f.bh.free hp, upd_same⟩)
theorem q_newD {i : Nat} (q : Goes G (T.set i (.ow owMS ⟨[]⟩)) (tu D)) : Goes G T (tSeq (tAsg tDNewK (gName i)) tu D) := g_newD (D := { D with nx := tu D }) q
theorem ev_dnin {d : Nat} {a : MS} {i : Int} (hd : T[d]? = some (.ow owMS a)) (h : EvD G te T rpInt i) : EvD G (tDNotIn te (tVar d)) T rpBool (!decide (i ∈ a.ks)) := fun B H σ f Q q =>
  h B H σ f _ fun v B1 H1 x1 e1 => by
    obtain ⟨w, F, e2, ⟨p, rfl, hF, hB, hH⟩, _⟩ := (f.ext x1).mut hd
    refine ⟨.ref p, e2, p, valV (dkv a.ks) (.inl i), rfl, ?_, ?_⟩
    · rw [show v = kV (.inl i) from e1]
      exact DGet.k hH
    · rw [valV_dkv]
      refine q _ B1 H1 x1 ?_
      show V.bl _ = V.bl _
      by_cases hm : i ∈ a.ks
      · rw [if_pos hm, decide_eq_true hm] <;> rfl
      · rw [if_neg hm, decide_eq_false hm] <;> rfl
theorem g_dput {d : Nat} {a : MS} {i : Int} (hd : T[d]? = some (.ow owMS a)) (hv : EvD G ta T rpBool true) (h : EvD G tb T rpInt i) (hn : i ∉ a.ks) (hz : a.ks.length < 100000) (q : Goes G (T.set d (.ow owMS ⟨a.ks ++ [i]⟩)) D.nx) :
    Goes G T (sDPut (tVar d) tb ta D) := fun B H σ f =>
  hv B H σ f _ fun v B1 H1 x1 e1 => by
    obtain ⟨w, F0, e2, ⟨p, rfl, hF0, hB0, hH0⟩, _⟩ := (f.ext x1).mut hd
    refine ⟨.ref p, e2, h B1 H1 σ (f.ext x1) _ fun u B2 H2 x2 e3 => ?_⟩
    obtain ⟨w, F, e4, ⟨p', hp', hF, hB, hH⟩, k⟩ := ((f.ext x1).ext x2).mut hd
    have hpp : p = p' := by
      rw [hp', e2] at e4
      cases e4
      rfl
    subst hpp
    have hval : valV (dkv a.ks) (Sum.inl i : Key) = none := by rw [valV_dkv, if_neg hn]
    refine ⟨p, upd H2 p (.dK (putK (dkv a.ks) (.inl i) (.bl true))), rfl, ?_, ?_⟩
    · rw [show u = kV (.inl i) from e3, show v = .bl true from e1]
      exact DPut.k hH (by unfold dkv; rw [List.length_map]; exact sz_lt hz)
    · refine q B2 _ σ (k MS owMS (MS.mk (a.ks ++ [i])) B2 _ (fun q o hq => ?_) (Same.refl _) (fun _ _ => rfl) (fun q hq hnF => ?_) ⟨p, hp', hF, hB, ?_⟩)
      · rw [upd_ne (ne_of_none hq hB)]
        exact x2.s q o hq
      · rw [upd_ne fun z => hnF (by rw [z]; exact hF)]
      · rw [putK_new _ hval, upd_same]
        unfold dkv
        rw [List.map_append] <;> rfl
theorem q_dput {d : Nat} {a : MS} {i : Int} (hd : T[d]? = some (.ow owMS a)) (hv : EvD G ta T rpBool true) (h : EvD G tb T rpInt i) (hn : i ∉ a.ks) (hz : a.ks.length < 100000) (q : Goes G (T.set d (.ow owMS ⟨a.ks ++ [i]⟩)) (tu D)) :
    Goes G T (tSeq (sDPut (tVar d) tb ta) tu D) := g_dput (D := { D with nx := tu D }) hd hv h hn hz q
end
end DL

set_option Elab.async false
set_option linter.all false
set_option maxRecDepth 100000
set_option maxHeartbeats 4000000
/-! a law's own layer, thirteenth part: a def that takes over an owned list -/
namespace DL
open PySem PySem.Spec PyProof.Rows L2
def delH (H : Hp) (p : Addr) : Hp := fun q => if q = p then none else H q
theorem delH_ne {H : Hp} {p q : Addr} (h : q ≠ p) : delH H p q = H q := if_neg h
theorem delH_some {H : Hp} {p q : Addr} {o : HO} (h : delH H p q = some o) : q ≠ p ∧ H q = some o := by
  unfold delH at h
  split at h
  · cases h
  · rename_i hq; exact ⟨hq, h⟩
@[reducible] def rpAny : Rp Unit := ⟨fun _ _ _ _ => True, fun _ h => h⟩
/-- f(xs, y), xs an owned list that is given away: what comes is told, and xs is told no more -/
def SpO (K : PySem.W.Frag) {α γ β : Type} (r1 : Rp α) (r2 : Rp γ) (pre : List α × γ → Prop) (r : Rp β) (f : List α × γ → β) : Sp := fun vs H Q E => ∃ (B : Hp) (x : List α × γ) (p : Addr) (ws : List V) (v : V), Same B H ∧ pre x ∧ vs = [.ref p, v] ∧ B p = none ∧ H p = some (.lst ws) ∧ Paired (r1.rp K B) x.1 ws ∧ r2.rp K B x.2 v ∧
  ∀ u B' H', Ext B (delH H p) B' H' → r.rp K B' (f x) u → Q u H'
theorem Fr.entryO {K : PySem.W.Frag} {B H : Hp} {α γ : Type} {r1 : Rp α} {r2 : Rp γ} {l : List α} {a : γ} {p : Addr} {ws : List V} {v : V} {N : List Str} (hN : 2 ≤ N.length) (s : Same B H) (hB : B p = none) (hH : H p = some (.lst ws)) (hw : Paired (r1.rp K B) l ws) (hv : r2.rp K B a v) :
    Fr ⟨K, B, delH H p⟩ B H (L2.start N [.ref p, v]) ([.ow (@owML α r1) ⟨l⟩, .im r2 a] ++ List.replicate (N.length - 2) .un) := by
  have f := Fr.entry (K := K) (B := B) (H := H) (vs := [.ref p, v]) (As := [.im rpAny (), .im r2 a]) (N := N) s ⟨trivial, hv, trivial⟩
  obtain ⟨own, o0, sl⟩ := f.sl
  refine ⟨s, Same.refl _, fun q o h => (delH_some h).2, fun q h => rfl, by rw [f.len]; rfl, fun q => if q = p then some 0 else none, fun q i e => ?_, fun i t e => ?_⟩
  · dsimp only at e
    split at e
    · rename_i hq; subst hq; exact if_pos rfl
    · cases e
  · cases i with
    | zero =>
      cases e
      obtain ⟨z, e1, _⟩ := sl 0 _ rfl
      have e2 : (L2.start N [.ref p, v])[0]? = some (some (.ref p)) := rfl
      exact ⟨_, e2, .ref p, rfl, p, ws, rfl, if_pos rfl, hB, hH, hw⟩
    | succ j =>
      obtain ⟨z, e1, q⟩ := sl (j + 1) t e
      refine ⟨z, e1, ?_⟩
      have hm : t ∈ ((.im r2 a) :: List.replicate (N.length - 2) Ty.un) := List.mem_of_getElem? (i := j) e
      rcases List.mem_cons.mp hm with rfl | hm
      · exact q
      · rw [List.eq_of_mem_replicate hm] at q ⊢
        exact q
section
variable {P : Program} {w : World} {K : PySem.W.Frag} {mg : Str → Option Value} {base : Heap} {x qual : Str} {st : Stmt} {fa : Addr} {fd : FuncData} {N ps : List Str} {k : Nat} {α β γ : Type} {r1 : Rp α} {r2 : Rp γ} {r : Rp β} {pre : List α × γ → Prop} {f : List α × γ → β}
theorem def_okO (F : Fun K x qual st fa fd) (S : FnScope N ps (defScope st)) (len : ps.length = 2) (hN : 2 ≤ N.length)
    (hbody : ∀ (cdv : Value) (A : Around) (outer : List Env) (s : Shared) (H : Hp) (E : XK), Room k (A.deeper (envOfC qual (defScope st) s.heap.objs.size fa cdv)) →
      ∃ t, PSs (cxOf (L2.CX P w) P w K mg base N qual (defScope st) fa cdv A outer s H E) (defBody st) t ∧ ∀ (B H1 : Hp) (x : List α × γ) (Q : VK), pre x → RetD ⟨K, B, H1⟩ Q r (f x) →
        Goes ⟨K, B, H1⟩ ([.ow (@owML α r1) ⟨x.1⟩, .im r2 x.2] ++ List.replicate (N.length - 2) .un) (t { nx := fun _ H' => Q .non H', rt := Q })) :
    FnOk P w K mg base (L2.CX P w) (k + 1) fa fd ps (SpO K r1 r2 pre r f) := by
  refine F.okX S (fun vs H Q E h => ?_) (fun cdv A outer s H vs Q E hr h => ?_)
  · obtain ⟨B, x, p, ws, v, _, _, rfl, _⟩ := h
    exact len.symm
  · obtain ⟨B, x, p, ws, v, sB, hp, rfl, hB, hH, hw, hv, h1⟩ := h
    obtain ⟨t, ht, hg⟩ := hbody cdv A outer s H E hr
    exact ⟨t, ht, hg B (delH H p) x Q hp (fun u B' H' y z => h1 u B' H' y z) B H _ (Fr.entryO hN sB hB hH hw hv)⟩
end
section
variable {G : Cn} {T : List Ty} {D : Ends} {te : TE} {tu : TS} {α β γ : Type} {r1 : Rp α} {r2 : Rp γ} {r : Rp β} {pre : List α × γ → Prop} {f : List α × γ → β} {E : XK}
theorem g_callO {i j : Nat} {l : List α} {a : γ} {b : β} (hj : T[j]? = some (.ow (@owML α r1) ⟨l⟩)) (h : EvD G te T r2 a) (hp : pre (l, a)) (hf : f (l, a) = b) (q : Goes G ((T.set j .any).set i (.im r b)) D.nx) :
    Goes G T (tAsg (tCall (SpO G.K r1 r2 pre r f) [] E (tCons (tVar j) (tCons te tNil))) (gName i) D) := fun B H σ fr => by
  obtain ⟨own, o0, sl⟩ := fr.sl
  obtain ⟨s, e1, v, e2, p, ws, rfl, hF, hB, hH, hw⟩ := sl j _ hj
  subst e2
  refine ⟨.ref p, e1, h B H σ fr _ fun u B1 H1 x1 hu => ?_⟩
  have fr1 := fr.ext x1
  refine ⟨B1, (l, a), p, ws, u, x1.s, hp, rfl, x1.none hH hB, x1.h _ _ hH, paired_mono x1.b hw, hu, fun z B' H' y hz => ?_⟩
  rw [hf] at hz
  refine q B' H' (σ.set i (some z)) (Fr.set_im ?_ i r hz)
  have hp0 : G.H0 p = none := o0 p j hF
  have keep : ∀ q, q ≠ p → ∀ o, H1 q = some o → H' q = some o := fun q hq o ho => y.h q o (by rw [delH_ne hq]; exact ho)
  refine ⟨y.s, fr1.b0.trans y.b, fun q o ho => ?_, fun q hq => ?_, by rw [List.length_set]; exact fr.len, fun q => if q = p then none else own q, fun q n hn => ?_, fun n t e => ?_⟩
  · have hq : q ≠ p := fun z => by subst z; rw [hp0] at ho; cases ho
    exact keep q hq o (fr1.h0 q o ho)
  · have hqp : q ≠ p := fun z => by subst z; exact hq hp0
    have hq1 : H1 q ≠ none := fun z => hq (fr1.h0.free z)
    rw [y.n q (by rw [delH_ne hqp]; exact hq1), fr1.n0 q hq]
  · dsimp only at hn
    split at hn
    · cases hn
    · exact o0 q n hn
  · by_cases hnj : n = j
    · subst hnj
      have hl : n < T.length := (List.getElem?_eq_some_iff.mp hj).1
      rw [List.getElem?_set_self hl] at e
      cases e
      exact ⟨_, e1, trivial⟩
    · rw [List.getElem?_set_ne (Ne.symm hnj)] at e
      obtain ⟨s2, e3, z3⟩ := sl n t e
      have z4 := z3.ext x1
      refine ⟨s2, e3, ?_⟩
      cases t with
      | im r a => obtain ⟨v, ev, q⟩ := z4; exact ⟨v, ev, r.mono y.b q⟩
      | ow r a =>
        obtain ⟨v, ev, q⟩ := z4
        refine ⟨v, ev, r.fr q y.b fun q hq hn => ?_⟩
        have hqp : q ≠ p := fun z => by subst z; rw [hF] at hq; exact hnj (Option.some.inj hq).symm
        refine ⟨by show (if q = p then none else own q) = some n; rw [if_neg hqp]; exact hq, ?_, y.n q (by rw [delH_ne hqp]; exact hn)⟩
        cases hH1 : H1 q with
        | none => exact absurd hH1 hn
        | some o => exact keep q hqp o hH1
      | un => exact z4
      | any => trivial
theorem q_callO {i j : Nat} {l : List α} {a : γ} {b : β} (hj : T[j]? = some (.ow (@owML α r1) ⟨l⟩)) (h : EvD G te T r2 a) (hp : pre (l, a)) (hf : f (l, a) = b) (q : Goes G ((T.set j .any).set i (.im r b)) (tu D)) :
    Goes G T (tSeq (tAsg (tCall (SpO G.K r1 r2 pre r f) [] E (tCons (tVar j) (tCons te tNil))) (gName i)) tu D) := g_callO (D := { D with nx := tu D }) hj h hp hf q
end
end DL

set_option Elab.async false
set_option linter.all false
set_option maxRecDepth 100000
set_option maxHeartbeats 4000000
/-! a law's own layer, fourteenth part: xs[lo::2] -/
namespace DL
open PySem PySem.Spec PyProof.Rows L2
def ixK (lo : Option Int) (n : Nat) : List Nat := sliceRange (sliceBounds lo none (some 2) n).1 (sliceBounds lo none (some 2) n).2.1 (sliceBounds lo none (some 2) n).2.2
def pickK {α : Type} (xs : List α) (lo : Option Int) : List α := (ixK lo xs.length).filterMap (xs[·]?)
theorem ixK_len (lo : Option Int) (n : Nat) : (ixK lo n).length ≤ n := by
  have h : ∀ a : Int, 0 ≤ a → (sliceRange a (n : Int) 2).length ≤ n := fun a ha => by
    unfold sliceRange
    rw [List.length_map, List.length_range]
    rw [if_pos (by decide)]
    split <;> omega
  unfold ixK
  cases lo with
  | none => exact h 0 (Int.le_refl _)
  | some i =>
    refine h _ ?_
    show 0 ≤ max 0 (min _ _)
    exact Int.le_max_left _ _
theorem pick_rel {α β : Type} {F : α → β → Prop} {xs : List α} {ys : List β} (h : Paired F xs ys) : ∀ is : List Nat, Paired F (is.filterMap (xs[·]?)) (is.filterMap (ys[·]?))
  | [] => .nil
  | i :: is => by
    have ih := pick_rel h is
    have hl := Paired.length h
    rw [List.filterMap_cons, List.filterMap_cons]
    cases hx : xs[i]? with
    | none =>
      have : ys[i]? = none := by
        rw [List.getElem?_eq_none_iff] at hx ⊢
        omega
      rw [this]
      exact ih
    | some x =>
      obtain ⟨y, h1, h2⟩ := paired_get h hx
      rw [h1]
      exact .cons h2 ih
theorem pickK_rel {α β : Type} {F : α → β → Prop} {xs : List α} {ys : List β} (h : Paired F xs ys) (lo : Option Int) : Paired F (pickK xs lo) (pickK ys lo) := by
  unfold pickK
  rw [← Paired.length h]
  exact pick_rel h _
theorem pickK_len {α : Type} (xs : List α) (lo : Option Int) : (pickK xs lo).length ≤ xs.length := Nat.le_trans (List.length_filterMap_le _ _) (ixK_len lo xs.length)
/-- xs[lo::2] of a list: a new list -/
def rSlK (K : PySem.W.Frag) : V → Option Int → Hp → VK → Prop := fun x lo H Q => ∃ a xs, x = .ref a ∧ SqL K H a xs ∧ ∀ p, H p = none → Q (.ref p) (upd H p (.lst (pickK xs lo)))
def tSlK (K : PySem.W.Frag) (te : TE) (tl : TO) : TE := fun σ H Q => te σ H fun x H1 => tl σ H1 fun l H2 => rSlK K x l H2 Q
theorem pe_sliceK {X : Cx} (K : PySem.W.Frag) (hK : X.K = K) {e : Expr} {lo : Option Expr} {te : TE} {tl : TO} {p2 p3 pos : Pos} {j : Nat} (he : PE X e te) (hl : PO X lo tl) (h2 : PE X (.Constant (.int 2) j p3) (tC (.int 2))) : PE X (.Subscript e (.Slice lo none (some (.Constant (.int 2) j p3)) p2) pos) (tSlK K te tl) := by
  subst hK
  refine ⟨fun pins s σ H Q I h => ?_⟩
  refine Subscript_ (thn (he.run pins s σ H _ I h) fun v s1 ⟨x, H1, I1, r1, q1⟩ => ?_)
  refine wpAny_Slice (thn (hl.run pins s1 σ H1 _ I1 q1) fun vl s2 ⟨l, H2, I2, pl, q2⟩ => ?_)
  rw [evalPart_none]
  refine wpAny_pure ?_
  rw [evalPart_some]
  refine thn (h2.run pins s2 σ H2 (fun u H3 => u = .int 2 ∧ H3 = H2) I2 ⟨rfl, rfl⟩) fun vs s3 ⟨u, H3, I3, r3, q3, q4⟩ => ?_
  subst q3 q4
  obtain ⟨t, rfl⟩ := r3
  have I4 : Inv X pins σ H3 { s3 with heap := s3.heap.push { cls := .type "slice", data := .fields #[vl, .none, .int 2 t] } } := I3.kept (t' := s3.toks) fun b ob q => Heap.get?_push_of_some _ q
  obtain ⟨a, xs, rfl, hx, q⟩ := q2
  cases r1
  obtain ⟨its, r, ht, hz⟩ := I4.list hx
  have hlen := r.length
  show wpAny (model X.prog X.w) X.A (subscriptTail e (.Slice lo none (some (.Constant (.int 2) j p3)) p2) (.ref a) (.ref s3.heap.objs.size)) (EP X pins σ Q) X.xe { s3 with heap := s3.heap.push { cls := .type "slice", data := .fields #[vl, .none, .int 2 t] } }
  refine tail_any (ops := [.ref a, .ref s3.heap.objs.size]) ht.isList.typeIs slot_list_getitem.lookup ?_ (by with_unfolding_all rfl)
  refine wpAny_getItem_list_slice ht.isList (Heap.IsSliceOf.new ..) pl .none (.int 2 t) (by simp) ?_ (by rw [List.size_toArray] <;> omega)
  have e : slicePick its.toArray l none (some 2) = (pickK its l).toArray := by
    unfold slicePick pickK ixK
    rw [List.size_toArray]
    congr 1
    exact congrArg (fun f => List.filterMap f _) (funext fun i => by simp)
  rw [e]
  refine ⟨.ref _, _, I4.laid (t' := s3.toks) (o := .lst (pickK xs l)) (fun b ob q => Heap.get?_push_of_some _ q) (Nat.le_refl _) ?_, rfl, q _ (I4.hok.fresh (Nat.le_refl _))⟩
  exact ⟨Nat.le_trans (pickK_len xs l) hz, _, 0, pickK_rel r l, Heap.get?_push_size _ rfl⟩
section
variable {G : Cn} {T : List Ty} {te ta : TE} {α : Type} {r : Rp α}
theorem ev_sliceK {xs : List α} {tl : TO} {lo : Option Int} (h : EvC G te T r xs)
    (hl : ∀ B H σ, Fr G B H σ T → ∀ Q : Option Int → Hp → Prop, (∀ B' H', Ext B H B' H' → Q lo H') → tl σ H Q) : EvN G (tSlK G.K te tl) T r (pickK xs lo) := fun B H σ f Q q =>
  h B H σ f _ fun v B1 H1 x1 e1 => hl B1 H1 σ (f.ext x1) _ fun B2 H2 x2 => by
    obtain ⟨p, vs, rfl, s, z⟩ := e1.ext x2
    refine ⟨p, vs, rfl, s, fun l hl => ?_⟩
    have x3 := upd_extN (o := .lst (pickK vs lo)) x2.s hl
    exact q l _ B2 _ ((x1.trans x2).trans x3) (x1.h.free (x2.h.free hl)) (x2.s.free hl) upd_same (pickK_rel z lo)
variable {D : Ends} {tu : TS}
/-- extend by a list that stands -/
theorem g_extK {i : Nat} {a : ML α} {ys : List α} (hi : T[i]? = some (.ow (@owML α r) a)) (h : EvK G te T r ys) (hz : a.l.length + ys.length ≤ 100000) (q : Goes G (T.set i (.ow (@owML α r) ⟨a.l ++ ys⟩)) D.nx) :
    Goes G T (tDrop (tBM G.K "list" rExtend (tVar i) (tCons te tNil)) D) := fun B H σ f => by
  obtain ⟨p, vs, e1, e2, z, k⟩ := f.mutL hi
  refine ⟨_, e1, .inl ⟨rfl, vs, .inl (.inl e2)⟩, h B H σ f _ fun b ws B1 H1 x1 e w => ⟨p, b, vs, ws, rfl, rfl, x1.h _ _ e2, e, by rw [← Paired.length z, ← Paired.length w]; exact sz_of hz, ?_⟩⟩
  exact q B1 _ σ (k B1 H1 (vs ++ ws) (a.l ++ ys) x1 (paired_append (paired_mono x1.b z) w))
end
end DL

set_option Elab.async false
set_option linter.all false
set_option maxRecDepth 100000
set_option maxHeartbeats 4000000
/-! a law's own layer, fifteenth part: written dicts with numbers for keys, tuples of four, comparing by what is told as data -/
namespace DL
open PySem PySem.Spec PyProof.Rows L2
/-- a dict that is read alone, its keys whole numbers -/
structure DI (β : Type) where
  kv : List (Int × β)
def rpPr {β : Type} [Rp β] (K : PySem.W.Frag) (H : Hp) (a : Int × β) (b : Key × V) : Prop := b.1 = Sum.inl a.1 ∧ Rp.rp K H a.2 b.2
instance rpDI {β : Type} [Rp β] : Rp (DI β) := ⟨fun K H a v => ∃ p kvs, v = .ref p ∧ H p = some (.dK kvs) ∧ Paired (rpPr K H) a.kv kvs, fun e ⟨p, kvs, a, b, c⟩ => ⟨p, kvs, a, e _ _ b, Paired.mapP c fun _ _ z => ⟨z.1, Rp.mono e z.2⟩⟩⟩
def lookI {β : Type} (i : Int) : List (Int × β) → Option β
  | [] => none
  | (k, b) :: r => if k = i then some b else lookI i r
theorem valV_look {β : Type} [Rp β] {K : PySem.W.Frag} {H : Hp} {i : Int} {b : β} : ∀ {kv : List (Int × β)} {kvs : List (Key × V)}, Paired (rpPr K H) kv kvs → lookI i kv = some b → ∃ v, valV kvs (Sum.inl i : Key) = some v ∧ Rp.rp K H b v
  | _, _, .nil, e => by cases e
  | (k, c) :: kv, (k', v) :: kvs, .cons ⟨h1, h2⟩ t, e => by
    have h1 : k' = Sum.inl k := h1
    by_cases hk : k = i
    · have e : (if k = i then some c else lookI i kv) = some b := e
      rw [if_pos hk] at e
      cases e
      exact ⟨v, by subst hk h1; exact valV_pos (p := ((Sum.inl k : Key), v)) rfl, h2⟩
    · have e : (if k = i then some c else lookI i kv) = some b := e
      rw [if_neg hk] at e
      obtain ⟨u, e1, e2⟩ := valV_look t e
      exact ⟨u, by subst h1; exact (valV_neg (p := ((Sum.inl k : Key), v)) (fun z => hk (Sum.inl.inj z))).trans e1, e2⟩
theorem valV_none {k : Key} : ∀ {kvs : List (Key × V)}, k ∉ kvs.map (·.1) → valV kvs k = none
  | [], _ => rfl
  | (k', v) :: kvs, h => by
    rw [List.map_cons] at h
    exact (valV_neg (p := (k', v)) (fun z => h (by rw [← z]; exact List.mem_cons_self))).trans (valV_none fun z => h (List.mem_cons_of_mem _ z))
theorem mergeK_app : ∀ {more acc : List (Key × V)}, ((acc ++ more).map (·.1)).Nodup → mergeK acc more = acc ++ more
  | [], acc, _ => by rw [List.append_nil]; rfl
  | (k, v) :: more, acc, h => by
    show mergeK (putK acc k v) more = _
    have hk : k ∉ acc.map (·.1) := fun z => by
      rw [List.map_append, List.nodup_append] at h
      exact h.2.2 k z k (by rw [List.map_cons]; exact List.mem_cons_self) rfl
    rw [putK_new _ (valV_none hk), mergeK_app (by rw [List.append_assoc]; exact h), List.append_assoc]
    rfl
theorem pr_keys {β : Type} [Rp β] {K : PySem.W.Frag} {H : Hp} : ∀ {kv : List (Int × β)} {kvs : List (Key × V)}, Paired (rpPr K H) kv kvs → kvs.map (·.1) = kv.map fun a => (Sum.inl a.1 : Key)
  | _, _, .nil => rfl
  | (k, c) :: kv, (k', v) :: kvs, .cons h t => by
    rw [List.map_cons, List.map_cons, pr_keys t, show k' = Sum.inl k from h.1]
section
variable {G : Cn} {T : List Ty} {te ta tb tc td : TE} {α β γ δ : Type} {r : Rp α} {r' : Rp β} {r'' : Rp γ} {r3 : Rp δ}
def EvPs (G : Cn) (trs : List (TE × TE)) (T : List Ty) {β : Type} (r : Rp β) (kv : List (Int × β)) : Prop := ∀ B H σ, Fr G B H σ T → ∀ Q : List (V × V) → Hp → Prop, (∀ (kvs : List (Key × V)) B' H', Ext B H B' H' → Paired (rpPr G.K B') kv kvs → Q (kvs.map fun a => (kV a.1, a.2)) H') → tPairs trs σ H Q
theorem ep_nil : EvPs G [] T r [] := fun B H σ f Q q => q [] B H (Ext.refl f.bh) .nil
theorem ep_cons {trs : List (TE × TE)} {kv : List (Int × β)} {i : Int} {b : β} (hk : EvD G ta T rpInt i) (hv : EvD G tb T r' b) (hr : EvPs G trs T r' kv) : EvPs G ((ta, tb) :: trs) T r' ((i, b) :: kv) := fun B H σ f Q q =>
  hk B H σ f _ fun v B1 H1 x1 e1 => hv B1 H1 σ (f.ext x1) _ fun u B2 H2 x2 e2 => hr B2 H2 σ ((f.ext x1).ext x2) _ fun kvs B3 H3 x3 z => by
    have := q ((Sum.inl i, u) :: kvs) B3 H3 ((x1.trans x2).trans x3) (.cons ⟨rfl, r'.mono x3.b e2⟩ z)
    rw [show v = V.int i from e1]
    exact this
theorem ev_disp {trs : List (TE × TE)} {kv : List (Int × β)} (h : EvPs G trs T r' kv) (nd : (kv.map fun a => a.1).Nodup) (hl : kv.length ≤ 15) : EvD G (tDisp trs) T (@rpDI β r') ⟨kv⟩ := fun B H σ f Q q p hp => by
  have x1 := upd_extN (o := .dK []) f.bh hp
  refine h B _ σ (f.ext x1) _ fun kvs B2 H2 x2 z => ?_
  have hp2 : H2 p = some (.dK []) := x2.h _ _ upd_same
  have nB : B p = none := f.bh.free hp
  have nB2 : B2 p = none := (x2.n p (by rw [upd_same]; intro z; cases z)).trans nB
  have e : mergeK [] kvs = kvs := by
    refine mergeK_app (acc := []) ?_
    show (kvs.map (·.1)).Nodup
    rw [pr_keys z]
    have e1 : (kv.map fun a => (Sum.inl a.1 : Key)) = (kv.map fun a => a.1).map Sum.inl := by rw [List.map_map]; rfl
    rw [e1]
    have inj : ∀ l : List Int, l.Nodup → (l.map (Sum.inl : Int → Key)).Nodup := fun l hn => by
      rw [List.nodup_iff_pairwise_ne, List.pairwise_map]
      exact (List.nodup_iff_pairwise_ne.mp hn).imp fun h e => h (Sum.inl.inj e)
    exact inj _ nd
  refine ⟨hp2, kvs, rfl, by rw [← Paired.length z]; exact hl, ?_⟩
  rw [e]
  have x := x1.trans x2
  have sB : Same B2 (upd B2 p (.dK kvs)) := fun b o e => by
    rw [upd_ne (ne_of_none e nB2)]
    exact e
  refine q (.ref p) (upd B2 p (.dK kvs)) _ ⟨x.b.trans sB, fun b o e => ?_, fun b o e' => ?_, fun b hb => ?_⟩ ⟨p, kvs, rfl, upd_same, Paired.mapP z fun _ _ y => ⟨y.1, r'.mono sB y.2⟩⟩
  · rw [upd_ne (ne_of_none e hp)]
    exact x.h b o e
  · by_cases hb : b = p
    · subst hb; rw [upd_same] at e' ⊢; exact e'
    · rw [upd_ne hb] at e' ⊢; exact x.s b o e'
  · rw [upd_ne fun z => by subst z; exact hb hp]
    exact x.n b hb
theorem ev_dgetI {d : DI β} {i : Int} {b : β} (hd : EvD G td T (@rpDI β r') d) (hk : EvD G ta T rpInt i) (e : lookI i d.kv = some b) : EvD G (tDGet td ta) T r' b := fun B H σ f Q q =>
  hd B H σ f _ fun v B1 H1 x1 e1 => hk B1 H1 σ (f.ext x1) _ fun u B2 H2 x2 e2 => by
    obtain ⟨p, kvs, rfl, hp, z⟩ := (@rpDI β r').mono x2.b e1
    obtain ⟨w, e3, e4⟩ := valV_look z e
    refine ⟨p, w, rfl, ?_, q w B2 H2 (x1.trans x2) e4⟩
    rw [show u = kV (.inl i) from e2, ← e3]
    exact DGet.k (x2.s _ _ hp)
theorem ev_quad {a : α} {b : β} {c : γ} {d : δ} (ha : EvD G ta T r a) (hb : EvD G tb T r' b) (hc : EvD G tc T r'' c) (hd : EvD G td T r3 d) : EvD G (tTup (tCons ta (tCons tb (tCons tc (tCons td tNil))))) T (@rpT4 α β γ δ r r' r'' r3) ⟨a, b, c, d⟩ := fun B H σ f Q q =>
  ha B H σ f _ fun v B1 H1 x1 e1 => hb B1 H1 σ (f.ext x1) _ fun u B2 H2 x2 e2 => hc B2 H2 σ ((f.ext x1).ext x2) _ fun w B3 H3 x3 e3 => hd B3 H3 σ (((f.ext x1).ext x2).ext x3) _ fun w' B4 H4 x4 e4 => ⟨by show 4 ≤ sizeLine; decide, fun p hp => by
    have x5 := upd_ext (o := .tup [v, u, w, w']) x4.s hp
    exact q _ _ _ ((((x1.trans x2).trans x3).trans x4).trans x5) ⟨p, v, u, w, w', rfl, upd_same, r.mono (((x2.b.trans x3.b).trans x4.b).trans x5.b) e1, r'.mono ((x3.b.trans x4.b).trans x5.b) e2, r''.mono (x4.b.trans x5.b) e3, r3.mono x5.b e4⟩⟩
/-! compared as data, by what the two are told as -/
/-- a kind's things as data -/
structure PdF (α : Type) (r : Rp α) where
  pd : α → PyData
  dp : ∀ {K : PySem.W.Frag} {H : Hp} {a : α} {v : V}, r.rp K H a v → Dp K H v (pd a)
theorem ev_eqX (p : PdF α r) {a b : α} (ha : EvH G ta T r a) (hb : EvH G tb T r b) (sa : SeqAt.shaped (p.pd a) = true) (sb : SeqAt.shaped (p.pd b) = true) : EvD G (tOp (rEqD G.K) ta tb) T rpBool (PyData.eqv (p.pd a) (p.pd b)) := fun B H σ f Q q =>
  ha B H σ f _ fun v B1 H1 x1 e1 => hb B1 H1 σ (f.ext x1) _ fun u B2 H2 x2 e2 => ⟨_, _, p.dp (r.mono x2.h e1), p.dp e2, sa, sb, q _ B2 H2 (x1.trans x2) rfl⟩
theorem ev_neX (p : PdF α r) {a b : α} (ha : EvH G ta T r a) (hb : EvH G tb T r b) (sa : SeqAt.shaped (p.pd a) = true) (sb : SeqAt.shaped (p.pd b) = true) : EvD G (tOp (rNeD G.K) ta tb) T rpBool (!PyData.eqv (p.pd a) (p.pd b)) := fun B H σ f Q q =>
  ha B H σ f _ fun v B1 H1 x1 e1 => hb B1 H1 σ (f.ext x1) _ fun u B2 H2 x2 e2 => ⟨_, _, p.dp (r.mono x2.h e1), p.dp e2, sa, sb, q _ B2 H2 (x1.trans x2) rfl⟩
/-- the same thing twice -/
theorem ev_eqS1 (p : PdF α r) {a : α} (ha : EvH G ta T r a) (hb : EvH G tb T r a) (sa : SeqAt.shaped (p.pd a) = true) (he : PyData.eqv (p.pd a) (p.pd a) = true) : EvD G (tOp (rEqD G.K) ta tb) T rpBool true := (ev_eqX p ha hb sa sa).is he
theorem ev_neS1 (p : PdF α r) {a : α} (ha : EvH G ta T r a) (hb : EvH G tb T r a) (sa : SeqAt.shaped (p.pd a) = true) (he : PyData.eqv (p.pd a) (p.pd a) = true) : EvD G (tOp (rNeD G.K) ta tb) T rpBool false := (ev_neX p ha hb sa sa).is (by rw [he]; rfl)
/-! two lists side by side -/
theorem ei_zip {xs : List α} {ys : List β} (h1 : EvD G ta T (@rpList α r) xs) (h2 : EvD G tb T (@rpList β r') ys) : EvI G (iZip G.K (tCons ta (tCons tb tNil))) T (@rpPair α β r r') (xs.zip ys) := fun B H σ f R q => h1 B H σ f _ fun v0 B0 H0 x0 e0 => h2 B0 H0 σ (f.ext x0) _ fun u B1 H1 x1 e1 => by
  obtain ⟨p, vs, rfl, hp, z⟩ := (@rpList α r).mono x1.b e0
  obtain ⟨p', ws, rfl, hp', z'⟩ := e1
  have sq : ∀ B H, Same B1 B → Same B H → SqL G.K H p vs := fun B H a b => .inl (.inl (b _ _ (a _ _ hp)))
  have sq' : ∀ B H, Same B1 B → Same B H → SqL G.K H p' ws := fun B H a b => .inl (.inl (b _ _ (a _ _ hp')))
  have l1 := Paired.length z
  have l2 := Paired.length z'
  have zg : ∀ {i : Nat} {x : α × β}, (xs.zip ys)[i]? = some x → xs[i]? = some x.1 ∧ ys[i]? = some x.2 := fun {i x} e => by
    rw [List.getElem?_zip_eq_some] at e
    exact e
  refine ⟨p, p', vs, ws, rfl, .inl (.inl (x1.s _ _ hp)), .inl (.inl (x1.s _ _ hp')), q _ B1 H1 (x0.trans x1) ⟨fun B H i x a b e => ?_, fun B H a b => ⟨vs, ws, sq B H a b, sq' B H a b, by rw [List.length_zip]; omega⟩, fun B H i x v H' a b e y => ?_⟩⟩
  · obtain ⟨y1, g1, _⟩ := paired_get z (zg e).1
    obtain ⟨y2, g2, _⟩ := paired_get z' (zg e).2
    exact ⟨vs, ws, y1, y2, sq B H a b, sq' B H a b, g1, g2⟩
  · obtain ⟨t, u, w, rfl, nt, rfl, y1, y2⟩ := y
    obtain ⟨c1, g1, r1⟩ := paired_get z (zg e).1
    obtain ⟨c2, g2, r2⟩ := paired_get z' (zg e).2
    have e1 := Option.some.inj ((y1 vs (sq B _ a b)).symm.trans g1)
    have e2 := Option.some.inj ((y2 ws (sq' B _ a b)).symm.trans g2)
    subst e1 e2
    have x3 := upd_ext (o := .tup [u, w]) b nt
    exact ⟨_, x3, t, u, w, rfl, upd_same, r.mono (a.trans x3.b) r1, r'.mono (a.trans x3.b) r2⟩
end
end DL

set_option Elab.async false
set_option linter.all false
set_option maxRecDepth 100000
set_option maxHeartbeats 4000000
/-! a law's own layer, sixteenth part: a tuple of two lists that are changed in place -/
namespace DL
open PySem PySem.Spec PyProof.Rows L2
structure M2 (α : Type) where
  a : List α
  b : List α
instance owM2 {α : Type} [Rp α] : Ow (M2 α) := ⟨fun K B H x v F => ∃ t p q vs ws, v = .ref t ∧ F t ∧ F p ∧ F q ∧ p ≠ q ∧ B t = none ∧ B p = none ∧ B q = none ∧ H t = some (.tup [.ref p, .ref q]) ∧ H p = some (.lst vs) ∧ H q = some (.lst ws) ∧ Paired (Rp.rp K B) x.a vs ∧ Paired (Rp.rp K B) x.b ws,
  fun {K B H B' H' a v F F'} ⟨t, p, q, vs, ws, e, f1, f2, f3, pq, b1, b2, b3, h1, h2, h3, r1, r2⟩ sb k => by
    obtain ⟨k1, k2, k3⟩ := k t f1 (by rw [h1]; intro z; cases z)
    obtain ⟨l1, l2, l3⟩ := k p f2 (by rw [h2]; intro z; cases z)
    obtain ⟨m1, m2, m3⟩ := k q f3 (by rw [h3]; intro z; cases z)
    exact ⟨t, p, q, vs, ws, e, k1, l1, m1, pq, k3.trans b1, l3.trans b2, m3.trans b3, k2.trans h1, l2.trans h2, m2.trans h3, paired_mono sb r1, paired_mono sb r2⟩⟩
section
variable {G : Cn} {T : List Ty} {te ta tb tc td : TE} {α β γ δ : Type} {r : Rp α} {r' : Rp β} {r'' : Rp γ} {r3 : Rp δ} {D : Ends} {tu : TS} {k : L2.St → Hp → Prop}
theorem g_newM2 {i : Nat} {xs ys : List α} (h1 : EvN G ta T r xs) (h2 : EvN G tb T r ys) (q : Goes G (T.set i (.ow (@owM2 α r) ⟨xs, ys⟩)) D.nx) : Goes G T (tAsg (tTup (tCons ta (tCons tb tNil))) (gName i) D) := fun B H σ f =>
  h1 B H σ f _ fun p vs B1 H1 x1 n1 n2 e1 z1 => h2 B1 H1 σ (f.ext x1) _ fun p' ws B2 H2 x2 m1 m2 e2 z2 => ⟨by show 2 ≤ sizeLine; decide, fun t ht => by
    have x3 := upd_extN (o := .tup [.ref p, .ref p']) x2.s ht
    have hpp : p ≠ p' := fun z => by rw [z] at e1; rw [m1] at e1; cases e1
    have hp2 : H2 p = some (.lst vs) := x2.h _ _ e1
    have tp : p ≠ t := fun z => by rw [z, ht] at hp2; cases hp2
    have tp' : p' ≠ t := fun z => by rw [z, ht] at e2; cases e2
    have x := (x1.trans x2).trans x3
    have nH : H p' = none := x1.h.free m1
    have nt : H t = none := x1.h.free (x2.h.free ht)
    have nB : B2 p = none := x2.none e1 n2
    refine q B2 _ _ (f.set_ow i owM2 (F := fun q => q = t ∨ q = p ∨ q = p') x.s x.b (fun q hq => ?_) (fun q hq => ⟨?_, x.n q hq⟩) ⟨t, p, p', vs, ws, rfl, .inl rfl, .inr (.inl rfl), .inr (.inr rfl), hpp, x2.s.free ht, nB, m2, upd_same, (upd_ne tp).trans hp2, (upd_ne tp').trans e2, paired_mono x2.b z1, z2⟩)
    · rcases hq with rfl | rfl | rfl
      · exact nt
      · exact n1
      · exact nH
    · cases hH : H q with
      | none => exact absurd hH hq
      | some o => exact x.h q o hH⟩
theorem q_newM2 {i : Nat} {xs ys : List α} (h1 : EvN G ta T r xs) (h2 : EvN G tb T r ys) (q : Goes G (T.set i (.ow (@owM2 α r) ⟨xs, ys⟩)) (tu D)) : Goes G T (tSeq (tAsg (tTup (tCons ta (tCons tb tNil))) (gName i)) tu D) := g_newM2 (D := { D with nx := tu D }) h1 h2 q
/-- x[n][m] = y: n is 0 or 1 -/
theorem g_setM2 {i j : Nat} {a : M2 α} {y : α} {b : Bool} {n m : Int} (hi : T[i]? = some (.ow (@owM2 α r) a)) (h : EvD G te T r y) (hn : EvD G ta T rpInt n) (hm : EvD G tb T rpInt m) (nb : n = if b then 0 else 1) (hj : ixN (if b then a.a else a.b).length m = some j)
    (q : Goes G (T.set i (.ow (@owM2 α r) (if b then ⟨a.a.set j y, a.b⟩ else ⟨a.a, a.b.set j y⟩))) D.nx) : Goes G T (tAsg te (gSub (tOp (rIxT G.K) (tVar i) ta) tb rSetL) D) := fun B H σ f =>
  h B H σ f _ fun v B1 H1 x1 e1 => by
    obtain ⟨w, F0, s1, ⟨t, p, p', vs, ws, rfl, _⟩, _⟩ := (f.ext x1).mut hi
    refine ⟨_, s1, hn B1 H1 σ (f.ext x1) _ fun u B2 H2 x2 e2 => ?_⟩
    have f2 := (f.ext x1).ext x2
    obtain ⟨w, F, s2, ⟨t', p, p', vs, ws, rfl, f1, f3, f4, pq, b1, b2, b3, h1, h2, h3, r1, r2⟩, _⟩ := f2.mut hi
    have tt : t = t' := by rw [s1] at s2; cases s2; rfl
    subst tt
    cases b with
    | true =>
      refine ⟨t, _, n, .ref p, rfl, e2, .inl (.inl h1), by rw [nb]; rfl, hm B2 H2 σ f2 _ fun z B3 H3 x3 e3 => ?_⟩
      obtain ⟨w, F', s3, ⟨t'', p2, p2', vs', ws', rfl, f1, f3, f4, pq, b1, b2, b3, g1, g2, g3, r1, r2⟩, k⟩ := (f2.ext x3).mut hi
      have tt : t = t'' := by rw [s1] at s3; cases s3; rfl
      subst tt
      have e5 := x3.h _ _ h1
      rw [g1] at e5
      cases e5
      refine ⟨p, vs', m, j, rfl, e3, g2, by rw [← Paired.length r1]; exact hj, ?_⟩
      have tp : t ≠ p := fun z => by rw [z, g2] at g1; cases g1
      have ry := r.mono (x2.b.trans x3.b) e1
      refine q B3 _ σ (k (M2 α) owM2 ⟨a.a.set j y, a.b⟩ B3 (upd H3 p (.lst (vs'.set j v))) (fun b o hb => ?_) (Same.refl _) (fun _ _ => rfl) (fun b hb hF => ?_) ⟨t, p, p', _, ws', rfl, f1, f3, f4, pq, b1, b2, b3, (upd_ne tp).trans g1, upd_same, (upd_ne (Ne.symm pq)).trans g3, paired_set ry j r1, r2⟩)
      · rw [upd_ne (ne_of_none hb b2)]
        exact x3.s b o hb
      · exact upd_ne fun z => hF (by rw [z]; exact f3)
    | false =>
      refine ⟨t, _, n, .ref p', rfl, e2, .inl (.inl h1), by rw [nb]; rfl, hm B2 H2 σ f2 _ fun z B3 H3 x3 e3 => ?_⟩
      obtain ⟨w, F', s3, ⟨t'', p2, p2', vs', ws', rfl, f1, f3, f4, pq, b1, b2, b3, g1, g2, g3, r1, r2⟩, k⟩ := (f2.ext x3).mut hi
      have tt : t = t'' := by rw [s1] at s3; cases s3; rfl
      subst tt
      have e5 := x3.h _ _ h1
      rw [g1] at e5
      cases e5
      refine ⟨p', ws', m, j, rfl, e3, g3, by rw [← Paired.length r2]; exact hj, ?_⟩
      have tp : t ≠ p' := fun z => by rw [z, g3] at g1; cases g1
      have ry := r.mono (x2.b.trans x3.b) e1
      refine q B3 _ σ (k (M2 α) owM2 ⟨a.a, a.b.set j y⟩ B3 (upd H3 p' (.lst (ws'.set j v))) (fun b o hb => ?_) (Same.refl _) (fun _ _ => rfl) (fun b hb hF => ?_) ⟨t, p, p', vs', _, rfl, f1, f3, f4, pq, b1, b2, b3, (upd_ne tp).trans g1, (upd_ne pq).trans g2, upd_same, r1, paired_set ry j r2⟩)
      · rw [upd_ne (ne_of_none hb b3)]
        exact x3.s b o hb
      · exact upd_ne fun z => hF (by rw [z]; exact f4)
/-- the two are given back, seen as lists of another kind -/
theorem g_retM2 {i : Nat} {a : M2 α} {xs ys : List β} (h : T[i]? = some (.ow (@owM2 α r) a)) (c1 : ∀ {K : PySem.W.Frag} {B : Hp} {vs : List V}, Paired (r.rp K B) a.a vs → Paired (r'.rp K B) xs vs) (c2 : ∀ {K : PySem.W.Frag} {B : Hp} {vs : List V}, Paired (r.rp K B) a.b vs → Paired (r'.rp K B) ys vs)
    (q : RetD G D.rt (@rpPair (List β) (List β) (@rpList β r') (@rpList β r')) (xs, ys)) : Goes G T (tRet (tVar i) D) := fun B H σ f => by
  obtain ⟨own, o0, sl⟩ := f.sl
  obtain ⟨s, e1, v, rfl, t, p, p', vs, ws, rfl, f1, f3, f4, pq, b1, b2, b3, h1, h2, h3, r1, r2⟩ := sl i _ h
  have z1 := o0 t i f1
  have z2 := o0 p i f3
  have z3 := o0 p' i f4
  have tp : t ≠ p := fun z => by rw [z, h2] at h1; cases h1
  have tp' : t ≠ p' := fun z => by rw [z, h3] at h1; cases h1
  have sB : Same B (upd (upd (upd B p (.lst vs)) p' (.lst ws)) t (.tup [.ref p, .ref p'])) := fun b o e => by
    rw [upd_ne (ne_of_none e b1), upd_ne (ne_of_none e b3), upd_ne (ne_of_none e b2)]
    exact e
  have x := f.ext0
  refine ⟨_, e1, q (.ref t) _ H ⟨x.b.trans sB, x.h, fun b o e => ?_, fun b hb => ?_⟩ ⟨t, .ref p, .ref p', rfl, upd_same, ⟨p, vs, rfl, ?_, paired_mono sB (c1 r1)⟩, ⟨p', ws, rfl, ?_, paired_mono sB (c2 r2)⟩⟩⟩
  · by_cases y1 : b = t
    · subst y1; rw [upd_same] at e; cases e; exact h1
    · rw [upd_ne y1] at e
      by_cases y2 : b = p'
      · subst y2; rw [upd_same] at e; cases e; exact h3
      · rw [upd_ne y2] at e
        by_cases y3 : b = p
        · subst y3; rw [upd_same] at e; cases e; exact h2
        · rw [upd_ne y3] at e
          exact f.bh b o e
  · rw [upd_ne fun z => hb (by rw [z]; exact z1), upd_ne fun z => hb (by rw [z]; exact z3), upd_ne fun z => hb (by rw [z]; exact z2)]
    exact x.n b hb
  · rw [upd_ne (Ne.symm tp), upd_ne pq, upd_same]
  · rw [upd_ne (Ne.symm tp'), upd_same]
/-- the length of a tuple of four -/
theorem ev_len4 {x : T4 α β γ δ} (h : EvD G te T (@rpT4 α β γ δ r r' r'' r3) x) : EvD G (tCB (rLenQ G.K) (tCons te tNil)) T rpInt 4 := fun B H σ f Q q =>
  h B H σ f _ fun v B1 H1 x1 e1 => by
    obtain ⟨p, a, b, c, d, rfl, s, _⟩ := e1
    exact ⟨p, [a, b, c, d], rfl, .inr (.inl (.of (x1.s _ _ s))), q _ B1 H1 x1 rfl⟩
end
end DL

set_option Elab.async false
set_option linter.all false
set_option maxRecDepth 100000
set_option maxHeartbeats 4000000
/-! a law's own layer, seventeenth part: texts, told by their signs -/
namespace DL
open PySem PySem.Spec PyProof.Rows L2
abbrev tx (l : List Nat) : Str := ⟨l.toArray⟩
theorem tx_len (l : List Nat) : (tx l).length = l.length := rfl
theorem tx_cat (a b : List Nat) : tx a ++ tx b = tx (a ++ b) := SX.S_cat a b
theorem tx_inj {a b : List Nat} (h : tx a = tx b) : a = b := congrArg (fun x : Str => x.cps.toList) h
theorem tx_join (ys : List (List Nat)) : Txt.join (tx []) (ys.map tx) = tx ys.flatten := by
  have e : TL.joinL [] ys = ys.flatten := by
    induction ys with
    | nil => rfl
    | cons a l ih =>
      cases l with
      | nil => show a = [a].flatten; simp
      | cons b r =>
        show a ++ ([] ++ TL.joinL [] (b :: r)) = (a :: b :: r).flatten
        rw [ih]
        simp
  rw [← e]
  exact SX.join_S [] ys
section
variable {G : Cn} {T : List Ty} {te ta tb to : TE}
theorem ev_strI {i : Int} (h : EvD G te T rpInt i) (hb : i.natAbs.log2 < 1920) : EvD G (tCB (fun xs H Q => ∃ i : Int, xs = [.int i] ∧ i.natAbs.log2 < 1920 ∧ Q (.str (toString i)) H) (tCons te tNil)) T rpStr (Str.ofString (toString i)) := fun B H σ f Q q =>
  h B H σ f _ fun v B1 H1 x1 e1 => ⟨i, by rw [show v = .int i from e1], hb, q _ B1 H1 x1 rfl⟩
theorem strs_of {K : PySem.W.Frag} {B : Hp} : ∀ {xs : List Str} {vs : List V}, Paired (rpStr.rp K B) xs vs → vs = xs.map V.str
  | [], _, .nil => rfl
  | x :: xs, _, .cons h t => by rw [show _ = V.str x from h, strs_of t] <;> rfl
def tJoin (K : PySem.W.Frag) (to te : TE) : TE := tM1 (fun x xs H Q => ∃ a p, ∃ ys : List Str, x = .str a ∧ xs = [.ref p] ∧ (SqL K H p (ys.map V.str) ∨ SqT K H p (ys.map V.str)) ∧ (ys.map (·.length)).sum + ys.length * a.length ≤ 16777216 ∧ Q (.str (Txt.join a ys)) H) to te
theorem ke_join {X : Cx} {o e : Expr} {apos pos : Pos} (K : PySem.W.Frag) (h : X.K = K) (ho : PE X o to) (he : PE X e te) (hs : starEach [e] X.env = [(false, eval e X.env)] := by rfl) (hbase : attributeBase o "join" X.env (eval o X.env) = eval o X.env := by rfl) (hline : (apos.endLine == pos.line) = true := by rfl) :
    PE X (.Call (.Attribute o "join" apos) [e] [] pos) (tJoin K to te) := by subst h; exact pe_join ho he hs hbase hline
theorem ev_join {a : Str} {ys : List Str} (ho : EvD G to T rpStr a) (h : EvC G te T rpStr ys) (hz : (ys.map (·.length)).sum + ys.length * a.length ≤ 100000) : EvD G (tJoin G.K to te) T rpStr (Txt.join a ys) := fun B H σ f Q q =>
  ho B H σ f _ fun v B1 H1 x1 e1 => ⟨⟨a, e1⟩, h B1 H1 σ (f.ext x1) _ fun u B2 H2 x2 e2 => by
    obtain ⟨p, vs, rfl, s, z⟩ := e2
    have e := strs_of z
    subst e
    exact ⟨a, p, ys, e1, rfl, .inl s, Nat.le_trans hz (by decide), q _ B2 H2 (x1.trans x2) rfl⟩⟩
theorem ev_catS {a b : Str} (ha : EvD G ta T rpStr a) (hb : EvD G tb T rpStr b) (hz : a.length + b.length ≤ 100000) : EvD G (tOp (fun x y H Q => ∃ i j, x = .str i ∧ y = .str j ∧ i.length + j.length ≤ sizeLine ∧ Q (.str (i ++ j)) H) ta tb) T rpStr (a ++ b) := fun B H σ f Q q =>
  ha B H σ f _ fun v B1 H1 x1 e1 => hb B1 H1 σ (f.ext x1) _ fun u B2 H2 x2 e2 => ⟨a, b, e1, e2, sz_of hz, q _ B2 H2 (x1.trans x2) rfl⟩
theorem ev_lenS {a : Str} (h : EvH G te T rpStr a) (hz : a.length ≤ 100000) : EvD G (tCB (fun xs H Q => ∃ z, xs = [.str z] ∧ z.length ≤ sizeLine ∧ Q (.int z.length) H) (tCons te tNil)) T rpInt (a.length : Int) := fun B H σ f Q q =>
  h B H σ f _ fun v B1 H1 x1 e1 => ⟨a, by rw [show v = .str a from e1], sz_of hz, q _ B1 H1 x1 rfl⟩
theorem ev_intS {a : Str} {n : Int} (h : EvD G te T rpStr a) (hn : PySem.intText? a = some n) (hz : a.length ≤ 640) : EvD G (tCB (fun xs H Q => ∃ a n, xs = [.str a] ∧ PySem.intText? a = some n ∧ a.length ≤ 640 ∧ Q (.int n) H) (tCons te tNil)) T rpInt n := fun B H σ f Q q =>
  h B H σ f _ fun v B1 H1 x1 e1 => ⟨a, n, by rw [show v = .str a from e1], hn, hz, q _ B1 H1 x1 rfl⟩
theorem cutS_tx (l : List Nat) (lo hi : Option Int) : cutS (tx l) lo hi = tx ((l.drop (HT.sIx l.length 0 lo)).take (HT.sIx l.length l.length hi - HT.sIx l.length 0 lo)) := rfl
theorem ev_slS {l : List Nat} {tl th : TO} {lo hi : Option Int} (h : EvD G te T rpStr (tx l)) (hz : l.length ≤ 100000)
    (h1 : ∀ B H σ, Fr G B H σ T → ∀ Q : Option Int → Hp → Prop, (∀ B' H', Ext B H B' H' → Q lo H') → tl σ H Q) (h2 : ∀ B H σ, Fr G B H σ T → ∀ Q : Option Int → Hp → Prop, (∀ B' H', Ext B H B' H' → Q hi H') → th σ H Q) :
    EvD G (tSl rSlS te tl th) T rpStr (tx ((l.drop (HT.sIx l.length 0 lo)).take (HT.sIx l.length l.length hi - HT.sIx l.length 0 lo))) := fun B H σ f Q q =>
  h B H σ f _ fun v B1 H1 x1 e1 => h1 B1 H1 σ (f.ext x1) _ fun B2 H2 x2 => h2 B2 H2 σ ((f.ext x1).ext x2) _ fun B3 H3 x3 => ⟨tx l, e1, sz_of hz, q _ B3 H3 ((x1.trans x2).trans x3) rfl⟩
theorem ev_fromS {l : List Nat} {i : Int} (h : EvD G te T rpStr (tx l)) (hz : l.length ≤ 100000) (hi : EvD G ta T rpInt i) (h0 : 0 ≤ i) : EvD G (tSl rSlS te (tPart ta) tNoPart) T rpStr (tx (l.drop i.toNat)) := (ev_slS h hz (eo_part hi) eo_none).is (congrArg tx (slv_from h0))
theorem ev_toS {l : List Nat} {i : Int} (h : EvD G te T rpStr (tx l)) (hz : l.length ≤ 100000) (hi : EvD G ta T rpInt i) (h0 : 0 ≤ i) : EvD G (tSl rSlS te tNoPart (tPart ta)) T rpStr (tx (l.take i.toNat)) := (ev_slS h hz eo_none (eo_part hi)).is (congrArg tx (slv_to h0))
theorem ev_midS {l : List Nat} {i j : Int} (h : EvD G te T rpStr (tx l)) (hz : l.length ≤ 100000) (hi : EvD G ta T rpInt i) (hj : EvD G tb T rpInt j) (h0 : 0 ≤ i) (h1 : 0 ≤ j) : EvD G (tSl rSlS te (tPart ta) (tPart tb)) T rpStr (tx ((l.drop i.toNat).take (j.toNat - i.toNat))) := (ev_slS h hz (eo_part hi) (eo_part hj)).is (congrArg tx (slv_mid h0 h1))
theorem ei_str {l : List Nat} (h : EvD G te T rpStr (tx l)) : EvI G (iStr te) T rpStr (l.map fun c => tx [c]) := fun B H σ f R q => h B H σ f _ fun v B1 H1 x1 e1 =>
  ⟨tx l, e1, q _ B1 H1 x1 ⟨fun B H i x a b e => by
    have := (List.getElem?_eq_some_iff.mp e).1
    rw [List.length_map] at this
    exact this, fun B H a b => by rw [List.length_map]; exact Nat.le_refl _, fun B H i x v H' a b e y => by
    obtain ⟨rfl, c, hc, rfl⟩ := y
    refine ⟨B, Ext.refl b, ?_⟩
    rw [List.getElem?_map] at e
    have hc : l[i]? = some c := by rw [← hc]; simp
    rw [hc] at e
    show V.str (tx [c]) = V.str x
    rw [← Option.some.inj e]⟩⟩
theorem ev_inS {c : Nat} {l : List Nat} (ha : EvD G ta T rpStr (tx [c])) (hb : EvD G tb T rpStr (tx l)) : EvD G (tOp (fun x y H Q => ∃ (c : Nat) (z : Str), x = .str ⟨#[c]⟩ ∧ y = .str z ∧ Q (.bl (decide (c ∈ z.cps.toList))) H) ta tb) T rpBool (decide (c ∈ l)) := fun B H σ f Q q =>
  ha B H σ f _ fun v B1 H1 x1 e1 => hb B1 H1 σ (f.ext x1) _ fun u B2 H2 x2 e2 => ⟨c, tx l, e1, e2, q _ B2 H2 (x1.trans x2) rfl⟩
theorem ev_ninS {c : Nat} {l : List Nat} (ha : EvD G ta T rpStr (tx [c])) (hb : EvD G tb T rpStr (tx l)) : EvD G (tOp (fun x y H Q => ∃ (c : Nat) (z : Str), x = .str ⟨#[c]⟩ ∧ y = .str z ∧ Q (.bl (!decide (c ∈ z.cps.toList))) H) ta tb) T rpBool (!decide (c ∈ l)) := fun B H σ f Q q =>
  ha B H σ f _ fun v B1 H1 x1 e1 => hb B1 H1 σ (f.ext x1) _ fun u B2 H2 x2 e2 => ⟨c, tx l, e1, e2, q _ B2 H2 (x1.trans x2) rfl⟩
theorem ev_ixS {l : List Nat} {i : Int} {c : Nat} (ha : EvD G ta T rpStr (tx l)) (hb : EvD G tb T rpInt i) (hz : l.length ≤ 100000) (e : atI l i = some c) : EvD G (tOp rIxS ta tb) T rpStr (tx [c]) := fun B H σ f Q q =>
  ha B H σ f _ fun v B1 H1 x1 e1 => hb B1 H1 σ (f.ext x1) _ fun u B2 H2 x2 e2 => ⟨tx l, i, c, e1, e2, sz_of hz, e, q _ B2 H2 (x1.trans x2) rfl⟩
end
end DL

set_option Elab.async false
set_option linter.all false
set_option maxRecDepth 100000
set_option maxHeartbeats 4000000
/-! a law's own layer, eighteenth part: branches that meet in one of many frames -/
namespace DL
open PySem PySem.Spec PyProof.Rows L2
variable {G : Cn} {T : List Ty} {D : Ends} {c : TT} {tz tw tu : TS}
theorem q_ifA {b : Bool} (I : List Ty → Prop) (h : EvT G c T b) (h1 : b = true → (∀ T', I T' → Goes G T' (tu D)) → Goes G T (tz { D with nx := tu D })) (h2 : b = false → (∀ T', I T' → Goes G T' (tu D)) → Goes G T (tw { D with nx := tu D })) (q : ∀ T', I T' → Goes G T' (tu D)) : Goes G T (tSeq (tIfS c tz tw) tu D) := q_if h (fun hb => h1 hb q) (fun hb => h2 hb q)
theorem q_whenA {b : Bool} (I : List Ty → Prop) (h : EvT G c T b) (h1 : b = true → (∀ T', I T' → Goes G T' (tu D)) → Goes G T (tz { D with nx := tu D })) (h2 : b = false → (∀ T', I T' → Goes G T' (tu D)) → Goes G T (tu D)) (q : ∀ T', I T' → Goes G T' (tu D)) : Goes G T (tSeq (tIfS c tz tNext) tu D) := q_when h (fun hb => h1 hb q) (fun hb => h2 hb q)
end DL

set_option Elab.async false
set_option linter.all false
set_option maxRecDepth 100000
set_option maxHeartbeats 4000000
/-! a law's own layer, nineteenth part: owned things told with the very addresses they stand on; calls that change them -/
namespace DL
open PySem PySem.Spec PyProof.Rows L2
class Ox (α : Type) [Rp α] where
  ox : PySem.W.Frag → Hp → Hp → α → V → (Addr → Prop) → Prop
  fr : ∀ {K : PySem.W.Frag} {B H B' H' : Hp} {a : α} {v : V} {S : Addr → Prop}, ox K B H a v S → Same B B' → (∀ q, S q → H' q = H q ∧ B' q = none) → ox K B' H' a v S
  nb : ∀ {K : PySem.W.Frag} {B H : Hp} {a : α} {v : V} {S : Addr → Prop}, ox K B H a v S → ∀ q, S q → B q = none ∧ H q ≠ none
  rd : ∀ {K : PySem.W.Frag} {B H : Hp} {a : α} {v : V} {S : Addr → Prop}, ox K B H a v S → ∀ H', Same B H' → (∀ q, S q → H' q = H q) → Rp.rp K H' a v
@[reducible] def owV {α : Type} [Rp α] (u : V) (w : Ox α) : Ow α := ⟨fun K B H a v F => v = u ∧ ∃ S, (∀ q, S q → F q) ∧ w.ox K B H a v S, fun ⟨e, S, hS, h⟩ sb k => ⟨e, S, fun q hq => (k q (hS q hq) (w.nb h q hq).2).1, w.fr h sb fun q hq => by
  obtain ⟨_, k2, k3⟩ := k q (hS q hq) (w.nb h q hq).2
  exact ⟨k2, k3.trans (w.nb h q hq).1⟩⟩⟩
noncomputable def delS (H : Hp) (S : Addr → Prop) : Hp := fun q => open Classical in if S q then none else H q
theorem delS_in {H : Hp} {S : Addr → Prop} {q : Addr} (h : S q) : delS H S q = none := by unfold delS; exact if_pos h
theorem delS_ne {H : Hp} {S : Addr → Prop} {q : Addr} (h : ¬ S q) : delS H S q = H q := by unfold delS; exact if_neg h
theorem delS_some {H : Hp} {S : Addr → Prop} {q : Addr} {o : HO} (h : delS H S q = some o) : ¬ S q ∧ H q = some o := by
  by_cases hq : S q
  · rw [delS_in hq] at h; cases h
  · rw [delS_ne hq] at h; exact ⟨hq, h⟩
noncomputable def glue (S : Addr → Prop) (H B : Hp) : Hp := fun q => open Classical in if S q then H q else B q
theorem glue_in {H B : Hp} {S : Addr → Prop} {q : Addr} (h : S q) : glue S H B q = H q := by unfold glue; exact if_pos h
theorem glue_ne {H B : Hp} {S : Addr → Prop} {q : Addr} (h : ¬ S q) : glue S H B q = B q := by unfold glue; exact if_neg h
theorem glue_up {S : Addr → Prop} {H B : Hp} (h : ∀ q, S q → B q = none) : Same B (glue S H B) := fun q o e => by
  rw [glue_ne fun z => by rw [h q z] at e; cases e]
  exact e
theorem glue_le {S : Addr → Prop} {H B : Hp} (h : Same B H) : Same (glue S H B) H := fun q o e => by
  by_cases hq : S q
  · rw [glue_in hq] at e; exact e
  · rw [glue_ne hq] at e; exact h q o e
section
variable {G : Cn} {T : List Ty} {D : Ends} {α β γ : Type}
theorem Fr.getO [Rp α] {w : Ox α} {B H : Hp} {σ : L2.St} (f : Fr G B H σ T) {j : Nat} {a : α} {u : V} (hj : T[j]? = some (.ow (owV u w) a)) : ∃ S, σ[j]? = some (some u) ∧ w.ox G.K B H a u S := by
  obtain ⟨own, _, sl⟩ := f.sl
  obtain ⟨s, e1, v, rfl, rfl, S, hS, h⟩ := sl j _ hj
  exact ⟨S, e1, h⟩
/-- a slot's own things are given up, or some of them: they stand for good -/
theorem Fr.freezeG {B H : Hp} {σ : L2.St} (f : Fr G B H σ T) {j : Nat} {w : Ow β} {b : β} (hj : T[j]? = some (.ow w b)) :
    ∃ (v : V) (F : Addr → Prop), σ[j]? = some (some v) ∧ w.ow G.K B H b v F ∧ ∀ (S : Addr → Prop) (t : Ty), (∀ q, S q → F q ∧ B q = none) → Slot G.K (glue S H B) H (fun q => F q ∧ ¬ S q) (some v) t → Fr G (glue S H B) H σ (T.set j t) := by
  classical
  obtain ⟨own, o0, sl⟩ := f.sl
  obtain ⟨s, e1, v, rfl, q⟩ := sl j _ hj
  refine ⟨v, _, e1, q, fun S t hS ht => ?_⟩
  have sB := glue_up (H := H) fun q hq => (hS q hq).2
  refine ⟨glue_le f.bh, f.b0.trans sB, f.h0, fun q hq => ?_, by rw [List.length_set]; exact f.len, fun q => if S q then none else own q, fun q i e => ?_, fun i t' e => ?_⟩
  · rw [glue_ne fun z => hq (o0 _ _ (hS q z).1), f.n0 q hq]
  · dsimp only at e
    by_cases z : S q
    · rw [if_pos z] at e; cases e
    · rw [if_neg z] at e; exact o0 q i e
  · by_cases hi : j = i
    · subst hi
      have hj' : j < T.length := (List.getElem?_eq_some_iff.mp hj).1
      rw [List.getElem?_set_self hj'] at e
      cases e
      refine ⟨_, e1, ?_⟩
      have ef : (fun q => own q = some j ∧ ¬ S q) = fun q => (if S q then none else own q) = some j := by
        funext q
        by_cases z : S q
        · rw [if_pos z]; simp [z]
        · rw [if_neg z]; simp [z]
      rw [← ef]
      exact ht
    · rw [List.getElem?_set_ne hi] at e
      obtain ⟨s, e1, q⟩ := sl i t' e
      refine ⟨s, e1, ?_⟩
      cases t' with
      | im r a => obtain ⟨v, e, q⟩ := q; exact ⟨v, e, r.mono sB q⟩
      | ow r a =>
        obtain ⟨v, e, q⟩ := q
        refine ⟨v, e, r.fr q sB fun x hx hn => ?_⟩
        have nS : ¬ S x := fun z => hi (Option.some.inj ((hS x z).1.symm.trans hx))
        exact ⟨by show (if S x then none else own x) = some i; rw [if_neg nS]; exact hx, rfl, glue_ne nS⟩
      | un => exact q
      | any => trivial
theorem g_letO {k : L2.St → Hp → Prop} [r : Rp α] {w : Ox α} {i : Nat} {a : α} {u : V} (h : T[i]? = some (.ow (owV u w) a)) (q : Goes G (T.set i (.im r a)) k) : Goes G T k := fun B H σ f => by
  obtain ⟨v, F, e1, ⟨rfl, S, hS, ho⟩, kk⟩ := f.freezeG h
  exact q _ H σ (kk S _ (fun q hq => ⟨hS q hq, (w.nb ho q hq).1⟩) ⟨v, rfl, w.rd ho _ (glue_up fun q hq => (w.nb ho q hq).1) fun q hq => glue_in hq⟩)
/-- changed in place, by what changes nothing else -/
theorem Fr.mutO [Rp α] {w : Ox α} {B H : Hp} {σ : L2.St} (f : Fr G B H σ T) {j : Nat} {a : α} {u : V} (hj : T[j]? = some (.ow (owV u w) a)) :
    ∃ S, σ[j]? = some (some u) ∧ w.ox G.K B H a u S ∧ (∀ q, S q → G.H0 q = none) ∧ ∀ (γ : Type) (rg : Rp γ) (w' : @Ox γ rg) (b : γ) (B' H' : Hp) (S' : Addr → Prop), Ext B (delS H S) B' H' → (∀ q, S' q → delS H S q = none) → @Ox.ox γ rg w' G.K B' H' b u S' → Fr G B' H' σ (T.set j (.ow (@owV γ rg u w') b)) := by
  classical
  obtain ⟨own, o0, sl⟩ := f.sl
  obtain ⟨s, e1, v, rfl, rfl, S, hS, ho⟩ := sl j _ hj
  refine ⟨S, e1, ho, fun q hq => o0 q j (hS q hq), fun γ rg w' b B' H' S' x hS' ho' => ?_⟩
  have nS : ∀ q, G.H0 q ≠ none → ¬ S q := fun q hq z => hq (o0 q j (hS q z))
  have keep : ∀ q, ¬ S q → H q ≠ none → H' q = H q ∧ B' q = B q := fun q hq hn => by
    refine ⟨?_, x.n q (by rw [delS_ne hq]; exact hn)⟩
    cases hH : H q with
    | none => exact absurd hH hn
    | some o => exact x.h q o (by rw [delS_ne hq]; exact hH)
  refine ⟨x.s, f.b0.trans x.b, fun q o e => ?_, fun q hq => ?_, by rw [List.length_set]; exact f.len, fun q => if S' q then some j else own q, fun q i e => ?_, fun i t e => ?_⟩
  · have e2 := f.h0 q o e
    rw [(keep q (nS q (by rw [e]; intro z; cases z)) (by rw [e2]; intro z; cases z)).1]
    exact e2
  · rw [(keep q (nS q hq) fun z => hq (f.h0.free z)).2, f.n0 q hq]
  · dsimp only at e
    by_cases z : S' q
    · have := hS' q z
      by_cases y : S q
      · exact o0 q j (hS q y)
      · rw [delS_ne y] at this
        exact f.h0.free this
    · rw [if_neg z] at e; exact o0 q i e
  · by_cases hi : j = i
    · subst hi
      have hj' : j < T.length := (List.getElem?_eq_some_iff.mp hj).1
      rw [List.getElem?_set_self hj'] at e
      cases e
      exact ⟨some v, e1, v, rfl, rfl, S', fun q hq => if_pos hq, ho'⟩
    · rw [List.getElem?_set_ne hi] at e
      obtain ⟨s, e1, q⟩ := sl i t e
      refine ⟨s, e1, ?_⟩
      cases t with
      | im r a => obtain ⟨v, e, q⟩ := q; exact ⟨v, e, r.mono x.b q⟩
      | ow r a =>
        obtain ⟨v, e, q⟩ := q
        refine ⟨v, e, r.fr q x.b fun y hy hn => ?_⟩
        have ny : ¬ S y := fun z => hi (Option.some.inj ((hS y z).symm.trans hy))
        have ny' : ¬ S' y := fun z => by
          have := hS' y z
          rw [delS_ne ny] at this
          exact hn this
        exact ⟨by show (if S' y then some j else own y) = some i; rw [if_neg ny']; exact hy, keep y ny hn⟩
      | un => exact q
      | any => trivial
theorem Fr.newO [Rp α] {w : Ox α} {B H B' H' : Hp} {σ : L2.St} (f : Fr G B H σ T) (j : Nat) {a : α} {u : V} {S : Addr → Prop} (x : Ext B H B' H') (hS : ∀ q, S q → H q = none) (h : w.ox G.K B' H' a u S) : Fr G B' H' (σ.set j (some u)) (T.set j (.ow (owV u w) a)) :=
  f.set_ow j (owV u w) (F := S) x.s x.b hS (fun q hq => ⟨by
    cases hH : H q with
    | none => exact absurd hH hq
    | some o => exact x.h q o hH, x.n q hq⟩) ⟨rfl, S, fun _ z => z, h⟩
/-! new owned things -/
def EvO (G : Cn) (te : TE) (T : List Ty) {α : Type} [Rp α] (w : Ox α) (a : α) : Prop := ∀ B H σ, Fr G B H σ T → ∀ Q : VK, (∀ u B' H' S, Ext B H B' H' → (∀ q, S q → H q = none) → w.ox G.K B' H' a u S → Q u H') → te σ H Q
theorem ext_glue [Rp α] {w : Ox α} {K : PySem.W.Frag} {B H B' H' : Hp} {a : α} {u : V} {S : Addr → Prop} (x : Ext B H B' H') (hS : ∀ q, S q → H q = none) (h : w.ox K B' H' a u S) : Ext B H (glue S H' B') H' ∧ Rp.rp K (glue S H' B') a u := by
  have sB := glue_up (H := H') (B := B') fun q hq => (w.nb h q hq).1
  exact ⟨⟨x.b.trans sB, x.h, glue_le x.s, fun q hq => (glue_ne fun z => hq (hS q z)).trans (x.n q hq)⟩, w.rd h _ sB fun q hq => glue_in hq⟩
theorem EvO.d [r : Rp α] {w : Ox α} {te : TE} {a : α} (h : EvO G te T w a) : EvD G te T r a := fun B H σ f Q q => h B H σ f Q fun u B' H' S x hS ho => by
  obtain ⟨y, z⟩ := ext_glue x hS ho
  exact q u _ H' y z
theorem g_asgO [Rp α] {w : Ox α} {te : TE} {i : Nat} {a : α} (h : EvO G te T w a) (q : ∀ u, Goes G (T.set i (.ow (owV u w) a)) D.nx) : Goes G T (tAsg te (gName i) D) := fun B H σ f => h B H σ f _ fun u B' H' S x hS ho => q u B' H' _ (f.newO i x hS ho)
theorem q_asgO [Rp α] {w : Ox α} {te : TE} {tu : TS} {i : Nat} {a : α} (h : EvO G te T w a) (q : ∀ u, Goes G (T.set i (.ow (owV u w) a)) (tu D)) : Goes G T (tSeq (tAsg te (gName i)) tu D) := g_asgO (D := { D with nx := tu D }) h q
def RetO (G : Cn) (rt : VK) {α : Type} [Rp α] (w : Ox α) (a : α) : Prop := ∀ u B H S, Ext G.B0 G.H0 B H → (∀ q, S q → G.H0 q = none) → w.ox G.K B H a u S → rt u H
theorem RetO.root [Rp α] {w : Ox α} {B1 : Hp} {rt : VK} {a : α} (h : RetO G rt w a) (u : Up G B1) : RetO (G.at B1) rt w a := fun v B H S x => h v B H S (u.ext x)
theorem RetO.of [r : Rp α] {w : Ox α} {rt : VK} {a : α} (h : RetD G rt r a) : RetO G rt w a := fun u B H S x hS ho => by
  obtain ⟨y, z⟩ := ext_glue x hS ho
  exact h u _ H y z
theorem g_retO [Rp α] {w : Ox α} {i : Nat} {a : α} {u : V} (h : T[i]? = some (.ow (owV u w) a)) (q : RetO G D.rt w a) : Goes G T (tRet (tVar i) D) := fun B H σ f => by
  obtain ⟨own, o0, sl⟩ := f.sl
  obtain ⟨s, e1, v, rfl, rfl, S, hS, ho⟩ := sl i _ h
  exact ⟨_, e1, q v B H S f.ext0 (fun p hp => o0 p i (hS p hp)) ho⟩
theorem g_retOE [Rp α] {w : Ox α} {te : TE} {a : α} (h : EvO G te T w a) (q : RetO G D.rt w a) : Goes G T (tRet te D) := fun B H σ f => h B H σ f _ fun u B' H' S x hS ho => q u B' H' S (f.ext x).ext0 (fun p hp => f.h0.free (hS p hp)) ho
/-- read as it stands -/
theorem ev_varO [r : Rp α] {w : Ox α} {i : Nat} {a : α} {u : V} (h : T[i]? = some (.ow (owV u w) a)) : EvH G (tVar i) T r a := fun B H σ f Q q => by
  obtain ⟨S, e1, ho⟩ := f.getO h
  exact ⟨u, e1, q u B H (Ext.refl f.bh) (w.rd ho H f.bh fun _ _ => rfl)⟩
/-! a def that gives a new owned thing -/
def SpW (K : PySem.W.Frag) {ι α : Type} [Rp α] (As : ι → List Ty) (pre : ι → Prop) (w : Ox α) (f : ι → Except Addr α) : Sp := fun vs H Q E => ∃ (B : Hp) (x : ι), Same B H ∧ pre x ∧ ArgsOk K B vs (As x) ∧
  (∀ a, f x = .ok a → ∀ u B' H' S, Ext B H B' H' → (∀ q, S q → H q = none) → w.ox K B' H' a u S → Q u H') ∧ (∀ C, f x = .error C → ∀ H', Same H H' → E (.ref C) none H')
section
variable {ι : Type} {As : ι → List Ty} {pre : ι → Prop} [r : Rp α] {w : Ox α} {f : ι → Except Addr α} {E : XK} {tr : TA} {x : ι}
theorem ev_callO {b : α} (ha : EvA G tr T (As x)) (hp : pre x) (hf : f x = .ok b) : EvO G (tCall (SpW G.K As pre w f) [] E tr) T w b := fun B H σ fr Q q => ha B H σ fr _ fun vs B1 H1 x1 ok => by
  rw [List.append_nil]
  exact ⟨B1, x, x1.s, hp, ok, fun b' e u B' H' S y hS ho => q u B' H' S (x1.trans y) (fun p hp => x1.h.free (hS p hp)) (by rw [hf] at e; cases e; exact ho), fun C e => by rw [hf] at e; cases e⟩
theorem ex_callO {C : Addr} (ha : EvAH G tr T (As x)) (hp : pre x) (hf : f x = .error C) : EvX G (tCall (SpW G.K As pre w f) [] E tr) T (fun H => E (.ref C) none H) := fun B H σ fr k Q => ha B H σ fr _ fun vs B1 H1 x1 ok => by
  rw [List.append_nil]
  exact ⟨H1, x, Same.refl _, hp, ok, fun b' e => (by rw [hf] at e; cases e), fun C' e H' s => by rw [hf] at e; cases e; exact k H' ((fr.h0.trans x1.h).trans s)⟩
theorem ex_callOT {C : Addr} {E : L2.St → XK} (ha : EvAH G tr T (As x)) (hp : pre x) (hf : f x = .error C) : EvXT G (tCallS (SpW G.K As pre w f) E tr) T (fun σ H => E σ (.ref C) none H) := fun k B H σ fr Q => ha B H σ fr _ fun vs B1 H1 x1 ok =>
  ⟨H1, x, Same.refl _, hp, ok, fun b' e => (by rw [hf] at e; cases e), fun C' e H' s => by rw [hf] at e; cases e; exact k B1 H' σ ((fr.ext x1).ext (Ext.raise x1.s s))⟩
variable {P : Program} {wd : World} {K : PySem.W.Frag} {mg : Str → Option Value} {base : Heap} {nm qual : Str} {st : Stmt} {fa : Addr} {fd : FuncData} {N ps : List Str} {k : Nat}
theorem def_okW (F : Fun K nm qual st fa fd) (S : FnScope N ps (defScope st)) (len : ∀ x, (As x).length = ps.length)
    (hbody : ∀ (cdv : Value) (A : Around) (outer : List Env) (s : Shared) (H : Hp) (E : XK), Room k (A.deeper (envOfC qual (defScope st) s.heap.objs.size fa cdv)) →
      ∃ t, PSs (cxOf (L2.CX P wd) P wd K mg base N qual (defScope st) fa cdv A outer s H E) (defBody st) t ∧ ∀ (B : Hp) (x : ι) (Q : VK), pre x → (∀ b, f x = .ok b → RetO ⟨K, B, H⟩ Q w b) → (∀ C, f x = .error C → ∀ H', Same H H' → E (.ref C) none H') →
        Goes ⟨K, B, H⟩ (As x ++ List.replicate (N.length - (As x).length) .un) (t { nx := fun _ H' => Q .non H', rt := Q })) :
    FnOk P wd K mg base (L2.CX P wd) (k + 1) fa fd ps (SpW K As pre w f) := by
  refine F.okX S (fun vs H Q E h => ?_) (fun cdv A outer s H vs Q E hr h => ?_)
  · obtain ⟨B, x, _, _, ok, _⟩ := h
    exact (args_len ok).trans (len x)
  · obtain ⟨B, x, sB, hp, ok, h1, h2⟩ := h
    obtain ⟨t, ht, hg⟩ := hbody cdv A outer s H E hr
    exact ⟨t, ht, hg B x Q hp (fun b e u B' H' S y hS ho => h1 b e u B' H' S y hS ho) h2 B H _ (Fr.entry sB ok)⟩
end
/-! a def that changes its first argument -/
def SpM (K : PySem.W.Frag) {α ι β : Type} [Rp α] (w : Ox α) (As : ι → List Ty) (pre : α × ι → Prop) (r : Rp β) (f : α × ι → Except Addr (β × α)) : Sp := fun vs H Q E => ∃ (B : Hp) (a : α) (x : ι) (u : V) (us : List V) (S : Addr → Prop), Same B H ∧ pre (a, x) ∧ vs = u :: us ∧ w.ox K B H a u S ∧ ArgsOk K B us (As x) ∧
  (∀ y a', f (a, x) = .ok (y, a') → ∀ v B' H' S', Ext B (delS H S) B' H' → (∀ q, S' q → delS H S q = none) → w.ox K B' H' a' u S' → r.rp K B' y v → Q v H') ∧
  (∀ C, f (a, x) = .error C → ∀ B' H' S', Ext B (delS H S) B' H' → (∀ q, S' q → delS H S q = none) → w.ox K B' H' a u S' → E (.ref C) none H')
def RetM (G : Cn) (rt : VK) {α β : Type} [Rp α] (u : V) (w : Ox α) (r : Rp β) (y : β) (a : α) : Prop := ∀ v B H S, Ext G.B0 G.H0 B H → (∀ q, S q → G.H0 q = none) → w.ox G.K B H a u S → r.rp G.K B y v → rt v H
def RaiM (G : Cn) (E : XK) {α : Type} [Rp α] (u : V) (w : Ox α) (C : Addr) (a : α) : Prop := ∀ B H S, Ext G.B0 G.H0 B H → (∀ q, S q → G.H0 q = none) → w.ox G.K B H a u S → E (.ref C) none H
theorem RetM.root [Rp α] {w : Ox α} {r : Rp β} {y : β} {u : V} {B1 : Hp} {rt : VK} {a : α} (h : RetM G rt u w r y a) (up : Up G B1) : RetM (G.at B1) rt u w r y a := fun v B H S x => h v B H S (up.ext x)
theorem RaiM.root [Rp α] {w : Ox α} {C : Addr} {u : V} {B1 : Hp} {E : XK} {a : α} (h : RaiM G E u w C a) (up : Up G B1) : RaiM (G.at B1) E u w C a := fun B H S x => h B H S (up.ext x)
theorem g_retV [Rp α] {w : Ox α} {r : Rp β} {te : TE} {y : β} {u : V} {i : Nat} {a : α} (hi : T[i]? = some (.ow (owV u w) a)) (h : EvD G te T r y) (q : RetM G D.rt u w r y a) : Goes G T (tRet te D) := fun B H σ f => h B H σ f _ fun v B1 H1 x1 e1 => by
  have f1 := f.ext x1
  obtain ⟨own, o0, sl⟩ := f1.sl
  obtain ⟨s, _, u', rfl, rfl, S, hS, ho⟩ := sl i _ hi
  exact q v B1 H1 S f1.ext0 (fun p hp => o0 p i (hS p hp)) ho e1
theorem g_endV [Rp α] {w : Ox α} {u : V} {i : Nat} {a : α} {Q : VK} (hi : T[i]? = some (.ow (owV u w) a)) (q : RetM G Q u w rpUnit () a) : Goes G T fun _ H' => Q .non H' := fun B H σ f => by
  obtain ⟨own, o0, sl⟩ := f.sl
  obtain ⟨s, _, u', rfl, rfl, S, hS, ho⟩ := sl i _ hi
  exact q .non B H S f.ext0 (fun p hp => o0 p i (hS p hp)) ho rfl
theorem g_raiV [Rp α] {w : Ox α} {u : V} {i : Nat} {a : α} {E : XK} {C : Addr} (hi : T[i]? = some (.ow (owV u w) a)) (q : RaiM G E u w C a) : Goes G T fun _ H => E (.ref C) none H := fun B H σ f => by
  obtain ⟨own, o0, sl⟩ := f.sl
  obtain ⟨s, _, u', rfl, rfl, S, hS, ho⟩ := sl i _ hi
  exact q B H S f.ext0 (fun p hp => o0 p i (hS p hp)) ho
theorem Fr.entryM {K : PySem.W.Frag} {B H : Hp} [Rp α] {w : Ox α} {a : α} {u : V} {us : List V} {S : Addr → Prop} {As : List Ty} {N : List Str} (s : Same B H) (ho : w.ox K B H a u S) (h : ArgsOk K B us As) :
    Fr ⟨K, B, delS H S⟩ B H (L2.start N (u :: us)) ((Ty.ow (owV u w) a :: As) ++ List.replicate (N.length - (As.length + 1)) Ty.un) := by
  classical
  have f := Fr.entry (K := K) (B := B) (H := H) (vs := u :: us) (As := Ty.im rpAny () :: As) (N := N) s ⟨trivial, h⟩
  obtain ⟨own, o0, sl⟩ := f.sl
  refine ⟨s, Same.refl _, fun q o e => (delS_some e).2, fun q _ => rfl, by rw [f.len]; rfl, fun q => if S q then some 0 else none, fun q i e => ?_, fun i t e => ?_⟩
  · dsimp only at e
    split at e
    · rename_i hq; exact delS_in hq
    · cases e
  · cases i with
    | zero =>
      cases e
      exact ⟨some u, rfl, u, rfl, rfl, S, fun q hq => if_pos hq, ho⟩
    | succ j =>
      obtain ⟨z, e1, q⟩ := sl (j + 1) t e
      refine ⟨z, e1, ?_⟩
      have hm : (∃ (δ : Type) (r : Rp δ) (b : δ), t = Ty.im r b) ∨ t = Ty.un := by
        have e' : (As ++ List.replicate (N.length - (As.length + 1)) Ty.un)[j]? = some t := e
        by_cases hj : j < As.length
        · rw [List.getElem?_append_left hj] at e'
          refine .inl ?_
          clear e q e1 sl o0 f
          have aux : ∀ (us : List V) (As : List Ty), ArgsOk K B us As → ∀ (j : Nat) (t : Ty), As[j]? = some t → ∃ (δ : Type) (r : Rp δ) (b : δ), t = Ty.im r b := by
            intro us As
            induction As generalizing us with
            | nil => intro _ j t e; simp at e
            | cons A As ih =>
              intro h j t e
              cases us with
              | nil => cases h
              | cons v us =>
                cases A with
                | im r b =>
                  cases j with
                  | zero => simp at e; exact ⟨_, r, b, e.symm⟩
                  | succ j => exact ih us h.2 j t (by simpa using e)
                | ow r b => cases h
                | un => cases h
                | any => cases h
          exact aux us As h j t e'
        · rw [List.getElem?_append_right (by omega)] at e'
          exact .inr (List.eq_of_mem_replicate (List.mem_of_getElem? e'))
      rcases hm with ⟨δ, r, b, rfl⟩ | rfl
      · exact q
      · exact q
section
variable {ι : Type} {As : ι → List Ty} [ra : Rp α] {w : Ox α} {pre : α × ι → Prop} {r : Rp β} {f : α × ι → Except Addr (β × α)}
variable {P : Program} {wd : World} {K : PySem.W.Frag} {mg : Str → Option Value} {base : Heap} {nm qual : Str} {st : Stmt} {fa : Addr} {fd : FuncData} {N ps : List Str} {k : Nat}
theorem def_okM (F : Fun K nm qual st fa fd) (S : FnScope N ps (defScope st)) (len : ∀ x, (As x).length + 1 = ps.length)
    (hbody : ∀ (cdv : Value) (A : Around) (outer : List Env) (s : Shared) (H : Hp) (E : XK), Room k (A.deeper (envOfC qual (defScope st) s.heap.objs.size fa cdv)) →
      ∃ t, PSs (cxOf (L2.CX P wd) P wd K mg base N qual (defScope st) fa cdv A outer s H E) (defBody st) t ∧ ∀ (B H1 : Hp) (a : α) (x : ι) (u : V) (Q : VK), pre (a, x) → (∀ y a', f (a, x) = .ok (y, a') → RetM ⟨K, B, H1⟩ Q u w r y a') → (∀ C, f (a, x) = .error C → RaiM ⟨K, B, H1⟩ E u w C a) →
        Goes ⟨K, B, H1⟩ ((.ow (owV u w) a :: As x) ++ List.replicate (N.length - ((As x).length + 1)) .un) (t { nx := fun _ H' => Q .non H', rt := Q })) :
    FnOk P wd K mg base (L2.CX P wd) (k + 1) fa fd ps (SpM K w As pre r f) := by
  refine F.okX S (fun vs H Q E h => ?_) (fun cdv A outer s H vs Q E hr h => ?_)
  · obtain ⟨B, a, x, u, us, S, _, _, rfl, _, ok, _⟩ := h
    show us.length + 1 = _
    rw [args_len ok]
    exact len x
  · obtain ⟨B, a, x, u, us, S, sB, hp, rfl, ho, ok, h1, h2⟩ := h
    obtain ⟨t, ht, hg⟩ := hbody cdv A outer s H E hr
    exact ⟨t, ht, hg B (delS H S) a x u Q hp (fun y a' e v B' H' S' y2 hS ho' hy => h1 y a' e v B' H' S' y2 hS ho' hy) (fun C e B' H' S' y2 hS ho' => h2 C e B' H' S' y2 hS ho') B H _ (Fr.entryM sB ho ok)⟩
end
/-- an expression that changes a slot's thing -/
def EvM (G : Cn) (te : TE) (T : List Ty) {β : Type} (r : Rp β) (y : β) (T' : List Ty) : Prop := ∀ B H σ, Fr G B H σ T → ∀ Q : VK, (∀ v B' H', Fr G B' H' σ T' → r.rp G.K B' y v → Q v H') → te σ H Q
theorem g_asgM {te : TE} {r : Rp β} {y : β} {T' : List Ty} {i : Nat} (h : EvM G te T r y T') (q : Goes G (T'.set i (.im r y)) D.nx) : Goes G T (tAsg te (gName i) D) := fun B H σ f => h B H σ f _ fun v B' H' f' e => q B' H' _ (f'.set_im i r e)
theorem q_asgM {te : TE} {tu : TS} {r : Rp β} {y : β} {T' : List Ty} {i : Nat} (h : EvM G te T r y T') (q : Goes G (T'.set i (.im r y)) (tu D)) : Goes G T (tSeq (tAsg te (gName i)) tu D) := g_asgM (D := { D with nx := tu D }) h q
theorem g_dropM {te : TE} {r : Rp β} {y : β} {T' : List Ty} (h : EvM G te T r y T') (q : Goes G T' D.nx) : Goes G T (tDrop te D) := fun B H σ f => h B H σ f _ fun v B' H' f' _ => q B' H' _ f'
theorem q_dropM {te : TE} {tu : TS} {r : Rp β} {y : β} {T' : List Ty} (h : EvM G te T r y T') (q : Goes G T' (tu D)) : Goes G T (tSeq (tDrop te) tu D) := g_dropM (D := { D with nx := tu D }) h q
theorem g_retMV [Rp α] {w : Ox α} {te : TE} {r : Rp β} {y : β} {T' : List Ty} {i : Nat} {a : α} {u : V} (h : EvM G te T r y T') (hi : T'[i]? = some (.ow (owV u w) a)) (q : RetM G D.rt u w r y a) : Goes G T (tRet te D) := fun B H σ f => h B H σ f _ fun v B1 H1 f1 e1 => by
  obtain ⟨own, o0, sl⟩ := f1.sl
  obtain ⟨s, _, u', rfl, rfl, S, hS, ho⟩ := sl i _ hi
  exact q v B1 H1 S f1.ext0 (fun p hp => o0 p i (hS p hp)) ho e1
theorem g_retMD {te : TE} {r : Rp β} {y : β} {T' : List Ty} (h : EvM G te T r y T') (q : RetD G D.rt r y) : Goes G T (tRet te D) := fun B H σ f => h B H σ f _ fun v B1 H1 f1 e1 => q v B1 H1 f1.ext0 e1
section
variable {ι : Type} {As : ι → List Ty} [ra : Rp α] {w : Ox α} {pre : α × ι → Prop} {r : Rp β} {f : α × ι → Except Addr (β × α)} {E : XK} {ES : L2.St → XK} {tr : TA} {x : ι} {a a' : α} {y : β} {u : V} {j : Nat}
/-- f(x, ..), x changed -/
theorem ev_callM (hj : T[j]? = some (.ow (owV u w) a)) (ha : EvA G tr T (As x)) (hp : pre (a, x)) (hf : f (a, x) = .ok (y, a')) : EvM G (tCall (SpM G.K w As pre r f) [] E (tCons (tVar j) tr)) T r y (T.set j (.ow (owV u w) a')) := fun B H σ fr Q q => by
  obtain ⟨S0, e1, _⟩ := fr.getO hj
  refine ⟨u, e1, ha B H σ fr _ fun vs B1 H1 x1 ok => ?_⟩
  have fr1 := fr.ext x1
  obtain ⟨S, e2, ho, hS0, k⟩ := fr1.mutO hj
  show SpM G.K w As pre r f ((u :: vs) ++ []) H1 Q E
  rw [List.append_nil]
  exact ⟨B1, a, x, u, vs, S, x1.s, hp, rfl, ho, ok, fun y' b' e v B' H' S' z hS' ho' hy => by
    rw [hf] at e
    cases e
    exact q v B' H' (k α ra w a' B' H' S' z hS' ho') hy, fun C e => by rw [hf] at e; cases e⟩
theorem ev_callMT (hj : T[j]? = some (.ow (owV u w) a)) (ha : EvA G tr T (As x)) (hp : pre (a, x)) (hf : f (a, x) = .ok (y, a')) : EvM G (tCallS (SpM G.K w As pre r f) ES (tCons (tVar j) tr)) T r y (T.set j (.ow (owV u w) a')) := fun B H σ fr Q q => by
  obtain ⟨S0, e1, _⟩ := fr.getO hj
  refine ⟨u, e1, ha B H σ fr _ fun vs B1 H1 x1 ok => ?_⟩
  have fr1 := fr.ext x1
  obtain ⟨S, e2, ho, hS0, k⟩ := fr1.mutO hj
  exact ⟨B1, a, x, u, vs, S, x1.s, hp, rfl, ho, ok, fun y' b' e v B' H' S' z hS' ho' hy => by
    rw [hf] at e
    cases e
    exact q v B' H' (k α ra w a' B' H' S' z hS' ho') hy, fun C e => by rw [hf] at e; cases e⟩
theorem set_same {T : List Ty} {j : Nat} {t : Ty} (h : T[j]? = some t) : T.set j t = T := by
  obtain ⟨h1, h2⟩ := List.getElem?_eq_some_iff.mp h
  rw [← h2]
  exact List.set_getElem_self h1
theorem ex_callM {C : Addr} (hj : T[j]? = some (.ow (owV u w) a)) (ha : EvA G tr T (As x)) (hp : pre (a, x)) (hf : f (a, x) = .error C) : EvXT G (tCall (SpM G.K w As pre r f) [] E (tCons (tVar j) tr)) T (fun _ H => E (.ref C) none H) := fun kk B H σ fr Q => by
  obtain ⟨S0, e1, _⟩ := fr.getO hj
  refine ⟨u, e1, ha B H σ fr _ fun vs B1 H1 x1 ok => ?_⟩
  have fr1 := fr.ext x1
  obtain ⟨S, e2, ho, hS0, k⟩ := fr1.mutO hj
  show SpM G.K w As pre r f ((u :: vs) ++ []) H1 Q E
  rw [List.append_nil]
  exact ⟨B1, a, x, u, vs, S, x1.s, hp, rfl, ho, ok, fun y' b' e => (by rw [hf] at e; cases e), fun C' e B' H' S' z hS' ho' => by
    rw [hf] at e
    cases e
    have f2 := k α ra w a B' H' S' z hS' ho'
    rw [set_same hj] at f2
    exact kk B' H' σ f2⟩
theorem ex_callMT {C : Addr} (hj : T[j]? = some (.ow (owV u w) a)) (ha : EvA G tr T (As x)) (hp : pre (a, x)) (hf : f (a, x) = .error C) : EvXT G (tCallS (SpM G.K w As pre r f) ES (tCons (tVar j) tr)) T (fun σ H => ES σ (.ref C) none H) := fun kk B H σ fr Q => by
  obtain ⟨S0, e1, _⟩ := fr.getO hj
  refine ⟨u, e1, ha B H σ fr _ fun vs B1 H1 x1 ok => ?_⟩
  have fr1 := fr.ext x1
  obtain ⟨S, e2, ho, hS0, k⟩ := fr1.mutO hj
  exact ⟨B1, a, x, u, vs, S, x1.s, hp, rfl, ho, ok, fun y' b' e => (by rw [hf] at e; cases e), fun C' e B' H' S' z hS' ho' => by
    rw [hf] at e
    cases e
    have f2 := k α ra w a B' H' S' z hS' ho'
    rw [set_same hj] at f2
    exact kk B' H' σ f2⟩
end
end
end DL

set_option Elab.async false
set_option linter.all false
set_option maxRecDepth 100000
set_option maxHeartbeats 4000000
/-! a law's own layer, twentieth part: a list of lists, all changed in place -/
namespace DL
open PySem PySem.Spec PyProof.Rows L2
structure MT (α : Type) where
  rows : List (List α)
instance rpMT {α : Type} [Rp α] : Rp (MT α) := ⟨fun K H a v => (@rpList (List α) rpList).rp K H a.rows v, fun {K H H' a v} e h => (@rpList (List α) rpList).mono e h⟩
/-- one row, as it stands -/
def rowAt {α : Type} [Rp α] (K : PySem.W.Frag) (B H : Hp) (row : List α) (a : Addr) : Prop := B a = none ∧ ∃ ws, H a = some (.lst ws) ∧ Paired (Rp.rp K B) row ws
theorem paired_memR {α β : Type} {F : α → β → Prop} {xs : List α} {ys : List β} {y : β} (h : Paired F xs ys) (hy : y ∈ ys) : ∃ x, x ∈ xs ∧ F x y := paired_mem h hy
theorem paired_upd {α β : Type} {F F' : α → β → Prop} : ∀ {xs : List α} {ys : List β}, Paired F xs ys → (∀ x y, y ∈ ys → F x y → F' x y) → Paired F' xs ys
  | _, _, .nil, _ => .nil
  | _, _, .cons r t, h => .cons (h _ _ List.mem_cons_self r) (paired_upd t fun x y hy => h x y (List.mem_cons_of_mem _ hy))
instance oxMT {α : Type} [Rp α] : Ox (MT α) where
  ox K B H x v S := ∃ (p : Addr) (as : List Addr), v = .ref p ∧ (∀ q, S q ↔ q = p ∨ q ∈ as) ∧ p ∉ as ∧ as.Nodup ∧ B p = none ∧ H p = some (.lst (as.map V.ref)) ∧ Paired (rowAt K B H) x.rows as
  fr := by
    rintro K B H B' H' a v S ⟨p, as, e, hS, n1, n2, b, h, r⟩ sb k
    refine ⟨p, as, e, hS, n1, n2, (k p ((hS p).mpr (.inl rfl))).2, (k p ((hS p).mpr (.inl rfl))).1.trans h, paired_upd r fun row a ha ⟨c1, ws, c2, c3⟩ => ?_⟩
    obtain ⟨k1, k2⟩ := k a ((hS a).mpr (.inr ha))
    exact ⟨k2, ws, k1.trans c2, paired_mono sb c3⟩
  nb := by
    rintro K B H a v S ⟨p, as, e, hS, n1, n2, b, h, r⟩ q hq
    rcases (hS q).mp hq with rfl | hq
    · exact ⟨b, by rw [h]; intro z; cases z⟩
    · obtain ⟨row, _, c1, ws, c2, _⟩ := paired_mem r hq
      exact ⟨c1, by rw [c2]; intro z; cases z⟩
  rd := by
    rintro K B H a v S ⟨p, as, e, hS, n1, n2, b, h, r⟩ H' sb k
    refine ⟨p, as.map V.ref, e, (k p ((hS p).mpr (.inl rfl))).trans h, ?_⟩
    have r2 : Paired (fun row a => (@rpList α _).rp K H' row (V.ref a)) a.rows as := paired_upd r fun row a ha ⟨c1, ws, c2, c3⟩ => ⟨a, ws, rfl, (k a ((hS a).mpr (.inr ha))).trans c2, paired_mono sb c3⟩
    clear e hS n1 n2 h r
    generalize a.rows = rows at r2
    show Paired _ rows _
    induction r2 with
    | nil => exact .nil
    | cons x _ ih => exact .cons x ih
section
variable {G : Cn} {T : List Ty} {D : Ends} {te ta tb tc td : TE} {tu : TS} {k : L2.St → Hp → Prop} {α β γ : Type} [ri : Rp α]
theorem oxMT_ref {K : PySem.W.Frag} {B H : Hp} {x : MT α} {u : V} {S : Addr → Prop} (h : oxMT.ox K B H x u S) : ∃ p, u = .ref p := ⟨h.choose, h.choose_spec.choose_spec.1⟩
theorem paired_app1 {F : α → β → Prop} {xs : List α} {ys : List β} {x : α} {y : β} (h : Paired F xs ys) (e : F x y) : Paired F (xs ++ [x]) (ys ++ [y]) := paired_append h (.cons e .nil)
theorem ev_newMT0 : EvO G (tLst tNil) T (oxMT (α := α)) ⟨[]⟩ := fun B H σ f Q q => ⟨Nat.zero_le _, fun p hp => by
  have x := upd_extN (o := .lst []) f.bh hp
  exact q (.ref p) B _ (fun q => q = p) x (fun q hq => by rw [hq]; exact hp) ⟨p, [], rfl, fun q => by simp, List.not_mem_nil, List.nodup_nil, f.bh.free hp, upd_same, .nil⟩⟩
/-- xs.append(row), row an owned list -/
theorem g_appMT {i j : Nat} {u : V} {a : MT α} {row : ML α} (hi : T[i]? = some (.ow (owV u oxMT) a)) (hj : T[j]? = some (.ow (@owML α ri) row)) (hij : i ≠ j) (hz : a.rows.length < 100000) (q : Goes G ((T.set j .any).set i (.ow (owV u oxMT) ⟨a.rows ++ [row.l]⟩)) D.nx) :
    Goes G T (tDrop (tBM G.K "list" rAppend (tVar i) (tCons (tVar j) tNil)) D) := fun B H σ f => by
  classical
  obtain ⟨own, o0, sl⟩ := f.sl
  obtain ⟨s, e1, v, rfl, rfl, S, hS, p, as, rfl, hSp, n1, n2, b, h, r⟩ := sl i _ hi
  obtain ⟨s, d1, v, rfl, p', vs, rfl, hp', nb', hH', r'⟩ := sl j _ hj
  have hpo : own p = some i := hS p ((hSp p).mpr (.inl rfl))
  have hpp : p' ≠ p := fun z => by rw [z, hpo] at hp'; exact hij (Option.some.inj hp')
  have hpas : p' ∉ as := fun z => by
    have := hS p' ((hSp p').mpr (.inr z))
    rw [this] at hp'
    exact hij (Option.some.inj hp')
  refine ⟨_, e1, .inl ⟨rfl, _, .inl (.inl h)⟩, _, d1, p, _, .ref p', rfl, rfl, h, by rw [List.length_map, ← Paired.length r]; exact sz_lt hz, ?_⟩
  have oth : ∀ x, x ≠ p → upd H p (.lst (as.map V.ref ++ [V.ref p'])) x = H x := fun x hx => upd_ne hx
  refine q B _ σ ⟨fun x o hx => ?_, f.b0, fun x o hx => ?_, f.n0, by rw [List.length_set, List.length_set]; exact f.len, fun x => if x = p' then some i else own x, fun x n hx => ?_, fun n t e => ?_⟩
  · rw [oth x (ne_of_none hx b)]
    exact f.bh x o hx
  · rw [oth x fun z => by rw [z, o0 p i hpo] at hx; cases hx]
    exact f.h0 x o hx
  · dsimp only at hx
    split at hx
    · rename_i z; rw [z]; exact o0 p' j hp'
    · exact o0 x n hx
  · by_cases hn : n = i
    · subst hn
      have hl : n < (T.set j .any).length := by rw [List.length_set]; exact (List.getElem?_eq_some_iff.mp hi).1
      rw [List.getElem?_set_self hl] at e
      cases e
      refine ⟨_, e1, _, rfl, rfl, fun x => x = p ∨ x ∈ as ++ [p'], fun x hx => ?_, p, as ++ [p'], rfl, fun x => Iff.rfl, ?_, ?_, b, ?_, ?_⟩
      · show (if x = p' then some n else own x) = some n
        by_cases hx' : x = p'
        · rw [if_pos hx']
        · rw [if_neg hx']
          rcases hx with hx | hx
          · rw [hx]; exact hpo
          · rcases List.mem_append.mp hx with hx | hx
            · exact hS x ((hSp x).mpr (.inr hx))
            · exact absurd (List.mem_singleton.mp hx) hx'
      · intro z
        rcases List.mem_append.mp z with z | z
        · exact n1 z
        · exact hpp (List.mem_singleton.mp z).symm
      · exact List.nodup_append.mpr ⟨n2, List.nodup_cons.mpr ⟨List.not_mem_nil, List.nodup_nil⟩, fun x hx y hy => by rw [List.mem_singleton.mp hy]; intro z; rw [z] at hx; exact hpas hx⟩
      · rw [upd_same, List.map_append]; rfl
      · refine paired_append (paired_upd r fun row x hx ⟨c1, ws, c2, c3⟩ => ⟨c1, ws, (oth x fun z => n1 (by rw [← z]; exact hx)).trans c2, c3⟩) (.cons ⟨nb', vs, (oth p' hpp).trans hH', r'⟩ .nil)
    · rw [List.getElem?_set_ne (Ne.symm hn)] at e
      by_cases hnj : n = j
      · subst hnj
        have hl : n < T.length := (List.getElem?_eq_some_iff.mp hj).1
        rw [List.getElem?_set_self hl] at e
        cases e
        exact ⟨_, d1, trivial⟩
      · rw [List.getElem?_set_ne (Ne.symm hnj)] at e
        obtain ⟨s, e3, z3⟩ := sl n t e
        refine ⟨s, e3, ?_⟩
        cases t with
        | im r a => exact z3
        | ow r a =>
          obtain ⟨v, ev, z4⟩ := z3
          refine ⟨v, ev, r.fr z4 (Same.refl _) fun x hx _ => ⟨?_, oth x fun z => ?_, rfl⟩⟩
          · show (if x = p' then some i else own x) = some n
            rw [if_neg fun z => by rw [z, hp'] at hx; exact hnj (Option.some.inj hx).symm]
            exact hx
          · rw [z, hpo] at hx; exact hn (Option.some.inj hx).symm
        | un => exact z3
        | any => trivial
theorem q_appMT {i j : Nat} {u : V} {a : MT α} {row : ML α} (hi : T[i]? = some (.ow (owV u oxMT) a)) (hj : T[j]? = some (.ow (@owML α ri) row)) (hij : i ≠ j) (hz : a.rows.length < 100000) (q : Goes G ((T.set j .any).set i (.ow (owV u oxMT) ⟨a.rows ++ [row.l]⟩)) (tu D)) :
    Goes G T (tSeq (tDrop (tBM G.K "list" rAppend (tVar i) (tCons (tVar j) tNil))) tu D) := g_appMT (D := { D with nx := tu D }) hi hj hij hz q
/-- xs.append(new list) -/
theorem g_appMTN {i : Nat} {u : V} {a : MT α} {row : List α} (hi : T[i]? = some (.ow (owV u oxMT) a)) (h : EvN G te T ri row) (hz : a.rows.length < 100000) (q : Goes G (T.set i (.ow (owV u oxMT) ⟨a.rows ++ [row]⟩)) D.nx) :
    Goes G T (tDrop (tBM G.K "list" rAppend (tVar i) (tCons te tNil)) D) := fun B H σ f => by
  obtain ⟨S, e1, ⟨p, as, rfl, hSp, n1, n2, b, hH, r⟩, hS0, kk⟩ := f.mutO hi
  refine ⟨_, e1, .inl ⟨rfl, _, .inl (.inl hH)⟩, h B H σ f _ fun p' ws B1 H1 x1 m1 m2 hp' rw' => ?_⟩
  refine ⟨p, _, .ref p', rfl, rfl, x1.h _ _ hH, by rw [List.length_map, ← Paired.length r]; exact sz_lt hz, ?_⟩
  have hpp : p' ≠ p := fun z => by rw [z] at m1; rw [hH] at m1; cases m1
  have hpas : p' ∉ as := fun z => by
    obtain ⟨row, _, c1, ws, c2, _⟩ := paired_mem r z
    rw [m1] at c2; cases c2
  have oth : ∀ x, x ≠ p → upd H1 p (.lst (as.map V.ref ++ [V.ref p'])) x = H1 x := fun x hx => upd_ne hx
  have bp : B1 p = none := x1.none hH b
  refine q B1 _ σ (kk (MT α) rpMT oxMT ⟨a.rows ++ [row]⟩ B1 _ (fun x => x = p ∨ x ∈ as ++ [p']) ⟨x1.b, fun x o hx => ?_, fun x o hx => ?_, fun x hx => ?_⟩ (fun x hx => ?_) ⟨p, as ++ [p'], rfl, fun x => Iff.rfl, ?_, ?_, bp, ?_, ?_⟩)
  · obtain ⟨g1, g2⟩ := delS_some hx
    rw [oth x fun z => g1 ((hSp x).mpr (.inl z))]
    exact x1.h _ _ g2
  · rw [oth x (ne_of_none hx bp)]
    exact x1.s x o hx
  · refine x1.n x fun z => hx ?_
    by_cases hs : S x
    · exact delS_in hs
    · rw [delS_ne hs]; exact z
  · by_cases hs : S x
    · exact delS_in hs
    · rw [delS_ne hs]
      rcases hx with hx | hx
      · exact absurd ((hSp x).mpr (.inl hx)) hs
      · rcases List.mem_append.mp hx with hx | hx
        · exact absurd ((hSp x).mpr (.inr hx)) hs
        · rw [List.mem_singleton.mp hx]; exact m1
  · intro z
    rcases List.mem_append.mp z with z | z
    · exact n1 z
    · exact hpp (List.mem_singleton.mp z).symm
  · exact List.nodup_append.mpr ⟨n2, List.nodup_cons.mpr ⟨List.not_mem_nil, List.nodup_nil⟩, fun x hx y hy => by rw [List.mem_singleton.mp hy]; intro z; rw [z] at hx; exact hpas hx⟩
  · rw [upd_same, List.map_append]; rfl
  · exact paired_append (paired_upd r fun row x hx ⟨c1, vs, c2, c3⟩ => ⟨x1.none c2 c1, vs, (oth x fun z => n1 (by rw [← z]; exact hx)).trans (x1.h _ _ c2), paired_mono x1.b c3⟩) (.cons ⟨m2, ws, (oth p' hpp).trans hp', rw'⟩ .nil)
/-- a row's object -/
theorem row_get {K : PySem.W.Frag} {B H : Hp} {rows : List (List α)} {as : List Addr} {n : Int} {row : List α} (r : Paired (rowAt K B H) rows as) (e : atI rows n = some row) : ∃ (j : Nat) (x : Addr), rows[j]? = some row ∧ as[j]? = some x ∧ ixN rows.length n = some j ∧ atI (as.map V.ref) n = some (.ref x) ∧ rowAt K B H row x := by
  unfold atI at e
  cases q : ixN rows.length n with
  | none => rw [q] at e; cases e
  | some j =>
    rw [q] at e
    have e : rows[j]? = some row := e
    obtain ⟨x, h1, h2⟩ := paired_get r e
    refine ⟨j, x, e, h1, rfl, ?_, h2⟩
    unfold atI
    rw [List.length_map, ← Paired.length r, q]
    show (as.map V.ref)[j]? = _
    rw [List.getElem?_map, h1]
    rfl
theorem nodup_get {as : List Addr} (h : as.Nodup) {i j : Nat} {x : Addr} (hi : as[i]? = some x) (hj : as[j]? = some x) : i = j := by
  obtain ⟨h1, e1⟩ := List.getElem?_eq_some_iff.mp hi
  obtain ⟨h2, e2⟩ := List.getElem?_eq_some_iff.mp hj
  exact (List.getElem_inj h).mp (e1.trans e2.symm)
theorem rows_set {K : PySem.W.Frag} {B H : Hp} {a : Addr} {ws : List V} {row : List α} : ∀ {rows : List (List α)} {as : List Addr} (j : Nat), Paired (rowAt K B H) rows as → as.Nodup → as[j]? = some a → Paired (Rp.rp K B) row ws → Paired (rowAt K B (upd H a (.lst ws))) (rows.set j row) as
  | _, _, _, .nil, _, h, _ => by simp at h
  | _ :: _, x :: as, 0, .cons r t, nd, h, hr => by
    simp at h
    subst h
    have nd := List.nodup_cons.mp nd
    exact .cons ⟨r.1, ws, upd_same, hr⟩ (paired_upd t fun row y hy ⟨c1, vs, c2, c3⟩ => ⟨c1, vs, (upd_ne fun z => nd.1 (by rw [← z]; exact hy)).trans c2, c3⟩)
  | _ :: _, x :: as, j + 1, .cons r t, nd, h, hr => by
    have nd := List.nodup_cons.mp nd
    have h : as[j]? = some a := by simpa using h
    have hxa : x ≠ a := fun z => nd.1 (by rw [z]; exact List.mem_of_getElem? h)
    obtain ⟨c1, vs, c2, c3⟩ := r
    exact .cons ⟨c1, vs, (upd_ne hxa).trans c2, c3⟩ (rows_set j t nd.2 h hr)
/-- a row changed, all else as it stands -/
theorem Fr.rowSet {B H : Hp} {σ : L2.St} (f : Fr G B H σ T) {i : Nat} {u : V} {a : MT α} {n : Int} {row : List α} (hi : T[i]? = some (.ow (owV u oxMT) a)) (e : atI a.rows n = some row) :
    ∃ (p x : Addr) (vs : List V) (ws : List V) (j : Nat), u = .ref p ∧ H p = some (.lst vs) ∧ atI vs n = some (.ref x) ∧ H x = some (.lst ws) ∧ Paired (ri.rp G.K B) row ws ∧ ixN a.rows.length n = some j ∧ ∀ (row' : List α) (ws' : List V), Paired (ri.rp G.K B) row' ws' → Fr G B (upd H x (.lst ws')) σ (T.set i (.ow (owV u oxMT) ⟨a.rows.set j row'⟩)) := by
  obtain ⟨S, e1, ⟨p, as, rfl, hSp, n1, n2, b, hH, r⟩, hS0, kk⟩ := f.mutO hi
  obtain ⟨j, x, g1, g2, g3, g4, c1, ws, c2, c3⟩ := row_get r e
  refine ⟨p, x, _, ws, j, rfl, hH, g4, c2, c3, g3, fun row' ws' hr => ?_⟩
  have hx := List.mem_of_getElem? g2
  have hpx : p ≠ x := fun z => n1 (by rw [z]; exact hx)
  refine kk (MT α) rpMT oxMT _ B _ S ⟨Same.refl _, fun y o hy => ?_, fun y o hy => ?_, fun _ _ => rfl⟩ (fun y hy => delS_in hy) ⟨p, as, rfl, hSp, n1, n2, b, (upd_ne hpx).trans hH, rows_set j r n2 g2 hr⟩
  · obtain ⟨k1, k2⟩ := delS_some hy
    rw [upd_ne fun z => k1 ((hSp y).mpr (.inr (by rw [z]; exact hx)))]
    exact k2
  · rw [upd_ne (ne_of_none hy c1)]
    exact f.bh y o hy
/-- xs[n][m] = y -/
theorem g_setMT {i : Nat} {u : V} {a : MT α} {y : α} {n m : Int} {row : List α} {jn jm : Nat} (hi : T[i]? = some (.ow (owV u oxMT) a)) (h : EvD G te T ri y) (hn : EvD G ta T rpInt n) (hm : EvD G tb T rpInt m) (er : atI a.rows n = some row) (ejn : ixN a.rows.length n = some jn) (ejm : ixN row.length m = some jm)
    (q : Goes G (T.set i (.ow (owV u oxMT) ⟨a.rows.set jn (row.set jm y)⟩)) D.nx) : Goes G T (tAsg te (gSub (tOp (rIxL G.K) (tVar i) ta) tb rSetL) D) := fun B H σ f =>
  h B H σ f _ fun v B1 H1 x1 h1 => by
    obtain ⟨S, e1, _⟩ := f.getO hi
    refine ⟨u, e1, hn B1 H1 σ (f.ext x1) _ fun w B2 H2 x2 h2 => ?_⟩
    have f2 := (f.ext x1).ext x2
    obtain ⟨p, x, vs, ws, j, rfl, hp, g1, g2, g3, g4, kk⟩ := f2.rowSet hi er
    refine ⟨p, vs, n, .ref x, rfl, h2, .inl (.inl hp), g1, hm B2 H2 σ f2 _ fun z B3 H3 x3 h3 => ?_⟩
    obtain ⟨p3, x', vs', ws', j', ep, hp', g1', g2', g3', g4', kk2⟩ := (f2.ext x3).rowSet hi er
    cases ep
    have ev : vs' = vs := by have := (x3.h _ _ hp).symm.trans hp'; cases this; rfl
    subst ev
    have ex : x' = x := by rw [g1] at g1'; cases g1'; rfl
    subst ex
    have ej : j' = jn := by rw [g4'] at ejn; cases ejn; rfl
    subst ej
    refine ⟨x', ws', m, jm, rfl, h3, g2', by rw [← Paired.length g3']; exact ejm, ?_⟩
    exact q B3 _ σ (kk2 _ _ (paired_set (ri.mono (x2.b.trans x3.b) h1) jm g3'))
/-- xs[n].append(y) -/
theorem g_appRow {i : Nat} {u : V} {a : MT α} {y : α} {n : Int} {row : List α} {jn : Nat} (hi : T[i]? = some (.ow (owV u oxMT) a)) (hn : EvD G ta T rpInt n) (h : EvD G te T ri y) (er : atI a.rows n = some row) (ejn : ixN a.rows.length n = some jn) (hz : row.length < 100000)
    (q : Goes G (T.set i (.ow (owV u oxMT) ⟨a.rows.set jn (row ++ [y])⟩)) D.nx) : Goes G T (tDrop (tBM G.K "list" rAppend (tOp (rIxL G.K) (tVar i) ta) (tCons te tNil)) D) := fun B H σ f => by
  obtain ⟨S, e1, _⟩ := f.getO hi
  refine ⟨u, e1, hn B H σ f _ fun w B2 H2 x2 h2 => ?_⟩
  have f2 := f.ext x2
  obtain ⟨p, x, vs, ws, j, rfl, hp, g1, g2, g3, g4, kk⟩ := f2.rowSet hi er
  refine ⟨p, vs, n, .ref x, rfl, h2, .inl (.inl hp), g1, .inl ⟨rfl, _, .inl (.inl g2)⟩, h B2 H2 σ f2 _ fun v B3 H3 x3 h3 => ?_⟩
  obtain ⟨p3, x', vs', ws', j', ep, hp', g1', g2', g3', g4', kk2⟩ := (f2.ext x3).rowSet hi er
  cases ep
  have ev : vs' = vs := by have := (x3.h _ _ hp).symm.trans hp'; cases this; rfl
  subst ev
  have ex : x' = x := by rw [g1] at g1'; cases g1'; rfl
  subst ex
  have ej : j' = jn := by rw [g4'] at ejn; cases ejn; rfl
  subst ej
  refine ⟨x', ws', v, rfl, rfl, g2', by rw [← Paired.length g3']; exact sz_lt hz, ?_⟩
  exact q B3 _ σ (kk2 _ _ (paired_append g3' (.cons h3 .nil)))
theorem q_appRow {i : Nat} {u : V} {a : MT α} {y : α} {n : Int} {row : List α} {jn : Nat} (hi : T[i]? = some (.ow (owV u oxMT) a)) (hn : EvD G ta T rpInt n) (h : EvD G te T ri y) (er : atI a.rows n = some row) (ejn : ixN a.rows.length n = some jn) (hz : row.length < 100000)
    (q : Goes G (T.set i (.ow (owV u oxMT) ⟨a.rows.set jn (row ++ [y])⟩)) (tu D)) : Goes G T (tSeq (tDrop (tBM G.K "list" rAppend (tOp (rIxL G.K) (tVar i) ta) (tCons te tNil))) tu D) := g_appRow (D := { D with nx := tu D }) hi hn h er ejn hz q
/-- its rows let stand -/
theorem g_rowsMT {i : Nat} {u : V} {a : MT α} (hi : T[i]? = some (.ow (owV u oxMT) a)) (q : Goes G (T.set i (.ow (@owML (List α) (@rpList α ri)) ⟨a.rows⟩)) k) : Goes G T k := fun B H σ f => by
  obtain ⟨v, F, e1, ⟨rfl, S, hS, p, as, rfl, hSp, n1, n2, b, hH, r⟩, kk⟩ := f.freezeG hi
  have hb : ∀ q, q ∈ as → B q = none := fun q hq => by
    obtain ⟨row, _, c1, _⟩ := paired_mem r hq
    exact c1
  refine q _ H σ (kk (fun q => q ∈ as) _ (fun q hq => ⟨hS q ((hSp q).mpr (.inr hq)), hb q hq⟩) ⟨_, rfl, p, as.map V.ref, rfl, ⟨hS p ((hSp p).mpr (.inl rfl)), n1⟩, (glue_ne n1).trans b, hH, ?_⟩)
  have sB := glue_up (H := H) hb
  have r2 : Paired (fun row a => (@rpList α _).rp G.K (glue (fun q => q ∈ as) H B) row (V.ref a)) a.rows as := paired_upd r fun row x hx ⟨c1, ws, c2, c3⟩ => ⟨x, ws, rfl, (glue_in hx).trans c2, paired_mono sB c3⟩
  clear e1 kk hS hSp n1 n2 hH r hb q hi sB f
  show Paired _ a.rows _
  generalize glue (fun q => q ∈ as) H B = B2 at r2 ⊢
  generalize a.rows = rows at r2 ⊢
  induction r2 with
  | nil => exact .nil
  | cons x _ ih => exact .cons x ih
/-- seen as a table of another kind -/
theorem g_mapMT [r2 : Rp β] {i : Nat} {u : V} {a : MT α} {b : MT β} (hi : T[i]? = some (.ow (owV u (oxMT (α := α))) a)) (e : ∀ {K : PySem.W.Frag} {B H : Hp} {as : List Addr}, Paired (rowAt K B H) a.rows as → Paired (rowAt K B H) b.rows as) (q : Goes G (T.set i (.ow (owV u (oxMT (α := β))) b)) k) : Goes G T k := fun B H σ f => q B H σ (by
  obtain ⟨own, o0, sl⟩ := f.sl
  refine ⟨f.bh, f.b0, f.h0, f.n0, by rw [List.length_set]; exact f.len, own, o0, fun j t h => ?_⟩
  by_cases hj : i = j
  · subst hj
    have hl : i < T.length := (List.getElem?_eq_some_iff.mp hi).1
    rw [List.getElem?_set_self hl] at h
    cases h
    obtain ⟨s, e1, v, e2, e3, S, hS, p, as, h1, h2, h3, h4, h5, h6, h7⟩ := sl i _ hi
    exact ⟨s, e1, v, e2, e3, S, hS, p, as, h1, h2, h3, h4, h5, h6, e h7⟩
  · rw [List.getElem?_set_ne hj] at h
    exact sl j t h)
theorem g_toDMT [ToD α] {i : Nat} {u : V} {a : MT α} (hi : T[i]? = some (.ow (owV u (oxMT (α := α))) a)) (q : Goes G (T.set i (.ow (owV u (oxMT (α := DL.D))) ⟨a.rows.map fun row => row.map ToD.d⟩)) k) : Goes G T k := g_mapMT (b := ⟨a.rows.map fun row => row.map ToD.d⟩) hi (fun h => paired_map (F := rowAt _ _ _) (fun row x ⟨c1, ws, c2, c3⟩ => ⟨c1, ws, c2, paired_map (fun _ _ z => ToD.rp z) c3⟩) h) q
/-- [new list for .. in ..] -/
theorem ev_lcT {δ : Type} [r2 : Rp δ] {r : Rp γ} {wi : TI} {g : TG} {vs : List Nat} {xs : List γ} (f : γ → List δ) (hi : EvI G wi T r xs) (ho : Own g vs)
    (hs : ∀ x, x ∈ xs → ∃ T2, EvG G g (wipeT T vs) r x T2 ∧ EvN G te T2 r2 (f x)) (hz : xs.length ≤ 90000) : EvO G (tLc wi g tYes te vs) T (oxMT (α := δ)) ⟨xs.map f⟩ := fun B H σ fr Q q => hi B H σ fr _ fun J B1 H1 x1 ok => by
  refine fun Dl hD => ?_
  have nD : H Dl = none := x1.h.free hD
  have nB : B1 Dl = none := x1.s.free hD
  have x1' : Ext B H B1 (upd H1 Dl (.lst [])) := x1.trans (upd_extN x1.s hD)
  refine ⟨fun i m H' => m = xs.length - i ∧ i ≤ xs.length ∧ ∃ B' as, Ext B H B' H' ∧ Same B1 B' ∧ B' Dl = none ∧ H' Dl = some (.lst (as.map V.ref)) ∧ Dl ∉ as ∧ as.Nodup ∧ (∀ a ∈ as, H a = none) ∧ Paired (rowAt G.K B' H') ((xs.take i).map f) as,
    ⟨xs.length, rfl, Nat.zero_le _, B1, [], x1', Same.refl _, nB, upd_same, List.not_mem_nil, List.nodup_nil, fun a h => absurd h List.not_mem_nil, by rw [List.take_zero]; exact .nil⟩, ?_⟩
  rintro i m H' ⟨rfl, hle, B', as, x', s1, nB', hDl, nd1, nd2, nf, pw⟩
  by_cases hlt : i < xs.length
  · have ex : xs[i]? = some xs[i] := List.getElem?_eq_getElem hlt
    obtain ⟨T2, hg, he⟩ := hs xs[i] (List.getElem_mem hlt)
    have etk : xs.take (i + 1) = xs.take i ++ [xs[i]] := by rw [List.take_add_one, ex] <;> rfl
    refine .inr ⟨ok.go B' H' i _ s1 x'.s ex, fun H3 => ∃ B3 as3, Ext B H B3 H3 ∧ Same B1 B3 ∧ B3 Dl = none ∧ H3 Dl = some (.lst (as3.map V.ref)) ∧ Dl ∉ as3 ∧ as3.Nodup ∧ (∀ a ∈ as3, H a = none) ∧ Paired (rowAt G.K B3 H3) ((xs.take (i + 1)).map f) as3, fun H3 h3 => ⟨xs.length - (i + 1), by omega, rfl, hlt, h3⟩, fun v H2 y => ?_⟩
    obtain ⟨B2, x2, rv⟩ := ok.yld B' H' i _ v H2 s1 x'.s ex y
    have fr2 : Fr G B2 H2 (L2.wipe σ vs) (wipeT T vs) := ((fr.ext x').ext x2).wipe vs
    refine ho v _ H2 (fun σ2 H4 => H4 = H2 ∧ Fr G B2 H2 σ2 T2) _ (fun σ2 hw hq => ?_) (hg B2 H2 _ v fr2 rv _ fun σ2 f2 => ⟨rfl, f2⟩)
    obtain ⟨_, f2⟩ := hq
    refine ⟨by rw [hw, wipe_wipe], ?_⟩
    refine et_yes (G := G) (T := T2) B2 H2 σ2 f2 _ fun B5 H5 x5 => ?_
    refine iteT (he B5 H5 σ2 (f2.ext x5) _ fun p' ws B6 H6 x6 m1 m2 hp' rw6 => ?_)
    have x25 := x2.trans x5
    have x26 := x25.trans x6
    have hD5 : H5 Dl = some (.lst (as.map V.ref)) := x5.h _ _ (x2.h _ _ hDl)
    have nB6 : B6 Dl = none := x26.none hDl nB'
    have hpD : p' ≠ Dl := fun z => by rw [z, hD5] at m1; cases m1
    have hpas : p' ∉ as := fun z => by
      obtain ⟨row, _, c1, vs', c2, _⟩ := paired_mem pw z
      rw [x25.h _ _ c2] at m1; cases m1
    have hl : (as.map V.ref).length < 100000 := by
      rw [List.length_map, ← Paired.length pw, List.length_map]
      have h2 := List.length_take_le i xs
      omega
    refine ⟨as.map V.ref, x6.h _ _ hD5, sz_lt hl, B6, as ++ [p'], ⟨(x'.trans x26).b, fun b o e => ?_, fun b o e => ?_, (x'.trans x26).n⟩, s1.trans x26.b, nB6, ?_, ?_, ?_, ?_, ?_⟩
    · rw [upd_ne (ne_of_none e nD)]; exact (x'.trans x26).h b o e
    · rw [upd_ne (ne_of_none e nB6)]; exact x26.s b o e
    · rw [upd_same, List.map_append]; rfl
    · intro z
      rcases List.mem_append.mp z with z | z
      · exact nd1 z
      · exact hpD (List.mem_singleton.mp z).symm
    · exact List.nodup_append.mpr ⟨nd2, List.nodup_cons.mpr ⟨List.not_mem_nil, List.nodup_nil⟩, fun x hx y hy => by rw [List.mem_singleton.mp hy]; intro z; rw [z] at hx; exact hpas hx⟩
    · intro a ha
      rcases List.mem_append.mp ha with ha | ha
      · exact nf a ha
      · rw [List.mem_singleton.mp ha]
        exact x'.h.free (x25.h.free m1)
    · rw [etk, List.map_append]
      exact paired_append (paired_upd pw fun row x hx ⟨c1, vs', c2, c3⟩ => ⟨x26.none c2 c1, vs', (upd_ne fun z => nd1 (by rw [← z]; exact hx)).trans (x26.h _ _ c2), paired_mono x26.b c3⟩) (.cons ⟨m2, ws, (upd_ne hpD).trans hp', rw6⟩ .nil)
  · have e : i = xs.length := by omega
    subst e
    rw [List.take_length] at pw
    refine .inl ⟨ok.stop B' H' s1 x'.s, q (.ref Dl) B' H' (fun a => a = Dl ∨ a ∈ as) x' (fun a ha => ?_) ⟨Dl, as, rfl, fun _ => Iff.rfl, nd1, nd2, nB', hDl, pw⟩⟩
    rcases ha with rfl | ha
    · exact nD
    · exact nf a ha
end
end DL

set_option Elab.async false
set_option linter.all false
set_option maxRecDepth 100000
set_option maxHeartbeats 4000000
/-! a law's own layer, twenty-first part: a def that takes over its first argument for good; greatest numbers -/
namespace DL
open PySem PySem.Spec PyProof.Rows L2
/-- nothing at all -/
structure Nul where
instance rpNul : Rp Nul := ⟨fun _ _ _ _ => True, fun _ h => h⟩
instance oxNul : Ox Nul where
  ox _ _ _ _ _ S := ∀ q, ¬ S q
  fr h _ _ := h
  nb h q hq := absurd hq (h q)
  rd _ _ _ _ := trivial
def SpT (K : PySem.W.Frag) {α ι β : Type} [Rp α] (w : Ox α) (As : ι → List Ty) (pre : α × ι → Prop) (r : Rp β) (f : α × ι → β) : Sp := fun vs H Q E => ∃ (B : Hp) (a : α) (x : ι) (u : V) (us : List V) (S : Addr → Prop), Same B H ∧ pre (a, x) ∧ vs = u :: us ∧ w.ox K B H a u S ∧ ArgsOk K B us (As x) ∧
  ∀ v B' H', Ext B (delS H S) B' H' → r.rp K B' (f (a, x)) v → Q v H'
section
variable {ι α β : Type} {As : ι → List Ty} [ra : Rp α] {w : Ox α} {pre : α × ι → Prop} {r : Rp β} {f : α × ι → β}
variable {P : Program} {wd : World} {K : PySem.W.Frag} {mg : Str → Option Value} {base : Heap} {nm qual : Str} {st : Stmt} {fa : Addr} {fd : FuncData} {N ps : List Str} {k : Nat}
theorem def_okT (F : Fun K nm qual st fa fd) (S : FnScope N ps (defScope st)) (len : ∀ x, (As x).length + 1 = ps.length)
    (hbody : ∀ (cdv : Value) (A : Around) (outer : List Env) (s : Shared) (H : Hp) (E : XK), Room k (A.deeper (envOfC qual (defScope st) s.heap.objs.size fa cdv)) →
      ∃ t, PSs (cxOf (L2.CX P wd) P wd K mg base N qual (defScope st) fa cdv A outer s H E) (defBody st) t ∧ ∀ (B H1 : Hp) (a : α) (x : ι) (u : V) (Q : VK), pre (a, x) → RetD ⟨K, B, H1⟩ Q r (f (a, x)) →
        Goes ⟨K, B, H1⟩ ((.ow (owV u w) a :: As x) ++ List.replicate (N.length - ((As x).length + 1)) .un) (t { nx := fun _ H' => Q .non H', rt := Q })) :
    FnOk P wd K mg base (L2.CX P wd) (k + 1) fa fd ps (SpT K w As pre r f) := by
  refine F.okX S (fun vs H Q E h => ?_) (fun cdv A outer s H vs Q E hr h => ?_)
  · obtain ⟨B, a, x, u, us, S, _, _, rfl, _, ok, _⟩ := h
    show us.length + 1 = _
    rw [args_len ok]
    exact len x
  · obtain ⟨B, a, x, u, us, S, sB, hp, rfl, ho, ok, h1⟩ := h
    obtain ⟨t, ht, hg⟩ := hbody cdv A outer s H E hr
    exact ⟨t, ht, hg B (delS H S) a x u Q hp (fun v B' H' y z => h1 v B' H' y z) B H _ (Fr.entryM sB ho ok)⟩
variable {G : Cn} {T : List Ty} {D : Ends} {tu : TS} {E : XK} {tr : TA} {x : ι} {a : α} {b : β} {u : V} {i j : Nat}
theorem ev_callTk (hj : T[j]? = some (.ow (owV u w) a)) (ha : EvA G tr T (As x)) (hp : pre (a, x)) (hf : f (a, x) = b) : EvM G (tCall (SpT G.K w As pre r f) [] E (tCons (tVar j) tr)) T r b (T.set j (.ow (owV u oxNul) ⟨⟩)) := fun B H σ fr Q q => by
  obtain ⟨S0, e1, _⟩ := fr.getO hj
  refine ⟨u, e1, ha B H σ fr _ fun vs B1 H1 x1 ok => ?_⟩
  have fr1 := fr.ext x1
  obtain ⟨S, e2, ho, hS0, k⟩ := fr1.mutO hj
  show SpT G.K w As pre r f ((u :: vs) ++ []) H1 Q E
  rw [List.append_nil]
  exact ⟨B1, a, x, u, vs, S, x1.s, hp, rfl, ho, ok, fun v B' H' z hy => q v B' H' (k Nul rpNul oxNul ⟨⟩ B' H' (fun _ => False) z (fun q hq => hq.elim) fun _ z => z) (by rw [hf] at hy; exact hy)⟩
end
theorem EvO.dt {G : Cn} {T : List Ty} {te : TE} {α : Type} [r : Rp α] {t : List (List α)} (h : EvO G te T (oxMT (α := α)) ⟨t⟩) : EvD G te T (@rpList (List α) (@rpList α r)) t := fun B H σ f Q q => EvO.d h B H σ f Q q
/-! ### the greatest number of a list -/
def maxL : List Int → Int
  | [] => 0
  | [x] => x
  | x :: y :: r => max x (maxL (y :: r))
theorem maxL_ok : ∀ {xs : List Int}, xs ≠ [] → maxL xs ∈ xs ∧ ∀ y ∈ xs, y ≤ maxL xs
  | [], h => absurd rfl h
  | [x], _ => ⟨List.mem_singleton.mpr rfl, fun y hy => by rw [List.mem_singleton.mp hy]; exact Int.le_refl _⟩
  | x :: y :: r, _ => by
    obtain ⟨h1, h2⟩ := maxL_ok (xs := y :: r) (by simp)
    refine ⟨?_, fun z hz => ?_⟩
    · show max x (maxL (y :: r)) ∈ _
      by_cases h : x ≤ maxL (y :: r)
      · rw [Int.max_eq_right h]; exact List.mem_cons_of_mem _ h1
      · rw [Int.max_eq_left (by omega)]; exact List.mem_cons_self
    · show z ≤ max x (maxL (y :: r))
      rcases List.mem_cons.mp hz with rfl | hz
      · exact Int.le_max_left _ _
      · exact Int.le_trans (h2 z hz) (Int.le_max_right _ _)
theorem maxL_is {xs : List Int} {k : Int} (hk : k ∈ xs) (h : ∀ y ∈ xs, y ≤ k) : k = maxL xs := by
  have hne : xs ≠ [] := fun z => by rw [z] at hk; cases hk
  obtain ⟨h1, h2⟩ := maxL_ok hne
  exact Int.le_antisymm (h2 k hk) (h _ h1)
end DL

set_option Elab.async false
set_option linter.all false
set_option maxRecDepth 100000
set_option maxHeartbeats 4000000
/-! a law's own layer, twenty-second part: reading what is owned, as the heap stands -/
namespace DL
open PySem PySem.Spec PyProof.Rows L2
section
variable {G : Cn} {T : List Ty} {te ta tb : TE} {α β : Type} {r : Rp α} {D : Ends} {k : L2.St → Hp → Prop}
theorem ev_lenH {xs : List α} (h : EvH G te T (@rpList α r) xs) : EvD G (tCB (rLenQ G.K) (tCons te tNil)) T rpInt (xs.length : Int) := fun B H σ f Q q =>
  h B H σ f _ fun v B1 H1 x1 e1 => by
    obtain ⟨p, vs, rfl, hp, z⟩ := e1
    refine ⟨p, vs, rfl, .inl (.inl (.inl hp)), ?_⟩
    rw [← Paired.length z]
    exact q _ B1 H1 x1 rfl
theorem ev_ixH {xs : List α} {i : Int} {a : α} (hl : EvH G ta T (@rpList α r) xs) (hi : EvD G tb T rpInt i) (e : atI xs i = some a) : EvH G (tOp (rIxL G.K) ta tb) T r a := fun B H σ f Q q =>
  hl B H σ f _ fun v B1 H1 x1 e1 => hi B1 H1 σ (f.ext x1) _ fun u B2 H2 x2 e2 => by
    obtain ⟨p, vs, rfl, hp, z⟩ := (@rpList α r).mono x2.h e1
    obtain ⟨y, h1, h2⟩ := atI_paired z e
    exact ⟨p, vs, i, y, rfl, e2, .inl (.inl hp), h1, q _ B2 H2 (x1.trans x2) h2⟩
theorem EvH.mt [r : Rp α] {t : List (List α)} (h : EvH G te T (rpMT (α := α)) ⟨t⟩) : EvH G te T (@rpList (List α) (@rpList α r)) t := fun B H σ f Q q => h B H σ f Q q
theorem g_letT [r : Rp α] {i : Nat} {u : V} {t : List (List α)} (h : T[i]? = some (.ow (owV u (oxMT (α := α))) ⟨t⟩)) (q : Goes G (T.set i (.im (@rpList (List α) (@rpList α r)) t)) k) : Goes G T k := by
  refine g_letO h ?_
  have hi : i < T.length := (List.getElem?_eq_some_iff.mp h).1
  refine g_as (r := rpMT) (r' := @rpList (List α) (@rpList α r)) (i := i) (a := (⟨t⟩ : MT α)) (b := t) (List.getElem?_set_self hi) (fun z => z) ?_
  rw [List.set_set]
  exact q
end
end DL

set_option Elab.async false
set_option linter.all false
set_option maxRecDepth 100000
set_option maxHeartbeats 4000000
/-! a law's own layer, twenty-third part: parts of an owned thing; methods, calls of a class -/
namespace DL
open PySem PySem.Spec PyProof.Rows L2
/-! ### a part that stands by itself within what a slot owns -/
def Has (G : Cn) (te : TE) (T : List Ty) {α : Type} [Rp α] (w : Ox α) (a : α) (U : α → List Ty) : Prop := ∀ B H σ, Fr G B H σ T → ∃ u, (∀ Q : VK, Q u H → te σ H Q) ∧ ∀ B2 H2, Ext B H B2 H2 → ∃ S, w.ox G.K B2 H2 a u S ∧ ∀ a' B' H' S', Ext B2 (delS H2 S) B' H' → (∀ q, S' q → delS H2 S q = none) → w.ox G.K B' H' a' u S' → Fr G B' H' σ (U a')
section
variable {G : Cn} {T : List Ty} {D : Ends} {te ta tb tc td ty tv : TE} {tu : TS} {k : L2.St → Hp → Prop} {α β γ : Type} [ri : Rp α]
theorem has_var {w : Ox α} {j : Nat} {a : α} {u : V} (h : T[j]? = some (.ow (owV u w) a)) : Has G (tVar j) T w a fun a' => T.set j (.ow (owV u w) a') := fun B H σ f => by
  obtain ⟨S0, e1, _⟩ := f.getO h
  refine ⟨u, fun Q q => ⟨u, e1, q⟩, fun B2 H2 x => ?_⟩
  obtain ⟨S, _, ho, _, kk⟩ := (f.ext x).mutO h
  exact ⟨S, ho, fun a' B' H' S' y hS h' => kk α ri w a' B' H' S' y hS h'⟩
/-- xs[n][m] = y -/
theorem g_setHas {a : MT α} {U : MT α → List Ty} {y : α} {n m : Int} {row : List α} {jn jm : Nat} (hi : Has G td T (oxMT (α := α)) a U) (h : EvD G te T ri y) (hn : EvD G ta T rpInt n) (hm : EvD G tb T rpInt m) (er : atI a.rows n = some row) (ejn : ixN a.rows.length n = some jn) (ejm : ixN row.length m = some jm)
    (q : Goes G (U ⟨a.rows.set jn (row.set jm y)⟩) D.nx) : Goes G T (tAsg te (gSub (tOp (rIxL G.K) td ta) tb rSetL) D) := fun B H σ f =>
  h B H σ f _ fun v B1 H1 x1 h1 => by
    obtain ⟨u, eu, ku⟩ := hi B1 H1 σ (f.ext x1)
    refine eu _ (hn B1 H1 σ (f.ext x1) _ fun w B2 H2 x2 h2 => ?_)
    obtain ⟨S, ⟨p, as, rfl, hSp, n1, n2, b, hH, r⟩, _⟩ := ku B2 H2 x2
    obtain ⟨j, x, g1, g2, g3, g4, c1, ws, c2, c3⟩ := row_get r er
    refine ⟨p, _, n, .ref x, rfl, h2, .inl (.inl hH), g4, hm B2 H2 σ ((f.ext x1).ext x2) _ fun z B3 H3 x3 h3 => ?_⟩
    obtain ⟨S3, ⟨p3, as3, ep, hSp, n1, n2, b, hH3, r⟩, kk⟩ := ku B3 H3 (x2.trans x3)
    cases ep
    have ea : as3.map V.ref = as.map V.ref := (HO.lst.inj (Option.some.inj ((x3.h _ _ hH).symm.trans hH3))).symm
    obtain ⟨j3, x', g1, g2, g3, g4', c1, ws, c2, c3⟩ := row_get r er
    rw [ea, g4] at g4'
    cases g4'
    rw [g3] at ejn
    cases ejn
    have hx := List.mem_of_getElem? g2
    have hpx : p ≠ x := fun z => n1 (by rw [z]; exact hx)
    refine ⟨x, ws, m, jm, rfl, h3, c2, by rw [← Paired.length c3]; exact ejm, ?_⟩
    refine q B3 _ σ (kk ⟨a.rows.set jn (row.set jm y)⟩ B3 _ S3 ⟨Same.refl _, fun y o hy => ?_, fun y o hy => ?_, fun _ _ => rfl⟩ (fun y hy => delS_in hy) ⟨p, as3, rfl, hSp, n1, n2, b, (upd_ne hpx).trans hH3, rows_set jn r n2 g2 (paired_set (ri.mono (x2.b.trans x3.b) h1) jm c3)⟩)
    · obtain ⟨k1, k2⟩ := delS_some hy
      rw [upd_ne fun z => k1 ((hSp y).mpr (.inr (by rw [z]; exact hx)))]
      exact k2
    · rw [upd_ne (ne_of_none hy c1)]
      exact x3.s y o hy
theorem q_setHas {a : MT α} {U : MT α → List Ty} {y : α} {n m : Int} {row : List α} {jn jm : Nat} (hi : Has G td T (oxMT (α := α)) a U) (h : EvD G te T ri y) (hn : EvD G ta T rpInt n) (hm : EvD G tb T rpInt m) (er : atI a.rows n = some row) (ejn : ixN a.rows.length n = some jn) (ejm : ixN row.length m = some jm)
    (q : Goes G (U ⟨a.rows.set jn (row.set jm y)⟩) (tu D)) : Goes G T (tSeq (tAsg te (gSub (tOp (rIxL G.K) td ta) tb rSetL)) tu D) := g_setHas (D := { D with nx := tu D }) hi h hn hm er ejn ejm q
/-! ### a dict that is changed in place, its keys whole numbers -/
instance oxDI {β : Type} [Rp β] : Ox (DI β) where
  ox K B H x v S := ∃ (p : Addr) (kvs : List (Key × V)), v = .ref p ∧ (∀ q, S q ↔ q = p) ∧ B p = none ∧ H p = some (.dK kvs) ∧ Paired (rpPr K B) x.kv kvs
  fr := by
    rintro K B H B' H' a v S ⟨p, kvs, e, hS, b, h, r⟩ sb k
    obtain ⟨k1, k2⟩ := k p ((hS p).mpr rfl)
    exact ⟨p, kvs, e, hS, k2, k1.trans h, Paired.mapP r fun _ _ z => ⟨z.1, Rp.mono sb z.2⟩⟩
  nb := by
    rintro K B H a v S ⟨p, kvs, e, hS, b, h, r⟩ q hq
    rw [(hS q).mp hq]
    exact ⟨b, by rw [h]; intro z; cases z⟩
  rd := by
    rintro K B H a v S ⟨p, kvs, e, hS, b, h, r⟩ H' sb k
    exact ⟨p, kvs, e, (k p ((hS p).mpr rfl)).trans h, Paired.mapP r fun _ _ z => ⟨z.1, Rp.mono sb z.2⟩⟩
/-- d[i] = b -/
def putI {β : Type} (i : Int) (b : β) (kv : List (Int × β)) : List (Int × β) := if (kv.any fun p => decide (p.1 = i)) = true then kv.map (fun p => if p.1 = i then (p.1, b) else p) else kv ++ [(i, b)]
/-- d.pop(i) -/
def dropI {β : Type} (i : Int) (kv : List (Int × β)) : List (Int × β) := kv.filter fun p => decide (p.1 ≠ i)
theorem pr_any {β : Type} [Rp β] {K : PySem.W.Frag} {B : Hp} {i : Int} : ∀ {kv : List (Int × β)} {kvs : List (Key × V)}, Paired (rpPr K B) kv kvs → (kvs.any fun p => decide (p.1 = (Sum.inl i : Key))) = kv.any fun p => decide (p.1 = i)
  | _, _, .nil => rfl
  | (k, c) :: kv, (k', v) :: kvs, .cons ⟨h1, _⟩ t => by
    have h1 : k' = Sum.inl k := h1
    subst h1
    rw [List.any_cons, List.any_cons, pr_any t]
    congr 1
    show decide ((Sum.inl k : Key) = Sum.inl i) = decide (k = i)
    by_cases e : k = i
    · subst e; rw [decide_eq_true rfl, decide_eq_true rfl]
    · rw [decide_eq_false e, decide_eq_false fun z => e (Sum.inl.inj z)]
theorem pr_put {β : Type} [Rp β] {K : PySem.W.Frag} {B : Hp} {i : Int} {b : β} {v : V} {kv : List (Int × β)} {kvs : List (Key × V)} (h : Paired (rpPr K B) kv kvs) (hv : Rp.rp K B b v) : Paired (rpPr K B) (putI i b kv) (putK kvs (.inl i) v) := by
  unfold putI putK
  rw [pr_any h]
  split
  · rename_i hh
    clear hh
    induction h with
    | nil => exact .nil
    | @cons p q ps qs h0 t ih =>
      obtain ⟨k, c⟩ := p
      obtain ⟨k', w⟩ := q
      obtain ⟨h1, h2⟩ := h0
      have h1 : k' = Sum.inl k := h1
      subst h1
      rw [List.map_cons, List.map_cons]
      refine .cons ?_ ih
      by_cases e : k = i
      · subst e
        rw [if_pos rfl, if_pos rfl]
        exact ⟨rfl, hv⟩
      · rw [if_neg e, if_neg fun z => e (Sum.inl.inj z)]
        exact ⟨rfl, h2⟩
  · exact paired_append h (.cons ⟨rfl, hv⟩ .nil)
theorem pr_drop {β : Type} [Rp β] {K : PySem.W.Frag} {B : Hp} {i : Int} {kv : List (Int × β)} {kvs : List (Key × V)} (h : Paired (rpPr K B) kv kvs) : Paired (rpPr K B) (dropI i kv) (dropK kvs (.inl i)) := by
  unfold dropI dropK
  induction h with
  | nil => exact .nil
  | @cons p q ps qs h0 t ih =>
    obtain ⟨k, c⟩ := p
    obtain ⟨k', w⟩ := q
    obtain ⟨h1, h2⟩ := h0
    have h1 : k' = Sum.inl k := h1
    subst h1
    rw [List.filter_cons, List.filter_cons]
    by_cases e : k = i
    · subst e
      rw [if_neg (by simp), if_neg (by simp)]
      exact ih
    · rw [if_pos (by simpa using e), if_pos (by simpa using e)]
      exact .cons ⟨rfl, h2⟩ ih
theorem look_any {β : Type} {i : Int} : ∀ kv : List (Int × β), (kv.any fun p => decide (p.1 = i)) = (lookI i kv).isSome
  | [] => rfl
  | (k, c) :: kv => by
    rw [List.any_cons]
    show (decide (k = i) || _) = (if k = i then some c else lookI i kv).isSome
    by_cases e : k = i
    · rw [if_pos e, decide_eq_true e]; rfl
    · rw [if_neg e, decide_eq_false e, Bool.false_or, look_any kv]
theorem pr_valN {β : Type} [Rp β] {K : PySem.W.Frag} {B : Hp} {i : Int} {kv : List (Int × β)} {kvs : List (Key × V)} (h : Paired (rpPr K B) kv kvs) : (valV kvs (.inl i : Key)).isSome = (lookI i kv).isSome := by
  rw [← look_any, ← pr_any h, valV_any]
variable {rv : Rp β}
/-- d[i] = b -/
theorem g_dputHas {a : DI β} {U : DI β → List Ty} {i : Int} {b : β} (hi : Has G td T (@oxDI β rv) a U) (hv : EvD G tv T rv b) (hk : EvD G ty T rpInt i) (hz : a.kv.length < 100000) (q : Goes G (U ⟨putI i b a.kv⟩) D.nx) : Goes G T (sDPut td ty tv D) := fun B H σ f =>
  hv B H σ f _ fun v B1 H1 x1 h1 => by
    obtain ⟨u, eu, ku⟩ := hi B1 H1 σ (f.ext x1)
    refine eu _ (hk B1 H1 σ (f.ext x1) _ fun w B2 H2 x2 h2 => ?_)
    obtain ⟨S, ⟨p, kvs, rfl, hS, b0, hH, r⟩, kk⟩ := ku B2 H2 x2
    refine ⟨p, upd H2 p (.dK (putK kvs (.inl i) v)), rfl, ?_, ?_⟩
    · rw [show w = kV (.inl i) from h2]
      exact DPut.k hH (by rw [← Paired.length r]; exact sz_lt hz)
    · refine q B2 _ σ (kk ⟨putI i b a.kv⟩ B2 _ S ⟨Same.refl _, fun y o hy => ?_, fun y o hy => ?_, fun _ _ => rfl⟩ (fun y hy => delS_in hy) ⟨p, _, rfl, hS, b0, upd_same, pr_put r (rv.mono x2.b h1)⟩)
      · obtain ⟨k1, k2⟩ := delS_some hy
        rw [upd_ne fun z => k1 ((hS y).mpr z)]
        exact k2
      · rw [upd_ne (ne_of_none hy b0)]
        exact (x2.s) y o hy
theorem q_dputHas {a : DI β} {U : DI β → List Ty} {i : Int} {b : β} (hi : Has G td T (@oxDI β rv) a U) (hv : EvD G tv T rv b) (hk : EvD G ty T rpInt i) (hz : a.kv.length < 100000) (q : Goes G (U ⟨putI i b a.kv⟩) (tu D)) : Goes G T (tSeq (sDPut td ty tv) tu D) := g_dputHas (D := { D with nx := tu D }) hi hv hk hz q
/-- d.pop(i), i in d -/
theorem g_dpopHas {a : DI β} {U : DI β → List Ty} {i : Int} {b : β} (hi : Has G td T (@oxDI β rv) a U) (hk : EvD G ty T rpInt i) (hl : lookI i a.kv = some b) (q : Goes G (U ⟨dropI i a.kv⟩) D.nx) : Goes G T (tDrop (tDPop1 td ty) D) := fun B H σ f => by
  obtain ⟨u, eu, ku⟩ := hi B H σ f
  obtain ⟨S0, ⟨p0, kvs0, e0, _, _, hH0, _⟩, _⟩ := ku B H (Ext.refl f.bh)
  refine eu _ ⟨p0, e0, .inl ⟨kvs0, .inl hH0⟩, hk B H σ f _ fun w B2 H2 x2 h2 => ?_⟩
  obtain ⟨S, ⟨p, kvs, ep, hS, b0, hH, r⟩, kk⟩ := ku B2 H2 x2
  rw [e0] at ep
  cases ep
  obtain ⟨v, e1, e2⟩ := valV_look r hl
  refine ⟨kvs, .inl i, v, hH, h2, e1, q B2 _ σ (kk ⟨dropI i a.kv⟩ B2 _ S ⟨Same.refl _, fun y o hy => ?_, fun y o hy => ?_, fun _ _ => rfl⟩ (fun y hy => delS_in hy) ⟨p0, _, e0, hS, b0, upd_same, pr_drop r⟩)⟩
  · obtain ⟨k1, k2⟩ := delS_some hy
    rw [upd_ne fun z => k1 ((hS y).mpr z)]
    exact k2
  · rw [upd_ne (ne_of_none hy b0)]
    exact x2.s y o hy
theorem q_dpopHas {a : DI β} {U : DI β → List Ty} {i : Int} {b : β} (hi : Has G td T (@oxDI β rv) a U) (hk : EvD G ty T rpInt i) (hl : lookI i a.kv = some b) (q : Goes G (U ⟨dropI i a.kv⟩) (tu D)) : Goes G T (tSeq (tDrop (tDPop1 td ty)) tu D) := g_dpopHas (D := { D with nx := tu D }) hi hk hl q
/-- d[i] of a dict that is changed in place: what stands there is not -/
theorem ev_dgetHas {a : DI β} {U : DI β → List Ty} {i : Int} {b : β} (hi : Has G td T (@oxDI β rv) a U) (hk : EvD G ty T rpInt i) (hl : lookI i a.kv = some b) : EvD G (tDGet td ty) T rv b := fun B H σ f Q q => by
  obtain ⟨u, eu, ku⟩ := hi B H σ f
  refine eu _ (hk B H σ f _ fun w B2 H2 x2 h2 => ?_)
  obtain ⟨S, ⟨p, kvs, ep, hS, b0, hH, r⟩, kk⟩ := ku B2 H2 x2
  obtain ⟨v, e1, e2⟩ := valV_look r hl
  refine ⟨p, v, ep, ?_, q v B2 H2 x2 e2⟩
  rw [show w = kV (.inl i) from h2, ← e1]
  exact DGet.k hH
/-! reading dicts as the heap stands -/
theorem ev_dgetH {d : DI β} {i : Int} {b : β} (hd : EvH G td T (@rpDI β rv) d) (hk : EvD G ta T rpInt i) (e : lookI i d.kv = some b) : EvH G (tDGet td ta) T rv b := fun B H σ f Q q =>
  hd B H σ f _ fun v B1 H1 x1 e1 => hk B1 H1 σ (f.ext x1) _ fun u B2 H2 x2 e2 => by
    obtain ⟨p, kvs, rfl, hp, z⟩ := (@rpDI β rv).mono x2.h e1
    obtain ⟨w, e3, e4⟩ := valV_look z e
    refine ⟨p, w, rfl, ?_, q w B2 H2 (x1.trans x2) e4⟩
    rw [show u = kV (.inl i) from e2, ← e3]
    exact DGet.k hp
theorem ev_dinH {d : DI β} {i : Int} (hk : EvD G ta T rpInt i) (hd : EvH G td T (@rpDI β rv) d) : EvD G (tDIn ta td) T rpBool (lookI i d.kv).isSome := fun B H σ f Q q =>
  hk B H σ f _ fun u B1 H1 x1 e1 => hd B1 H1 σ (f.ext x1) _ fun v B2 H2 x2 e2 => by
    obtain ⟨p, kvs, rfl, hp, z⟩ := e2
    refine ⟨p, valV kvs (.inl i), rfl, ?_, ?_⟩
    · rw [show u = kV (.inl i) from e1]; exact DGet.k hp
    · rw [pr_valN z]; exact q _ B2 H2 (x1.trans x2) rfl
theorem ev_dninH {d : DI β} {i : Int} (hk : EvD G ta T rpInt i) (hd : EvH G td T (@rpDI β rv) d) : EvD G (tDNotIn ta td) T rpBool (!(lookI i d.kv).isSome) := fun B H σ f Q q =>
  hk B H σ f _ fun u B1 H1 x1 e1 => hd B1 H1 σ (f.ext x1) _ fun v B2 H2 x2 e2 => by
    obtain ⟨p, kvs, rfl, hp, z⟩ := e2
    refine ⟨p, valV kvs (.inl i), rfl, ?_, ?_⟩
    · rw [show u = kV (.inl i) from e1]; exact DGet.k hp
    · rw [pr_valN z]; exact q _ B2 H2 (x1.trans x2) rfl
/-- {} -/
theorem ev_newDI : EvO G tDNewK T (@oxDI β rv) ⟨[]⟩ := fun B H σ f Q q p hp => by
  have x := upd_extN (o := .dK []) f.bh hp
  exact q (.ref p) B _ (fun q => q = p) x (fun q hq => by rw [hq]; exact hp) ⟨p, [], rfl, fun _ => Iff.rfl, f.bh.free hp, upd_same, .nil⟩
/-- sorted(d): its keys, rising -/
def rSortedDI : List V → Hp → VK → Prop := fun xs H Q => ∃ (a : Addr) (kvs : List (Key × V)) (ks : List Int), xs = [.ref a] ∧ Rd H a (.dK kvs) ∧ kvs.map (·.1) = ks.map Sum.inl ∧ ks.length < 64 ∧ ∀ (ys : List Int) (p : Addr), ys.Perm ks → ys.Pairwise (· ≤ ·) → H p = none → Q (.ref p) (upd H p (.lst (ys.map V.int)))
theorem ev_sortedDI {d : DI β} {ys : List Int} (h : EvH G te T (@rpDI β rv) d) (hl : d.kv.length < 64) (hy : ys.Perm (d.kv.map fun p => p.1)) (hs : ys.Pairwise (· ≤ ·)) : EvN G (tCB rSortedDI (tCons te tNil)) T rpInt ys := fun B H σ f Q q =>
  h B H σ f _ fun v B1 H1 x1 e1 => by
    obtain ⟨p, kvs, rfl, hp, z⟩ := e1
    refine ⟨p, kvs, d.kv.map fun p => p.1, rfl, .inl hp, by rw [pr_keys z, List.map_map]; rfl, by rw [List.length_map]; exact hl, fun ns l h1 h2 hl => ?_⟩
    have e2 : ns = ys := (h1.trans hy.symm).eq_of_pairwise (fun a b _ _ h1 h2 => Int.le_antisymm h1 h2) h2 hs
    subst e2
    have x2 := upd_extN (o := .lst (ns.map V.int)) x1.s hl
    exact q l _ B1 _ (x1.trans x2) (x1.h.free hl) (x1.s.free hl) upd_same of_ints
end
end DL

set_option Elab.async false
set_option linter.all false
set_option maxRecDepth 100000
set_option maxHeartbeats 4000000
/-! a law's own layer, twenty-fourth part: a class: its methods, its making -/
namespace DL
open PySem PySem.Spec PyProof.Rows L2
/-- a method as it stands -/
structure MDefT (K : PySem.W.Frag) (C : Addr) (m qual : Str) (st : Stmt) (ps : List Str) : Prop where
  ex : ∃ f fd, Fun K m qual st f fd ∧ Meth K C m f ∧ Binds K fd ps []
/-- a method with its promise -/
structure MDef (P : Program) (w : World) (K : PySem.W.Frag) (mg : Str → Option Value) (base : Heap) (C : Addr) (k : Nat) (m : Str) (ps : List Str) (sp : Sp) : Prop where
  ex : ∃ f fd, FnOk P w K mg base (L2.CX P w) k f fd ps sp ∧ Meth K C m f ∧ Binds K fd ps []
/-- the making of an instance as it stands -/
structure IDefT (K : PySem.W.Frag) (mg : Str → Option Value) (C : Addr) (x qual : Str) (st : Stmt) (ps : List Str) : Prop where
  ex : ∃ f fd, Fun K "__init__" qual st f fd ∧ Mk K C f ∧ Binds K fd ps [] ∧ mg x = some (.ref C)
structure IDef (P : Program) (w : World) (K : PySem.W.Frag) (mg : Str → Option Value) (base : Heap) (C : Addr) (k : Nat) (x : Str) (ps : List Str) (sp : Sp) : Prop where
  ex : ∃ f fd, FnOk P w K mg base (L2.CX P w) k f fd ps sp ∧ Mk K C f ∧ Binds K fd ps [] ∧ mg x = some (.ref C)
section
variable {P : Program} {w : World} {K : PySem.W.Frag} {mg : Str → Option Value} {base : Heap} {C : Addr} {k : Nat} {m qual x : Str} {ps : List Str} {sp : Sp} {st : Stmt}
theorem MDefT.to (T : MDefT K C m qual st ps) (h : ∀ f fd, Fun K m qual st f fd → FnOk P w K mg base (L2.CX P w) k f fd ps sp) : MDef P w K mg base C k m ps sp := by
  obtain ⟨f, fd, F, g, b⟩ := T.ex
  exact ⟨f, fd, h f fd F, g, b⟩
theorem IDefT.to (T : IDefT K mg C x qual st ps) (h : ∀ f fd, Fun K "__init__" qual st f fd → FnOk P w K mg base (L2.CX P w) k f fd ps sp) : IDef P w K mg base C k x ps sp := by
  obtain ⟨f, fd, F, g, b, e⟩ := T.ex
  exact ⟨f, fd, h f fd F, g, b, e⟩
end
section
variable {X : Cx} {C : Addr} {k j : Nat} {ps : List Str} {sp : Sp} {E : XK} {ES : L2.St → XK} {x m f : Str} {p pos pos' apos : Pos} {e o value : Expr} {es : List Expr} {ta tv : TE} {t : TA}
theorem ke_fld (K : PySem.W.Frag) (h : X.K = K) (he : PE X e ta) (hb : attributeBase e f X.env (eval e X.env) = eval e X.env := by rfl) : PE X (.Attribute e f pos) (tFld K ta f) := by subst h; exact pe_fld he hb
theorem kps_fld (K : PySem.W.Frag) (h : X.K = K) (ha : PE X o ta) (hv : PE X value tv) (hs : swapsWith value (some (.Attribute o f pos')) pos.line X.env = pure false := by rfl) : PS X (.Assign [.Attribute o f pos'] value pos) (sFld K ta tv f) := by subst h; exact ps_fld ha hv hs
theorem pe_methD {pl : Sem Bool} (D : MDef X.prog X.w X.K X.mg X.base C k m ps sp) (c : Cls X.K C) (hr : Room j X.A) (hx : Passes (L2.CX X.prog X.w) X E) (he : PE X o ta) (ha : PA X (e :: es) t) (hj : k ≤ j := by decide)
    (hst : starEach (e :: es) X.env = (false, eval e X.env) :: starEach es X.env := by rfl) (hpl : (backTo pos (starEach es X.env)).any (·.1) = false := by rfl)
    (ht : eval (.Call (.Attribute o m apos) (e :: es) [] pos) X.env = (do
      let ov ← eval o X.env
      standAt apos.atName
      let (f, first) ← holding [ov] (getMethod ov m pl)
      callWith pos f first (backTo pos (starEach (e :: es) X.env)) (backToKw pos (keywordEach [] X.env))) := by rfl) :
    PE X (.Call (.Attribute o m apos) (e :: es) [] pos) (tMeth C m sp [] E ta t) := by
  obtain ⟨g, fd, F, hm, b⟩ := D.ex
  exact pe_meth he c hm F (hr.mono hj) b .nil hx ha hst hpl ht
theorem pe_methD0 {pl : Sem Bool} (D : MDef X.prog X.w X.K X.mg X.base C k m ps sp) (c : Cls X.K C) (hr : Room j X.A) (hx : Passes (L2.CX X.prog X.w) X E) (he : PE X o ta) (hj : k ≤ j := by decide)
    (ht : eval (.Call (.Attribute o m apos) [] [] pos) X.env = (do
      let ov ← eval o X.env
      standAt apos.atName
      let (f, first) ← holding [ov] (getMethod ov m pl)
      callWith pos f first (backTo pos (starEach [] X.env)) (backToKw pos (keywordEach [] X.env))) := by rfl) :
    PE X (.Call (.Attribute o m apos) [] [] pos) (tMeth C m sp [] E ta tNil) := by
  obtain ⟨g, fd, F, hm, b⟩ := D.ex
  exact pe_meth0 he c hm F (hr.mono hj) b .nil hx ht
/-- within a try -/
def tMethT (C : Addr) (m : Str) (sp : Sp) (E : L2.St → XK) (ta : TE) (t : TA) : TE := fun σ H Q => ta σ H fun x H1 => ∃ a dx fs, x = .ref a ∧ H1 a = some (.ins C dx fs) ∧ fs.lookup m = none ∧ t σ H1 fun vs H2 => sp (x :: vs) H2 Q (E σ)
theorem pe_methDT {pl : Sem Bool} (D : MDef X.prog X.w X.K X.mg X.base C k m ps sp) (c : Cls X.K C) (hr : Room j X.A) (hx : ∀ σ, PassesAt (L2.CX X.prog X.w) X σ (ES σ)) (he : PE X o ta) (ha : PA X (e :: es) t) (hj : k ≤ j := by decide)
    (hst : starEach (e :: es) X.env = (false, eval e X.env) :: starEach es X.env := by rfl) (hpl : (backTo pos (starEach es X.env)).any (·.1) = false := by rfl)
    (ht : eval (.Call (.Attribute o m apos) (e :: es) [] pos) X.env = (do
      let ov ← eval o X.env
      standAt apos.atName
      let (f, first) ← holding [ov] (getMethod ov m pl)
      callWith pos f first (backTo pos (starEach (e :: es) X.env)) (backToKw pos (keywordEach [] X.env))) := by rfl) :
    PE X (.Call (.Attribute o m apos) (e :: es) [] pos) (tMethT C m sp ES ta t) := by
  obtain ⟨g, fd, F, hm, b⟩ := D.ex
  refine ⟨fun pins s σ H Q I h => ?_⟩
  refine PySem.W.methodCall_KW (pl := pl) (thn (he.run pins s σ H _ I h) fun u s1 ⟨x, H1, I1, rx, a, dx, fs, ex, ea, l, q⟩ => ?_) ht
  subst ex
  obtain rfl : u = Value.ref a := rx
  refine getmeth_ok I1 ea c hm l ?_
  refine PySem.W.callWith_K (first := [.ref a]) (h₀ := X.base) I.ok.mod.kin hm.kp (thn (ha.run pos pins s1 σ H1 _ I1 q) fun us s2 ⟨vs, H2, I2, r, q2⟩ => ⟨I2.kIn, ?_⟩) hst hpl
  exact run_fnS (us := .ref a :: us) (vs := .ref a :: vs) F (hr.mono hj) b (hx σ) I2 (.cons rfl r) q2
theorem pe_makeD (D : IDef X.prog X.w X.K X.mg X.base C k x ps sp) (hr : Room j X.A) (hg : Gl X x) (hx : Passes (L2.CX X.prog X.w) X E) (ha : PA X (e :: es) t) (hj : k + 1 ≤ j := by decide)
    (hdb : (x == ("__debug__" : Str)) = false := by decide) (he : starEach (e :: es) X.env = (false, eval e X.env) :: starEach es X.env := by rfl) (hpl : (backTo pos (starEach es X.env)).any (·.1) = false := by rfl) :
    PE X (.Call (.Name x p) (e :: es) [] pos) (tMake C sp [] E t) := by
  obtain ⟨g, fd, F, M, b, hm⟩ := D.ex
  exact pe_make M F (hr.mono hj) hg hm b .nil hx ha hdb he hpl
def tMakeT (C : Addr) (sp : Sp) (E : L2.St → XK) (t : TA) : TE := fun σ H Q => t σ H fun vs H1 => ∀ x dx, H1 x = none → H1 dx = none → dx ≠ x →
  sp (.ref x :: vs) (upd (upd H1 dx (.own x)) x (.ins C dx [])) (fun v H2 => v = .non ∧ Q (.ref x) H2) (E σ)
theorem run_makeT {f : Addr} {fd : FuncData} {pins : List (Addr × Obj)} {σ : L2.St} {H : Hp} {s : Shared} {Q : VK} {us : List Value} {vs : List V} (M : Mk X.K C f) (F : FnOk X.prog X.w X.K X.mg X.base (L2.CX X.prog X.w) k f fd ps sp) (hr : Room (k + 1) X.A) (hb : Binds X.K fd ps [])
    (hx : PassesAt (L2.CX X.prog X.w) X σ (ES σ)) (I : Inv X pins σ H s) (r : Vals vs us)
    (h : ∀ x dx, H x = none → H dx = none → dx ≠ x → sp (.ref x :: vs) (upd (upd H dx (.own x)) x (.ins C dx [])) (fun v H2 => v = .non ∧ Q (.ref x) H2) (ES σ)) :
    wpAny (model X.prog X.w) X.A (call (.ref C) us) (EP X pins σ Q) X.xe s := by
  have hq := h (s.heap.objs.size + 1) s.heap.objs.size (I.hok.fresh (Nat.le_succ _)) (I.hok.fresh (Nat.le_refl _)) (Nat.ne_of_lt (Nat.lt_succ_self _))
  have I2 := Inv.made (C := C) I
  have r2 : Vals (V.ref (s.heap.objs.size + 1) :: vs) (Value.ref (s.heap.objs.size + 1) :: us) := .cons rfl r
  have hl : (Value.ref (s.heap.objs.size + 1) :: us).length = ps.length := by
    have e := r2.length
    rw [F.len _ _ _ _ hq] at e
    exact e.symm
  have b := hb _ (Value.ref (s.heap.objs.size + 1) :: us) I2.kIn (by rw [List.append_nil]; exact hl)
  rw [List.append_nil] at b
  refine wpAny_call (make_map (f := f) I.kIn M.makes M.init (beq_iff_eq.mp M.fn) (codeAny_mono (F.run _ X.stack _ _ ⟨Value.ref (s.heap.objs.size + 1) :: us, []⟩ (Value.ref (s.heap.objs.size + 1) :: us) _ _ (ES σ) (hr.make C us [])
    (I2.env0.make C us []) b r2 hq) fun r s' hq' => ?_))
  cases r with
  | error e => exact hx pins _ _ e s' I2 hq'
  | ok fl =>
    cases fl with
    | ret u =>
      obtain ⟨v, H', I3, rv, ev, q3⟩ := I2.after hq'
      subst ev
      exact ⟨rv, ⟨V.ref (s.heap.objs.size + 1), H', I3, rfl, q3⟩⟩
    | next => exact False.elim hq'
    | brk => exact False.elim hq'
    | cont => exact False.elim hq'
theorem pe_makeDT (D : IDef X.prog X.w X.K X.mg X.base C k x ps sp) (hr : Room j X.A) (hg : Gl X x) (hx : ∀ σ, PassesAt (L2.CX X.prog X.w) X σ (ES σ)) (ha : PA X (e :: es) t) (hj : k + 1 ≤ j := by decide)
    (hdb : (x == ("__debug__" : Str)) = false := by decide) (he : starEach (e :: es) X.env = (false, eval e X.env) :: starEach es X.env := by rfl) (hpl : (backTo pos (starEach es X.env)).any (·.1) = false := by rfl) :
    PE X (.Call (.Name x p) (e :: es) [] pos) (tMakeT C sp ES t) := by
  obtain ⟨g, fd, F, M, b, hm⟩ := D.ex
  refine ⟨fun pins s σ H Q I h => ?_⟩
  refine wpAny_Call_Name_kw (ld_glob I hg hm ?_ hdb)
  refine PySem.W.callWith_K (h₀ := X.base) I.ok.mod.kin M.kp (thn (ha.run pos pins s σ H _ I h) fun us s1 ⟨vs, H1, I1, r, q⟩ => ⟨I1.kIn, ?_⟩) he hpl
  exact run_makeT M F (hr.mono hj) b (hx σ) I1 r q
end
/-! ### methods over plain data -/
/-- what is read so is an instance without a name of its own for m -/
def InsOf {α : Type} (r : Rp α) (C : Addr) (m : Str) : Prop := ∀ (K : PySem.W.Frag) (H : Hp) (a : α) (v : V), r.rp K H a v → ∃ p dx fs, v = .ref p ∧ H p = some (.ins C dx fs) ∧ fs.lookup m = none
section
variable {G : Cn} {T : List Ty} {D : Ends} {te ta tb tc td ty tv : TE} {tu : TS} {k : L2.St → Hp → Prop} {α β γ ι : Type} {rs : Rp α} {r' : Rp β} {C : Addr} {m : Str} {As : ι → List Ty} {As' : List Ty} {pre : ι → Prop} {f : ι → Except Addr β} {fn : ι → Except Addr (List β)} {E : XK} {ES : L2.St → XK} {tr : TA} {x : ι} {a : α}
/-- o.m(..) that reads alone; what it gives needs no heap -/
theorem ev_methS [Sc β] {b : β} (ho : EvH G ta T rs a) (hi : InsOf rs C m) (ha : EvAH G tr T As') (hA : As x = .im rs a :: As') (hp : pre x) (hf : f x = .ok b) : EvD G (tMeth C m (SpX G.K As pre r' f) [] E ta tr) T r' b := fun B H σ fr Q q =>
  ho B H σ fr _ fun v B1 H1 x1 e1 => by
    obtain ⟨p, dx, fs, rfl, h1, h2⟩ := hi _ _ _ _ e1
    refine ⟨p, dx, fs, rfl, h1, h2, ha B1 H1 σ (fr.ext x1) _ fun vs B2 H2 x2 ok => ?_⟩
    rw [List.append_nil]
    exact ⟨H2, x, Same.refl _, hp, by rw [hA]; exact ⟨rs.mono x2.h e1, ok⟩, fun b' e v B' H' y z => q v B2 H' ((x1.trans x2).trans ⟨Same.refl _, y.h, x2.s.trans y.h, fun _ _ => rfl⟩) (by rw [hf] at e; cases e; exact Sc.any z), fun C e => by rw [hf] at e; cases e⟩
theorem ev_methNS [Sc β] {b : List β} (ho : EvH G ta T rs a) (hi : InsOf rs C m) (ha : EvAH G tr T As') (hA : As x = .im rs a :: As') (hp : pre x) (hf : fn x = .ok b) : EvN G (tMeth C m (SpN G.K As pre r' fn) [] E ta tr) T r' b := fun B H σ fr Q q =>
  ho B H σ fr _ fun v B1 H1 x1 e1 => by
    obtain ⟨p, dx, fs, rfl, h1, h2⟩ := hi _ _ _ _ e1
    refine ⟨p, dx, fs, rfl, h1, h2, ha B1 H1 σ (fr.ext x1) _ fun vs B2 H2 x2 ok => ?_⟩
    rw [List.append_nil]
    exact ⟨H2, x, Same.refl _, hp, by rw [hA]; exact ⟨rs.mono x2.h e1, ok⟩, fun b' e p ws B' H' y n1 n2 h z => q p ws B2 H' ((x1.trans x2).trans ⟨Same.refl _, y.h, x2.s.trans y.h, fun _ _ => rfl⟩) ((x1.trans x2).h.free n1) (x2.s.free n1) h (by rw [hf] at e; cases e; exact paired_sc z), fun C e => by rw [hf] at e; cases e⟩
theorem ex_methF {C' : Addr} (ho : EvH G ta T rs a) (hi : InsOf rs C m) (ha : EvAH G tr T As') (hA : As x = .im rs a :: As') (hp : pre x) (hf : f x = .error C') : EvXT G (tMeth C m (SpX G.K As pre r' f) [] E ta tr) T (fun _ H => E (.ref C') none H) := fun kk B H σ fr Q =>
  ho B H σ fr _ fun v B1 H1 x1 e1 => by
    obtain ⟨p, dx, fs, rfl, h1, h2⟩ := hi _ _ _ _ e1
    refine ⟨p, dx, fs, rfl, h1, h2, ha B1 H1 σ (fr.ext x1) _ fun vs B2 H2 x2 ok => ?_⟩
    rw [List.append_nil]
    exact ⟨H2, x, Same.refl _, hp, by rw [hA]; exact ⟨rs.mono x2.h e1, ok⟩, fun b' e => (by rw [hf] at e; cases e), fun C' e H' s => by rw [hf] at e; cases e; exact kk B2 H' σ (((fr.ext x1).ext x2).ext (Ext.raise x2.s s))⟩
theorem ex_methT {C' : Addr} (ho : EvH G ta T rs a) (hi : InsOf rs C m) (ha : EvAH G tr T As') (hA : As x = .im rs a :: As') (hp : pre x) (hf : f x = .error C') : EvXT G (tMethT C m (SpX G.K As pre r' f) ES ta tr) T (fun σ H => ES σ (.ref C') none H) := fun kk B H σ fr Q =>
  ho B H σ fr _ fun v B1 H1 x1 e1 => by
    obtain ⟨p, dx, fs, rfl, h1, h2⟩ := hi _ _ _ _ e1
    refine ⟨p, dx, fs, rfl, h1, h2, ha B1 H1 σ (fr.ext x1) _ fun vs B2 H2 x2 ok => ?_⟩
    exact ⟨H2, x, Same.refl _, hp, by rw [hA]; exact ⟨rs.mono x2.h e1, ok⟩, fun b' e => (by rw [hf] at e; cases e), fun C' e H' s => by rw [hf] at e; cases e; exact kk B2 H' σ (((fr.ext x1).ext x2).ext (Ext.raise x2.s s))⟩
end
section
variable {G : Cn} {T : List Ty} {D : Ends} {α β ι : Type} [ra : Rp α] {w : Ox α} {r : Rp β} {C : Addr} {m : Str} {As : ι → List Ty} {pre : α × ι → Prop} {f : α × ι → Except Addr (β × α)} {E : XK} {ES : L2.St → XK} {tr : TA} {x : ι} {a a' : α} {y : β} {u : V} {j : Nat}
/-- o.m(..) that changes o -/
theorem ev_methM (hj : T[j]? = some (.ow (owV u w) a)) (hi : InsOf ra C m) (ha : EvA G tr T (As x)) (hp : pre (a, x)) (hf : f (a, x) = .ok (y, a')) : EvM G (tMeth C m (SpM G.K w As pre r f) [] E (tVar j) tr) T r y (T.set j (.ow (owV u w) a')) := fun B H σ fr Q q => by
  obtain ⟨S0, e1, ho0⟩ := fr.getO hj
  obtain ⟨p, dx, fs, rfl, i1, i2⟩ := hi _ _ _ _ (w.rd ho0 H fr.bh fun _ _ => rfl)
  refine ⟨_, e1, p, dx, fs, rfl, i1, i2, ha B H σ fr _ fun vs B1 H1 x1 ok => ?_⟩
  obtain ⟨S, e2, ho, hS0, k⟩ := (fr.ext x1).mutO hj
  rw [List.append_nil]
  exact ⟨B1, a, x, _, vs, S, x1.s, hp, rfl, ho, ok, fun y' b' e v B' H' S' z hS' ho' hy => by
    rw [hf] at e
    cases e
    exact q v B' H' (k α ra w a' B' H' S' z hS' ho') hy, fun C e => by rw [hf] at e; cases e⟩
theorem ev_methMT (hj : T[j]? = some (.ow (owV u w) a)) (hi : InsOf ra C m) (ha : EvA G tr T (As x)) (hp : pre (a, x)) (hf : f (a, x) = .ok (y, a')) : EvM G (tMethT C m (SpM G.K w As pre r f) ES (tVar j) tr) T r y (T.set j (.ow (owV u w) a')) := fun B H σ fr Q q => by
  obtain ⟨S0, e1, ho0⟩ := fr.getO hj
  obtain ⟨p, dx, fs, rfl, i1, i2⟩ := hi _ _ _ _ (w.rd ho0 H fr.bh fun _ _ => rfl)
  refine ⟨_, e1, p, dx, fs, rfl, i1, i2, ha B H σ fr _ fun vs B1 H1 x1 ok => ?_⟩
  obtain ⟨S, e2, ho, hS0, k⟩ := (fr.ext x1).mutO hj
  exact ⟨B1, a, x, _, vs, S, x1.s, hp, rfl, ho, ok, fun y' b' e v B' H' S' z hS' ho' hy => by
    rw [hf] at e
    cases e
    exact q v B' H' (k α ra w a' B' H' S' z hS' ho') hy, fun C e => by rw [hf] at e; cases e⟩
theorem ex_methM {C' : Addr} (hj : T[j]? = some (.ow (owV u w) a)) (hi : InsOf ra C m) (ha : EvA G tr T (As x)) (hp : pre (a, x)) (hf : f (a, x) = .error C') : EvXT G (tMeth C m (SpM G.K w As pre r f) [] E (tVar j) tr) T (fun _ H => E (.ref C') none H) := fun kk B H σ fr Q => by
  obtain ⟨S0, e1, ho0⟩ := fr.getO hj
  obtain ⟨p, dx, fs, rfl, i1, i2⟩ := hi _ _ _ _ (w.rd ho0 H fr.bh fun _ _ => rfl)
  refine ⟨_, e1, p, dx, fs, rfl, i1, i2, ha B H σ fr _ fun vs B1 H1 x1 ok => ?_⟩
  obtain ⟨S, e2, ho, hS0, k⟩ := (fr.ext x1).mutO hj
  rw [List.append_nil]
  exact ⟨B1, a, x, _, vs, S, x1.s, hp, rfl, ho, ok, fun y' b' e => (by rw [hf] at e; cases e), fun C'' e B' H' S' z hS' ho' => by
    rw [hf] at e
    cases e
    have f2 := k α ra w a B' H' S' z hS' ho'
    rw [set_same hj] at f2
    exact kk B' H' σ f2⟩
theorem ex_methMT {C' : Addr} (hj : T[j]? = some (.ow (owV u w) a)) (hi : InsOf ra C m) (ha : EvA G tr T (As x)) (hp : pre (a, x)) (hf : f (a, x) = .error C') : EvXT G (tMethT C m (SpM G.K w As pre r f) ES (tVar j) tr) T (fun σ H => ES σ (.ref C') none H) := fun kk B H σ fr Q => by
  obtain ⟨S0, e1, ho0⟩ := fr.getO hj
  obtain ⟨p, dx, fs, rfl, i1, i2⟩ := hi _ _ _ _ (w.rd ho0 H fr.bh fun _ _ => rfl)
  refine ⟨_, e1, p, dx, fs, rfl, i1, i2, ha B H σ fr _ fun vs B1 H1 x1 ok => ?_⟩
  obtain ⟨S, e2, ho, hS0, k⟩ := (fr.ext x1).mutO hj
  exact ⟨B1, a, x, _, vs, S, x1.s, hp, rfl, ho, ok, fun y' b' e => (by rw [hf] at e; cases e), fun C'' e B' H' S' z hS' ho' => by
    rw [hf] at e
    cases e
    have f2 := k α ra w a B' H' S' z hS' ho'
    rw [set_same hj] at f2
    exact kk B' H' σ f2⟩
/-- what a making begins with: an instance without attributes -/
def NewOf (w : Ox α) (C : Addr) (a0 : α) : Prop := ∀ (K : PySem.W.Frag) (B H : Hp) (x dx : Addr), B x = none → B dx = none → dx ≠ x → H x = some (.ins C dx []) → H dx = some (.own x) → w.ox K B H a0 (.ref x) (fun q => q = x ∨ q = dx)
variable {fI : α × ι → Except Addr (Unit × α)} {a0 b : α}
theorem make_ext {B H B' H' : Hp} {x dx : Addr} (bh : Same B H) (hx : H x = none) (hd : H dx = none) (y : Ext B (delS (upd (upd H dx (.own x)) x (.ins C dx [])) (fun q => q = x ∨ q = dx)) B' H') : Ext B H B' H' := by
  have e : delS (upd (upd H dx (.own x)) x (.ins C dx [])) (fun q => q = x ∨ q = dx) = H := by
    funext q
    by_cases h : q = x ∨ q = dx
    · rw [delS_in h]
      rcases h with rfl | rfl
      · exact hx.symm
      · exact hd.symm
    · rw [delS_ne h, upd_ne fun z => h (.inl z), upd_ne fun z => h (.inr z)]
  rw [e] at y
  exact y
theorem make_same {B H : Hp} {x dx : Addr} {o o' : HO} (bh : Same B H) (hx : H x = none) (hd : H dx = none) : Same B (upd (upd H dx o) x o') := fun q u e => by
  have h1 := bh q u e
  have n1 : q ≠ x := fun z => by rw [z, hx] at h1; cases h1
  have n2 : q ≠ dx := fun z => by rw [z, hd] at h1; cases h1
  rw [upd_ne n1, upd_ne n2]
  exact h1
theorem ev_makeO (h0 : NewOf w C a0) (ha : EvA G tr T (As x)) (hp : pre (a0, x)) (hf : fI (a0, x) = .ok ((), b)) : EvO G (tMake C (SpM G.K w As pre rpUnit fI) [] E tr) T w b := fun B H σ fr Q q => ha B H σ fr _ fun vs B1 H1 x1 ok => by
  intro p dx hpn hdn hne
  rw [List.append_nil]
  refine ⟨B1, a0, x, .ref p, vs, _, make_same x1.s hpn hdn, hp, rfl, h0 G.K B1 _ p dx (x1.s.free hpn) (x1.s.free hdn) hne upd_same (by rw [upd_ne hne, upd_same]), ok, fun y b' e v B' H' S' z hS' ho' hy => ?_, fun C e => by rw [hf] at e; cases e⟩
  rw [hf] at e
  cases e
  have z := make_ext x1.s hpn hdn z
  refine ⟨hy, q (.ref p) B' H' S' (x1.trans z) (fun q' hq' => ?_) ho'⟩
  have := hS' q' hq'
  refine x1.h.free ?_
  by_cases h : q' = p ∨ q' = dx
  · rcases h with rfl | rfl
    · exact hpn
    · exact hdn
  · rw [delS_ne h, upd_ne fun z => h (.inl z), upd_ne fun z => h (.inr z)] at this
    exact this
theorem ex_makeT {C' : Addr} (h0 : NewOf w C a0) (ha : EvA G tr T (As x)) (hp : pre (a0, x)) (hf : fI (a0, x) = .error C') : EvXT G (tMakeT C (SpM G.K w As pre rpUnit fI) ES tr) T (fun σ H => ES σ (.ref C') none H) := fun kk B H σ fr Q => ha B H σ fr _ fun vs B1 H1 x1 ok => by
  intro p dx hpn hdn hne
  refine ⟨B1, a0, x, .ref p, vs, _, make_same x1.s hpn hdn, hp, rfl, h0 G.K B1 _ p dx (x1.s.free hpn) (x1.s.free hdn) hne upd_same (by rw [upd_ne hne, upd_same]), ok, fun y b' e => (by rw [hf] at e; cases e), fun C'' e B' H' S' z hS' ho' => ?_⟩
  rw [hf] at e
  cases e
  exact kk B' H' σ ((fr.ext x1).ext (make_ext x1.s hpn hdn z))
end
end DL

set_option Elab.async false
set_option linter.all false
set_option maxRecDepth 100000
set_option maxHeartbeats 4000000
/-! a law's own layer, twenty-fifth part: halls -/
namespace DL
open PySem PySem.Spec PyProof.Rows L2
structure HD (C : Addr) where
  n : Nat
  fr : Int
  ain : List (List (Option Int))
  aout : List (List (Option Int))
  ends : List (Int × T3 Int Int Int)
  given : Int
def hfl (x y : Int) (v1 v2 v3 : V) : List (Str × V) := [("frames", .int x), ("at_in", v1), ("at_out", v2), ("ends", v3), ("given", .int y)]
def hfs {C : Addr} (x : HD C) (v1 v2 v3 : V) : List (Str × V) := (hfl x.fr x.given v1 v2 v3).take x.n
theorem lk_ne {k k' : Str} {v : V} {l : List (Str × V)} (h : (k == k') = false) : List.lookup k ((k', v) :: l) = List.lookup k l := by rw [List.lookup_cons, h]
theorem lk_eq {k : Str} {v : V} {l : List (Str × V)} : List.lookup k ((k, v) :: l) = some v := by rw [List.lookup_cons, beq_self_eq_true]
section
variable {x y : Int} {v1 v2 v3 : V}
theorem lk_frames : (hfl x y v1 v2 v3).lookup ("frames" : Str) = some (.int x) := lk_eq
theorem lk_in : (hfl x y v1 v2 v3).lookup ("at_in" : Str) = some v1 := (lk_ne (by decide +kernel)).trans lk_eq
theorem lk_out : (hfl x y v1 v2 v3).lookup ("at_out" : Str) = some v2 := ((lk_ne (by decide +kernel)).trans (lk_ne (by decide +kernel))).trans lk_eq
theorem lk_ends : (hfl x y v1 v2 v3).lookup ("ends" : Str) = some v3 := (((lk_ne (by decide +kernel)).trans (lk_ne (by decide +kernel))).trans (lk_ne (by decide +kernel))).trans lk_eq
theorem lk_given : (hfl x y v1 v2 v3).lookup ("given" : Str) = some (.int y) := ((((lk_ne (by decide +kernel)).trans (lk_ne (by decide +kernel))).trans (lk_ne (by decide +kernel))).trans (lk_ne (by decide +kernel))).trans lk_eq
def FreeNm (m : Str) : Prop := (m == "frames") = false ∧ (m == "at_in") = false ∧ (m == "at_out") = false ∧ (m == "ends") = false ∧ (m == "given") = false
theorem lk_no {C : Addr} {z : HD C} {m : Str} (h : FreeNm m) : (hfs z v1 v2 v3).lookup m = none := by
  have aux : ∀ n : Nat, List.lookup m ((hfl z.fr z.given v1 v2 v3).take n) = none := fun n => by
    obtain ⟨a, b, c, d, e⟩ := h
    match n with
    | 0 => rfl
    | 1 => exact lk_ne a
    | 2 => exact (lk_ne a).trans (lk_ne b)
    | 3 => exact ((lk_ne a).trans (lk_ne b)).trans (lk_ne c)
    | 4 => exact (((lk_ne a).trans (lk_ne b)).trans (lk_ne c)).trans (lk_ne d)
    | n + 5 =>
      rw [List.take_of_length_le (by show 5 ≤ n + 5; omega)]
      exact ((((lk_ne a).trans (lk_ne b)).trans (lk_ne c)).trans (lk_ne d)).trans (lk_ne e)
  exact aux z.n
end
instance rpHD {C : Addr} : Rp (HD C) := ⟨fun K H x v => ∃ p dx v1 v2 v3, v = .ref p ∧ H p = some (.ins C dx (hfs x v1 v2 v3)) ∧ (2 ≤ x.n → (@rpMT (Option Int) _).rp K H ⟨x.ain⟩ v1) ∧ (3 ≤ x.n → (@rpMT (Option Int) _).rp K H ⟨x.aout⟩ v2) ∧ (4 ≤ x.n → (@rpDI (T3 Int Int Int) _).rp K H ⟨x.ends⟩ v3),
  fun e ⟨p, dx, v1, v2, v3, a, b, c, d, f⟩ => ⟨p, dx, v1, v2, v3, a, e _ _ b, fun h => Rp.mono e (c h), fun h => Rp.mono e (d h), fun h => Rp.mono e (f h)⟩⟩
theorem insHD {C : Addr} {m : Str} (h : FreeNm m) : InsOf (@rpHD C) C m := fun K H a v ⟨p, dx, v1, v2, v3, e, b, _⟩ => ⟨p, dx, _, e, b, lk_no h⟩
structure HOx {C : Addr} (K : PySem.W.Frag) (B H : Hp) (x : HD C) (v : V) (S : Addr → Prop) (p dx : Addr) (v1 v2 v3 : V) (S1 S2 S3 : Addr → Prop) : Prop where
  ev : v = .ref p
  hp : H p = some (.ins C dx (hfs x v1 v2 v3))
  hd : H dx = some (.own p)
  bp : B p = none
  bd : B dx = none
  pd : p ≠ dx
  o1 : 2 ≤ x.n → (oxMT (α := Option Int)).ox K B H ⟨x.ain⟩ v1 S1
  o2 : 3 ≤ x.n → (oxMT (α := Option Int)).ox K B H ⟨x.aout⟩ v2 S2
  o3 : 4 ≤ x.n → (oxDI (β := T3 Int Int Int)).ox K B H ⟨x.ends⟩ v3 S3
  e1 : ¬ 2 ≤ x.n → ∀ q, ¬ S1 q
  e2 : ¬ 3 ≤ x.n → ∀ q, ¬ S2 q
  e3 : ¬ 4 ≤ x.n → ∀ q, ¬ S3 q
  s : ∀ q, S q ↔ q = p ∨ q = dx ∨ S1 q ∨ S2 q ∨ S3 q
  d1 : ∀ q, S1 q → q ≠ p ∧ q ≠ dx ∧ ¬ S2 q ∧ ¬ S3 q
  d2 : ∀ q, S2 q → q ≠ p ∧ q ≠ dx ∧ ¬ S3 q
  d3 : ∀ q, S3 q → q ≠ p ∧ q ≠ dx
section
variable {C : Addr} {K : PySem.W.Frag} {B H B' H' : Hp} {x : HD C} {v : V} {S : Addr → Prop} {p dx : Addr} {v1 v2 v3 : V} {S1 S2 S3 : Addr → Prop}
theorem HOx.nb (h : HOx K B H x v S p dx v1 v2 v3 S1 S2 S3) : ∀ q, S q → B q = none ∧ H q ≠ none := fun q hq => by
  rcases (h.s q).mp hq with rfl | rfl | hq | hq | hq
  · exact ⟨h.bp, by rw [h.hp]; intro z; cases z⟩
  · exact ⟨h.bd, by rw [h.hd]; intro z; cases z⟩
  · by_cases hn : 2 ≤ x.n
    · exact oxMT.nb (h.o1 hn) q hq
    · exact absurd hq (h.e1 hn q)
  · by_cases hn : 3 ≤ x.n
    · exact oxMT.nb (h.o2 hn) q hq
    · exact absurd hq (h.e2 hn q)
  · by_cases hn : 4 ≤ x.n
    · exact oxDI.nb (h.o3 hn) q hq
    · exact absurd hq (h.e3 hn q)
theorem HOx.in1 (h : HOx K B H x v S p dx v1 v2 v3 S1 S2 S3) {q : Addr} (hq : S1 q) : S q := (h.s q).mpr (.inr (.inr (.inl hq)))
theorem HOx.in2 (h : HOx K B H x v S p dx v1 v2 v3 S1 S2 S3) {q : Addr} (hq : S2 q) : S q := (h.s q).mpr (.inr (.inr (.inr (.inl hq))))
theorem HOx.in3 (h : HOx K B H x v S p dx v1 v2 v3 S1 S2 S3) {q : Addr} (hq : S3 q) : S q := (h.s q).mpr (.inr (.inr (.inr (.inr hq))))
theorem HOx.inp (h : HOx K B H x v S p dx v1 v2 v3 S1 S2 S3) : S p := (h.s p).mpr (.inl rfl)
theorem HOx.ind (h : HOx K B H x v S p dx v1 v2 v3 S1 S2 S3) : S dx := (h.s dx).mpr (.inr (.inl rfl))
end
instance oxHD {C : Addr} : Ox (HD C) where
  ox K B H x v S := ∃ p dx v1 v2 v3 S1 S2 S3, HOx K B H x v S p dx v1 v2 v3 S1 S2 S3
  fr := by
    rintro K B H B' H' a v S ⟨p, dx, v1, v2, v3, S1, S2, S3, h⟩ sb k
    refine ⟨p, dx, v1, v2, v3, S1, S2, S3, h.ev, (k p h.inp).1.trans h.hp, (k dx h.ind).1.trans h.hd, (k p h.inp).2, (k dx h.ind).2, h.pd, fun hn => oxMT.fr (h.o1 hn) sb fun q hq => k q (h.in1 hq), fun hn => oxMT.fr (h.o2 hn) sb fun q hq => k q (h.in2 hq), fun hn => oxDI.fr (h.o3 hn) sb fun q hq => k q (h.in3 hq), h.e1, h.e2, h.e3, h.s, h.d1, h.d2, h.d3⟩
  nb := by
    rintro K B H a v S ⟨p, dx, v1, v2, v3, S1, S2, S3, h⟩
    exact h.nb
  rd := by
    rintro K B H a v S ⟨p, dx, v1, v2, v3, S1, S2, S3, h⟩ H' sb k
    exact ⟨p, dx, v1, v2, v3, h.ev, (k p h.inp).trans h.hp, fun hn => oxMT.rd (h.o1 hn) H' sb fun q hq => k q (h.in1 hq), fun hn => oxMT.rd (h.o2 hn) H' sb fun q hq => k q (h.in2 hq), fun hn => oxDI.rd (h.o3 hn) H' sb fun q hq => k q (h.in3 hq)⟩
/-- what the text must say of the class -/
structure HCls (K : PySem.W.Frag) (C : Addr) : Prop where
  cl : Cls K C
  nF : NoAttr K C "frames"
  nI : NoAttr K C "at_in"
  nO : NoAttr K C "at_out"
  nE : NoAttr K C "ends"
  nG : NoAttr K C "given"
section
variable {G : Cn} {T : List Ty} {D : Ends} {te ta tb tc td ty tv : TE} {tu : TS} {C : Addr} {x : HD C} {u : V} {j : Nat}
theorem hfs5 {v1 v2 v3 : V} (h : x.n = 5) : hfs x v1 v2 v3 = hfl x.fr x.given v1 v2 v3 := by unfold hfs; rw [h]; rfl
/-! reading -/
theorem ev_frames (h : EvH G te T (@rpHD C) x) (hn : x.n = 5) (c : HCls G.K C) : EvD G (tFld G.K te "frames") T rpInt x.fr := fun B H σ f Q q => h B H σ f _ fun v B1 H1 x1 e1 => by
  obtain ⟨p, dx, v1, v2, v3, rfl, hp, _⟩ := e1
  exact ⟨p, C, dx, _, _, rfl, hp, c.cl, c.nF, by rw [hfs5 hn]; exact lk_frames, q _ B1 H1 x1 rfl⟩
theorem ev_given (h : EvH G te T (@rpHD C) x) (hn : x.n = 5) (c : HCls G.K C) : EvD G (tFld G.K te "given") T rpInt x.given := fun B H σ f Q q => h B H σ f _ fun v B1 H1 x1 e1 => by
  obtain ⟨p, dx, v1, v2, v3, rfl, hp, _⟩ := e1
  exact ⟨p, C, dx, _, _, rfl, hp, c.cl, c.nG, by rw [hfs5 hn]; exact lk_given, q _ B1 H1 x1 rfl⟩
theorem evh_in (h : EvH G te T (@rpHD C) x) (hn : x.n = 5) (c : HCls G.K C) : EvH G (tFld G.K te "at_in") T (@rpList (List (Option Int)) (@rpList (Option Int) _)) x.ain := fun B H σ f Q q => h B H σ f _ fun v B1 H1 x1 e1 => by
  obtain ⟨p, dx, v1, v2, v3, rfl, hp, r1, _⟩ := e1
  exact ⟨p, C, dx, _, v1, rfl, hp, c.cl, c.nI, by rw [hfs5 hn]; exact lk_in, q _ B1 H1 x1 (r1 (by omega))⟩
theorem evh_out (h : EvH G te T (@rpHD C) x) (hn : x.n = 5) (c : HCls G.K C) : EvH G (tFld G.K te "at_out") T (@rpList (List (Option Int)) (@rpList (Option Int) _)) x.aout := fun B H σ f Q q => h B H σ f _ fun v B1 H1 x1 e1 => by
  obtain ⟨p, dx, v1, v2, v3, rfl, hp, _, r2, _⟩ := e1
  exact ⟨p, C, dx, _, v2, rfl, hp, c.cl, c.nO, by rw [hfs5 hn]; exact lk_out, q _ B1 H1 x1 (r2 (by omega))⟩
theorem evh_ends (h : EvH G te T (@rpHD C) x) (hn : x.n = 5) (c : HCls G.K C) : EvH G (tFld G.K te "ends") T (@rpDI (T3 Int Int Int) _) ⟨x.ends⟩ := fun B H σ f Q q => h B H σ f _ fun v B1 H1 x1 e1 => by
  obtain ⟨p, dx, v1, v2, v3, rfl, hp, _, _, r3⟩ := e1
  exact ⟨p, C, dx, _, v3, rfl, hp, c.cl, c.nE, by rw [hfs5 hn]; exact lk_ends, q _ B1 H1 x1 (r3 (by omega))⟩
/-! its parts -/
theorem hfl_inj {a b a' b' : Int} {v1 v2 v3 w1 w2 w3 : V} (h : hfl a b v1 v2 v3 = hfl a' b' w1 w2 w3) : v1 = w1 ∧ v2 = w2 ∧ v3 = w3 := by
  unfold hfl at h
  simp only [List.cons.injEq, Prod.mk.injEq, true_and] at h
  exact ⟨h.2.1, h.2.2.1, h.2.2.2.1⟩
theorem ext_sub {B H B' H' : Hp} {S S1 : Addr → Prop} (hs : ∀ q, S1 q → S q) (y : Ext B (delS H S1) B' H') : Ext B (delS H S) B' H' := ⟨y.b, fun q o e => by
  obtain ⟨h1, h2⟩ := delS_some e
  exact y.h q o (by rw [delS_ne fun z => h1 (hs q z)]; exact h2), y.s, fun q hq => y.n q (by
  by_cases h : S q
  · exact absurd (delS_in h) hq
  · rw [delS_ne h] at hq
    rw [delS_ne fun z => h (hs q z)]
    exact hq)⟩
theorem ext_keep {B H B' H' : Hp} {S1 : Addr → Prop} (y : Ext B (delS H S1) B' H') {q : Addr} (h1 : ¬ S1 q) (h2 : H q ≠ none) : H' q = H q ∧ B' q = B q := by
  refine ⟨?_, y.n q (by rw [delS_ne h1]; exact h2)⟩
  cases hH : H q with
  | none => exact absurd hH h2
  | some o => exact y.h q o (by rw [delS_ne h1]; exact hH)
theorem has_in (h : T[j]? = some (.ow (owV u (oxHD (C := C))) x)) (hn : x.n = 5) (c : HCls G.K C) : Has G (tFld G.K (tVar j) "at_in") T (oxMT (α := Option Int)) ⟨x.ain⟩ fun a' => T.set j (.ow (owV u (oxHD (C := C))) { x with ain := a'.rows }) := fun B H σ f => by
  obtain ⟨S0, e1, p, dx, v1, v2, v3, S1, S2, S3, h0⟩ := f.getO h
  refine ⟨v1, fun Q q => ⟨u, e1, p, C, dx, _, v1, h0.ev, h0.hp, c.cl, c.nI, by rw [hfs5 hn]; exact lk_in, q⟩, fun B2 H2 x2 => ?_⟩
  obtain ⟨S, _, ⟨p', dx', w1, w2, w3, S1, S2, S3, h2⟩, _, kk⟩ := (f.ext x2).mutO h
  have ep : p' = p := by have := h2.ev.symm.trans h0.ev; cases this; rfl
  subst ep
  have e3 := (x2.h _ _ h0.hp).symm.trans h2.hp
  rw [hfs5 hn, hfs5 hn] at e3
  have e3 := HO.ins.inj (Option.some.inj e3)
  obtain ⟨rfl, rfl, rfl⟩ := hfl_inj e3.2.2
  refine ⟨S1, h2.o1 (by omega), fun a' B' H' S1' y hS1 ho => ?_⟩
  have hd1 := h2.d1
  have hd2 := h2.d2
  have hd3 := h2.d3
  have kp := ext_keep y (fun z => (hd1 _ z).1 rfl) (h2.nb _ h2.inp).2
  have kd := ext_keep y (fun z => (hd1 _ z).2.1 rfl) (h2.nb _ h2.ind).2
  have hS1n : ∀ q, S1' q → S1 q ∨ H2 q = none := fun q hq => by
    by_cases z : S1 q
    · exact .inl z
    · have := hS1 q hq
      rw [delS_ne z] at this
      exact .inr this
  have k2 : ∀ q, S2 q → H' q = H2 q ∧ B' q = none := fun q hq => by
    have := ext_keep y (fun z => (hd1 q z).2.2.1 hq) (h2.nb q (h2.in2 hq)).2
    exact ⟨this.1, this.2.trans (h2.nb q (h2.in2 hq)).1⟩
  have k3 : ∀ q, S3 q → H' q = H2 q ∧ B' q = none := fun q hq => by
    have := ext_keep y (fun z => (hd1 q z).2.2.2 hq) (h2.nb q (h2.in3 hq)).2
    exact ⟨this.1, this.2.trans (h2.nb q (h2.in3 hq)).1⟩
  refine kk (HD C) rpHD oxHD { x with ain := a'.rows } B' H' (fun q => q = p' ∨ q = dx' ∨ S1' q ∨ S2 q ∨ S3 q) (ext_sub (fun q hq => h2.in1 hq) y) (fun q hq => ?_) ⟨p', dx', v1, v2, v3, S1', S2, S3, h2.ev, kp.1.trans h2.hp, kd.1.trans h2.hd, kp.2.trans h2.bp, kd.2.trans h2.bd, h2.pd, fun _ => ho, fun hn => oxMT.fr (h2.o2 hn) y.b k2, fun hn => oxDI.fr (h2.o3 hn) y.b k3, fun z => absurd (show 2 ≤ x.n by omega) z, fun z => absurd (show 3 ≤ x.n by omega) z, fun z => absurd (show 4 ≤ x.n by omega) z, fun _ => Iff.rfl, fun q hq => ?_, hd2, hd3⟩
  · by_cases z : S q
    · exact delS_in z
    · rw [delS_ne z]
      rcases hq with rfl | rfl | hq | hq | hq
      · exact absurd h2.inp z
      · exact absurd h2.ind z
      · rcases hS1n q hq with w | w
        · exact absurd (h2.in1 w) z
        · exact w
      · exact absurd (h2.in2 hq) z
      · exact absurd (h2.in3 hq) z
  · rcases hS1n q hq with w | w
    · exact hd1 q w
    · exact ⟨fun z => (h2.nb _ h2.inp).2 (by rw [← z]; exact w), fun z => (h2.nb _ h2.ind).2 (by rw [← z]; exact w), fun z => (h2.nb _ (h2.in2 z)).2 w, fun z => (h2.nb _ (h2.in3 z)).2 w⟩
theorem has_out (h : T[j]? = some (.ow (owV u (oxHD (C := C))) x)) (hn : x.n = 5) (c : HCls G.K C) : Has G (tFld G.K (tVar j) "at_out") T (oxMT (α := Option Int)) ⟨x.aout⟩ fun a' => T.set j (.ow (owV u (oxHD (C := C))) { x with aout := a'.rows }) := fun B H σ f => by
  obtain ⟨S0, e1, p, dx, v1, v2, v3, S1, S2, S3, h0⟩ := f.getO h
  refine ⟨v2, fun Q q => ⟨u, e1, p, C, dx, _, v2, h0.ev, h0.hp, c.cl, c.nO, by rw [hfs5 hn]; exact lk_out, q⟩, fun B2 H2 x2 => ?_⟩
  obtain ⟨S, _, ⟨p', dx', w1, w2, w3, S1, S2, S3, h2⟩, _, kk⟩ := (f.ext x2).mutO h
  have ep : p' = p := by have := h2.ev.symm.trans h0.ev; cases this; rfl
  subst ep
  have e3 := (x2.h _ _ h0.hp).symm.trans h2.hp
  rw [hfs5 hn, hfs5 hn] at e3
  have e3 := HO.ins.inj (Option.some.inj e3)
  obtain ⟨rfl, rfl, rfl⟩ := hfl_inj e3.2.2
  refine ⟨S2, h2.o2 (by omega), fun a' B' H' S2' y hS2 ho => ?_⟩
  have hd1 := h2.d1
  have hd2 := h2.d2
  have hd3 := h2.d3
  have kp := ext_keep y (fun z => (hd2 _ z).1 rfl) (h2.nb _ h2.inp).2
  have kd := ext_keep y (fun z => (hd2 _ z).2.1 rfl) (h2.nb _ h2.ind).2
  have hS2n : ∀ q, S2' q → S2 q ∨ H2 q = none := fun q hq => by
    by_cases z : S2 q
    · exact .inl z
    · have := hS2 q hq
      rw [delS_ne z] at this
      exact .inr this
  have k1 : ∀ q, S1 q → H' q = H2 q ∧ B' q = none := fun q hq => by
    have := ext_keep y (fun z => (hd1 q hq).2.2.1 z) (h2.nb q (h2.in1 hq)).2
    exact ⟨this.1, this.2.trans (h2.nb q (h2.in1 hq)).1⟩
  have k3 : ∀ q, S3 q → H' q = H2 q ∧ B' q = none := fun q hq => by
    have := ext_keep y (fun z => (hd2 q z).2.2 hq) (h2.nb q (h2.in3 hq)).2
    exact ⟨this.1, this.2.trans (h2.nb q (h2.in3 hq)).1⟩
  refine kk (HD C) rpHD oxHD { x with aout := a'.rows } B' H' (fun q => q = p' ∨ q = dx' ∨ S1 q ∨ S2' q ∨ S3 q) (ext_sub (fun q hq => h2.in2 hq) y) (fun q hq => ?_) ⟨p', dx', v1, v2, v3, S1, S2', S3, h2.ev, kp.1.trans h2.hp, kd.1.trans h2.hd, kp.2.trans h2.bp, kd.2.trans h2.bd, h2.pd, fun hn => oxMT.fr (h2.o1 hn) y.b k1, fun _ => ho, fun hn => oxDI.fr (h2.o3 hn) y.b k3, fun z => absurd (show 2 ≤ x.n by omega) z, fun z => absurd (show 3 ≤ x.n by omega) z, fun z => absurd (show 4 ≤ x.n by omega) z, fun _ => Iff.rfl, fun q hq => ?_, fun q hq => ?_, hd3⟩
  · by_cases z : S q
    · exact delS_in z
    · rw [delS_ne z]
      rcases hq with rfl | rfl | hq | hq | hq
      · exact absurd h2.inp z
      · exact absurd h2.ind z
      · exact absurd (h2.in1 hq) z
      · rcases hS2n q hq with w | w
        · exact absurd (h2.in2 w) z
        · exact w
      · exact absurd (h2.in3 hq) z
  · refine ⟨(hd1 q hq).1, (hd1 q hq).2.1, fun z => ?_, (hd1 q hq).2.2.2⟩
    rcases hS2n q z with w | w
    · exact (hd1 q hq).2.2.1 w
    · exact (h2.nb _ (h2.in1 hq)).2 w
  · rcases hS2n q hq with w | w
    · exact hd2 q w
    · exact ⟨fun z => (h2.nb _ h2.inp).2 (by rw [← z]; exact w), fun z => (h2.nb _ h2.ind).2 (by rw [← z]; exact w), fun z => (h2.nb _ (h2.in3 z)).2 w⟩
theorem has_ends (h : T[j]? = some (.ow (owV u (oxHD (C := C))) x)) (hn : x.n = 5) (c : HCls G.K C) : Has G (tFld G.K (tVar j) "ends") T (oxDI (β := T3 Int Int Int)) ⟨x.ends⟩ fun a' => T.set j (.ow (owV u (oxHD (C := C))) { x with ends := a'.kv }) := fun B H σ f => by
  obtain ⟨S0, e1, p, dx, v1, v2, v3, S1, S2, S3, h0⟩ := f.getO h
  refine ⟨v3, fun Q q => ⟨u, e1, p, C, dx, _, v3, h0.ev, h0.hp, c.cl, c.nE, by rw [hfs5 hn]; exact lk_ends, q⟩, fun B2 H2 x2 => ?_⟩
  obtain ⟨S, _, ⟨p', dx', w1, w2, w3, S1, S2, S3, h2⟩, _, kk⟩ := (f.ext x2).mutO h
  have ep : p' = p := by have := h2.ev.symm.trans h0.ev; cases this; rfl
  subst ep
  have e3 := (x2.h _ _ h0.hp).symm.trans h2.hp
  rw [hfs5 hn, hfs5 hn] at e3
  have e3 := HO.ins.inj (Option.some.inj e3)
  obtain ⟨rfl, rfl, rfl⟩ := hfl_inj e3.2.2
  refine ⟨S3, h2.o3 (by omega), fun a' B' H' S3' y hS3 ho => ?_⟩
  have hd1 := h2.d1
  have hd2 := h2.d2
  have hd3 := h2.d3
  have kp := ext_keep y (fun z => (hd3 _ z).1 rfl) (h2.nb _ h2.inp).2
  have kd := ext_keep y (fun z => (hd3 _ z).2 rfl) (h2.nb _ h2.ind).2
  have hS3n : ∀ q, S3' q → S3 q ∨ H2 q = none := fun q hq => by
    by_cases z : S3 q
    · exact .inl z
    · have := hS3 q hq
      rw [delS_ne z] at this
      exact .inr this
  have k1 : ∀ q, S1 q → H' q = H2 q ∧ B' q = none := fun q hq => by
    have := ext_keep y (fun z => (hd1 q hq).2.2.2 z) (h2.nb q (h2.in1 hq)).2
    exact ⟨this.1, this.2.trans (h2.nb q (h2.in1 hq)).1⟩
  have k2 : ∀ q, S2 q → H' q = H2 q ∧ B' q = none := fun q hq => by
    have := ext_keep y (fun z => (hd2 q hq).2.2 z) (h2.nb q (h2.in2 hq)).2
    exact ⟨this.1, this.2.trans (h2.nb q (h2.in2 hq)).1⟩
  refine kk (HD C) rpHD oxHD { x with ends := a'.kv } B' H' (fun q => q = p' ∨ q = dx' ∨ S1 q ∨ S2 q ∨ S3' q) (ext_sub (fun q hq => h2.in3 hq) y) (fun q hq => ?_) ⟨p', dx', v1, v2, v3, S1, S2, S3', h2.ev, kp.1.trans h2.hp, kd.1.trans h2.hd, kp.2.trans h2.bp, kd.2.trans h2.bd, h2.pd, fun hn => oxMT.fr (h2.o1 hn) y.b k1, fun hn => oxMT.fr (h2.o2 hn) y.b k2, fun _ => ho, fun z => absurd (show 2 ≤ x.n by omega) z, fun z => absurd (show 3 ≤ x.n by omega) z, fun z => absurd (show 4 ≤ x.n by omega) z, fun _ => Iff.rfl, fun q hq => ?_, fun q hq => ?_, fun q hq => ?_⟩
  · by_cases z : S q
    · exact delS_in z
    · rw [delS_ne z]
      rcases hq with rfl | rfl | hq | hq | hq
      · exact absurd h2.inp z
      · exact absurd h2.ind z
      · exact absurd (h2.in1 hq) z
      · exact absurd (h2.in2 hq) z
      · rcases hS3n q hq with w | w
        · exact absurd (h2.in3 w) z
        · exact w
  · refine ⟨(hd1 q hq).1, (hd1 q hq).2.1, (hd1 q hq).2.2.1, fun z => ?_⟩
    rcases hS3n q z with w | w
    · exact (hd1 q hq).2.2.2 w
    · exact (h2.nb _ (h2.in1 hq)).2 w
  · refine ⟨(hd2 q hq).1, (hd2 q hq).2.1, fun z => ?_⟩
    rcases hS3n q z with w | w
    · exact (hd2 q hq).2.2 w
    · exact (h2.nb _ (h2.in2 hq)).2 w
  · rcases hS3n q hq with w | w
    · exact hd3 q w
    · exact ⟨fun z => (h2.nb _ h2.inp).2 (by rw [← z]; exact w), fun z => (h2.nb _ h2.ind).2 (by rw [← z]; exact w)⟩
end
end DL

set_option Elab.async false
set_option linter.all false
set_option maxRecDepth 100000
set_option maxHeartbeats 4000000
/-! a law's own layer, twenty-sixth part: halls are made, their number is raised -/
namespace DL
open PySem PySem.Spec PyProof.Rows L2
theorem putF_new {f : Str} {v : V} : ∀ {fs : List (Str × V)}, (∀ p ∈ fs, ¬ p.1 = f) → putF f v fs = fs ++ [(f, v)]
  | [], _ => rfl
  | (g, x) :: r, h => by
    show (if g = f then _ else _) = _
    rw [if_neg (h (g, x) List.mem_cons_self), putF_new fun p hp => h p (List.mem_cons_of_mem _ hp)]
    rfl
theorem putF_old {f : Str} {v w : V} : ∀ {fs gs : List (Str × V)}, (∀ p ∈ fs, ¬ p.1 = f) → putF f v (fs ++ (f, w) :: gs) = fs ++ (f, v) :: gs
  | [], gs, _ => by
    show (if f = f then _ else _) = _
    rw [if_pos rfl]
    rfl
  | (g, x) :: r, gs, h => by
    show (if g = f then _ else (g, x) :: putF f v (r ++ (f, w) :: gs)) = _
    rw [if_neg (h (g, x) List.mem_cons_self), putF_old fun p hp => h p (List.mem_cons_of_mem _ hp)]
    rfl
section
variable {C : Addr} {K : PySem.W.Frag} {B H B' H' : Hp} {x : HD C} {v : V} {S : Addr → Prop} {p dx : Addr} {v1 v2 v3 : V} {S1 S2 S3 : Addr → Prop}
theorem HOx.go (h : HOx K B H x v S p dx v1 v2 v3 S1 S2 S3) (y : Ext B H B' H') : HOx K B' H' x v S p dx v1 v2 v3 S1 S2 S3 := by
  have k : ∀ q, S q → H' q = H q ∧ B' q = none := fun q hq => by
    obtain ⟨n1, n2⟩ := h.nb q hq
    refine ⟨?_, (y.n q n2).trans n1⟩
    cases hH : H q with
    | none => exact absurd hH n2
    | some o => exact y.h q o hH
  exact ⟨h.ev, (k p h.inp).1.trans h.hp, (k dx h.ind).1.trans h.hd, (k p h.inp).2, (k dx h.ind).2, h.pd, fun hn => oxMT.fr (h.o1 hn) y.b fun q hq => k q (h.in1 hq), fun hn => oxMT.fr (h.o2 hn) y.b fun q hq => k q (h.in2 hq), fun hn => oxDI.fr (h.o3 hn) y.b fun q hq => k q (h.in3 hq), h.e1, h.e2, h.e3, h.s, h.d1, h.d2, h.d3⟩
end
section
variable {G : Cn} {T : List Ty} {D : Ends} {te ta tb tc td ty tv : TE} {tu : TS} {C : Addr} {x : HD C} {u : V} {j : Nat}
theorem nm_ne : ¬ ("frames" : Str) = "at_in" ∧ ¬ ("frames" : Str) = "at_out" ∧ ¬ ("frames" : Str) = "ends" ∧ ¬ ("frames" : Str) = "given" ∧ ¬ ("at_in" : Str) = "at_out" ∧ ¬ ("at_in" : Str) = "ends" ∧ ¬ ("at_in" : Str) = "given" ∧ ¬ ("at_out" : Str) = "ends" ∧ ¬ ("at_out" : Str) = "given" ∧ ¬ ("ends" : Str) = "given" := by decide +kernel
/-- the instance's own object changed, all else as it stands -/
theorem Fr.insHD {B H B1 H1 : Hp} {σ : L2.St} (f : Fr G B H σ T) (h : T[j]? = some (.ow (owV u (oxHD (C := C))) x)) (y : Ext B H B1 H1) : ∃ S p dx v1 v2 v3 S1 S2 S3, σ[j]? = some (some u) ∧ HOx G.K B H x u S p dx v1 v2 v3 S1 S2 S3 ∧
    ∀ (x' : HD C) (w1 w2 w3 : V) (R1 R2 R3 : Addr → Prop), (∀ q, (R1 q ∨ R2 q ∨ R3 q) → (S1 q ∨ S2 q ∨ S3 q) ∨ H q = none) → HOx G.K B1 (upd H1 p (.ins C dx (hfs x' w1 w2 w3))) x' u (fun q => q = p ∨ q = dx ∨ R1 q ∨ R2 q ∨ R3 q) p dx w1 w2 w3 R1 R2 R3 → Fr G B1 (upd H1 p (.ins C dx (hfs x' w1 w2 w3))) σ (T.set j (.ow (owV u (oxHD (C := C))) x')) := by
  obtain ⟨S, e1, ⟨p, dx, v1, v2, v3, S1, S2, S3, h0⟩, _, kk⟩ := f.mutO h
  refine ⟨S, p, dx, v1, v2, v3, S1, S2, S3, e1, h0, fun x' w1 w2 w3 R1 R2 R3 hR h' => ?_⟩
  have bp := y.none h0.hp h0.bp
  refine kk (HD C) rpHD oxHD x' B1 _ _ ⟨y.b, fun q o e => ?_, fun q o e => ?_, fun q hq => ?_⟩ (fun q hq => ?_) ⟨p, dx, w1, w2, w3, R1, R2, R3, h'⟩
  · obtain ⟨g1, g2⟩ := delS_some e
    rw [upd_ne fun z => g1 (by rw [z]; exact h0.inp)]
    exact y.h q o g2
  · rw [upd_ne (ne_of_none e bp)]
    exact y.s q o e
  · refine y.n q fun z => hq ?_
    by_cases hs : S q
    · exact delS_in hs
    · rw [delS_ne hs]; exact z
  · by_cases hs : S q
    · exact delS_in hs
    · rw [delS_ne hs]
      rcases hq with rfl | rfl | hq
      · exact absurd h0.inp hs
      · exact absurd h0.ind hs
      · rcases hR q hq with w | w
        · rcases w with w | w | w
          · exact absurd (h0.in1 w) hs
          · exact absurd (h0.in2 w) hs
          · exact absurd (h0.in3 w) hs
        · exact w
theorem hfs_take {v1 v2 v3 : V} {n : Nat} (h : x.n = n) : hfs x v1 v2 v3 = (hfl x.fr x.given v1 v2 v3).take n := by unfold hfs; rw [h]
theorem g_fldFrames {i : Int} (h : T[j]? = some (.ow (owV u (oxHD (C := C))) x)) (hn : x.n = 0) (c : HCls G.K C) (hv : EvD G tv T rpInt i) (q : Goes G (T.set j (.ow (owV u (oxHD (C := C))) { x with n := 1, fr := i })) D.nx) : Goes G T (sFld G.K (tVar j) tv "frames" D) := fun B H σ f => hv B H σ f _ fun w B1 H1 x1 e1 => by
  obtain ⟨S, p, dx, v1, v2, v3, S1, S2, S3, es, h0, kk⟩ := f.insHD h x1
  have g := h0.go x1
  refine ⟨u, es, p, C, dx, _, h0.ev, g.hp, c.cl, c.nF, by rw [hfs_take hn]; show 0 < 1000; decide, ?_⟩
  have e : putF ("frames" : Str) w (hfs x v1 v2 v3) = hfs (C := C) { x with n := 1, fr := i } v1 v2 v3 := by
    rw [hfs_take hn, show w = V.int i from e1]; rfl
  rw [e]
  have keep : ∀ q, S q → q ≠ p → upd H1 p (.ins C dx (hfs (C := C) { x with n := 1, fr := i } v1 v2 v3)) q = H1 q := fun q _ hq => upd_ne hq
  refine q B1 _ σ (kk { x with n := 1, fr := i } v1 v2 v3 S1 S2 S3 (fun q hq => .inl hq) ⟨h0.ev, upd_same, (upd_ne (Ne.symm h0.pd)).trans g.hd, g.bp, g.bd, g.pd, fun z => absurd z (by show ¬ 2 ≤ 1; decide), fun z => absurd z (by show ¬ 3 ≤ 1; decide), fun z => absurd z (by show ¬ 4 ≤ 1; decide), fun _ => h0.e1 (by omega), fun _ => h0.e2 (by omega), fun _ => h0.e3 (by omega), fun _ => Iff.rfl, h0.d1, h0.d2, h0.d3⟩)
theorem g_fldIn {a : List (List (Option Int))} (h : T[j]? = some (.ow (owV u (oxHD (C := C))) x)) (hn : x.n = 1) (c : HCls G.K C) (hv : EvO G tv T (oxMT (α := Option Int)) ⟨a⟩) (q : Goes G (T.set j (.ow (owV u (oxHD (C := C))) { x with n := 2, ain := a })) D.nx) : Goes G T (sFld G.K (tVar j) tv "at_in" D) := fun B H σ f => hv B H σ f _ fun w B1 H1 R1 x1 hR e1 => by
  obtain ⟨S, p, dx, v1, v2, v3, S1, S2, S3, es, h0, kk⟩ := f.insHD h x1
  have g := h0.go x1
  refine ⟨u, es, p, C, dx, _, h0.ev, g.hp, c.cl, c.nI, by rw [hfs_take hn]; show 1 < 1000; decide, ?_⟩
  have e : putF ("at_in" : Str) w (hfs x v1 v2 v3) = hfs (C := C) { x with n := 2, ain := a } w v2 v3 := by
    rw [hfs_take hn]
    exact putF_new (fs := [("frames", .int x.fr)]) fun p hp => by rw [List.mem_singleton.mp hp]; exact nm_ne.1
  rw [e]
  have fresh : ∀ q, R1 q → q ≠ p ∧ q ≠ dx := fun q hq => ⟨fun z => (h0.nb p h0.inp).2 (by rw [← z]; exact hR q hq), fun z => (h0.nb dx h0.ind).2 (by rw [← z]; exact hR q hq)⟩
  refine q B1 _ σ (kk { x with n := 2, ain := a } w v2 v3 R1 S2 S3 (fun q hq => ?_) ⟨h0.ev, upd_same, (upd_ne (Ne.symm h0.pd)).trans g.hd, g.bp, g.bd, g.pd, fun _ => oxMT.fr e1 (Same.refl _) fun q hq => ⟨upd_ne (fresh q hq).1, (oxMT.nb e1 q hq).1⟩, fun z => absurd z (by show ¬ 3 ≤ 2; decide), fun z => absurd z (by show ¬ 4 ≤ 2; decide), fun z => absurd (show 2 ≤ 2 by decide) z, fun _ => h0.e2 (by omega), fun _ => h0.e3 (by omega), fun _ => Iff.rfl, fun q hq => ⟨(fresh q hq).1, (fresh q hq).2, h0.e2 (by omega) q, h0.e3 (by omega) q⟩, h0.d2, h0.d3⟩)
  rcases hq with hq | hq | hq
  · exact .inr (hR q hq)
  · exact absurd hq (h0.e2 (by omega) q)
  · exact absurd hq (h0.e3 (by omega) q)
theorem g_fldOut {a : List (List (Option Int))} (h : T[j]? = some (.ow (owV u (oxHD (C := C))) x)) (hn : x.n = 2) (c : HCls G.K C) (hv : EvO G tv T (oxMT (α := Option Int)) ⟨a⟩) (q : Goes G (T.set j (.ow (owV u (oxHD (C := C))) { x with n := 3, aout := a })) D.nx) : Goes G T (sFld G.K (tVar j) tv "at_out" D) := fun B H σ f => hv B H σ f _ fun w B1 H1 R2 x1 hR e1 => by
  obtain ⟨S, p, dx, v1, v2, v3, S1, S2, S3, es, h0, kk⟩ := f.insHD h x1
  have g := h0.go x1
  refine ⟨u, es, p, C, dx, _, h0.ev, g.hp, c.cl, c.nO, by rw [hfs_take hn]; show 2 < 1000; decide, ?_⟩
  have e : putF ("at_out" : Str) w (hfs x v1 v2 v3) = hfs (C := C) { x with n := 3, aout := a } v1 w v3 := by
    rw [hfs_take hn]
    exact putF_new (fs := [("frames", .int x.fr), ("at_in", v1)]) fun p hp => by
      rcases List.mem_cons.mp hp with rfl | hp
      · exact nm_ne.2.1
      · rw [List.mem_singleton.mp hp]; exact nm_ne.2.2.2.2.1
  rw [e]
  have fresh : ∀ q, R2 q → q ≠ p ∧ q ≠ dx := fun q hq => ⟨fun z => (h0.nb p h0.inp).2 (by rw [← z]; exact hR q hq), fun z => (h0.nb dx h0.ind).2 (by rw [← z]; exact hR q hq)⟩
  refine q B1 _ σ (kk { x with n := 3, aout := a } v1 w v3 S1 R2 S3 (fun q hq => ?_) ⟨h0.ev, upd_same, (upd_ne (Ne.symm h0.pd)).trans g.hd, g.bp, g.bd, g.pd, fun _ => oxMT.fr (g.o1 (by omega)) (Same.refl _) fun q hq => ⟨upd_ne (h0.d1 q hq).1, (oxMT.nb (g.o1 (by omega)) q hq).1⟩, fun _ => oxMT.fr e1 (Same.refl _) fun q hq => ⟨upd_ne (fresh q hq).1, (oxMT.nb e1 q hq).1⟩, fun z => absurd z (by show ¬ 4 ≤ 3; decide), fun z => absurd (show 2 ≤ 3 by decide) z, fun z => absurd (show 3 ≤ 3 by decide) z, fun _ => h0.e3 (by omega), fun _ => Iff.rfl, fun q hq => ⟨(h0.d1 q hq).1, (h0.d1 q hq).2.1, fun z => (h0.nb q (h0.in1 hq)).2 (hR q z), h0.e3 (by omega) q⟩, fun q hq => ⟨(fresh q hq).1, (fresh q hq).2, h0.e3 (by omega) q⟩, h0.d3⟩)
  rcases hq with hq | hq | hq
  · exact .inl (.inl hq)
  · exact .inr (hR q hq)
  · exact absurd hq (h0.e3 (by omega) q)
theorem g_fldEnds {a : List (Int × T3 Int Int Int)} (h : T[j]? = some (.ow (owV u (oxHD (C := C))) x)) (hn : x.n = 3) (c : HCls G.K C) (hv : EvO G tv T (oxDI (β := T3 Int Int Int)) ⟨a⟩) (q : Goes G (T.set j (.ow (owV u (oxHD (C := C))) { x with n := 4, ends := a })) D.nx) : Goes G T (sFld G.K (tVar j) tv "ends" D) := fun B H σ f => hv B H σ f _ fun w B1 H1 R3 x1 hR e1 => by
  obtain ⟨S, p, dx, v1, v2, v3, S1, S2, S3, es, h0, kk⟩ := f.insHD h x1
  have g := h0.go x1
  refine ⟨u, es, p, C, dx, _, h0.ev, g.hp, c.cl, c.nE, by rw [hfs_take hn]; show 3 < 1000; decide, ?_⟩
  have e : putF ("ends" : Str) w (hfs x v1 v2 v3) = hfs (C := C) { x with n := 4, ends := a } v1 v2 w := by
    rw [hfs_take hn]
    exact putF_new (fs := [("frames", .int x.fr), ("at_in", v1), ("at_out", v2)]) fun p hp => by
      rcases List.mem_cons.mp hp with rfl | hp
      · exact nm_ne.2.2.1
      · rcases List.mem_cons.mp hp with rfl | hp
        · exact nm_ne.2.2.2.2.2.1
        · rw [List.mem_singleton.mp hp]; exact nm_ne.2.2.2.2.2.2.2.1
  rw [e]
  have fresh : ∀ q, R3 q → q ≠ p ∧ q ≠ dx := fun q hq => ⟨fun z => (h0.nb p h0.inp).2 (by rw [← z]; exact hR q hq), fun z => (h0.nb dx h0.ind).2 (by rw [← z]; exact hR q hq)⟩
  refine q B1 _ σ (kk { x with n := 4, ends := a } v1 v2 w S1 S2 R3 (fun q hq => ?_) ⟨h0.ev, upd_same, (upd_ne (Ne.symm h0.pd)).trans g.hd, g.bp, g.bd, g.pd, fun _ => oxMT.fr (g.o1 (by omega)) (Same.refl _) fun q hq => ⟨upd_ne (h0.d1 q hq).1, (oxMT.nb (g.o1 (by omega)) q hq).1⟩, fun _ => oxMT.fr (g.o2 (by omega)) (Same.refl _) fun q hq => ⟨upd_ne (h0.d2 q hq).1, (oxMT.nb (g.o2 (by omega)) q hq).1⟩, fun _ => oxDI.fr e1 (Same.refl _) fun q hq => ⟨upd_ne (fresh q hq).1, (oxDI.nb e1 q hq).1⟩, fun z => absurd (show 2 ≤ 4 by decide) z, fun z => absurd (show 3 ≤ 4 by decide) z, fun z => absurd (show 4 ≤ 4 by decide) z, fun _ => Iff.rfl, fun q hq => ⟨(h0.d1 q hq).1, (h0.d1 q hq).2.1, (h0.d1 q hq).2.2.1, fun z => (h0.nb q (h0.in1 hq)).2 (hR q z)⟩, fun q hq => ⟨(h0.d2 q hq).1, (h0.d2 q hq).2.1, fun z => (h0.nb q (h0.in2 hq)).2 (hR q z)⟩, fun q hq => fresh q hq⟩)
  rcases hq with hq | hq | hq
  · exact .inl (.inl hq)
  · exact .inl (.inr (.inl hq))
  · exact .inr (hR q hq)
theorem put_given {x' y y' : Int} {v1 v2 v3 : V} : putF ("given" : Str) (.int y') (hfl x' y v1 v2 v3) = hfl x' y' v1 v2 v3 := putF_old (fs := [("frames", .int x'), ("at_in", v1), ("at_out", v2), ("ends", v3)]) fun p hp => by
  rcases List.mem_cons.mp hp with rfl | hp
  · exact nm_ne.2.2.2.1
  · rcases List.mem_cons.mp hp with rfl | hp
    · exact nm_ne.2.2.2.2.2.2.1
    · rcases List.mem_cons.mp hp with rfl | hp
      · exact nm_ne.2.2.2.2.2.2.2.2.1
      · rw [List.mem_singleton.mp hp]; exact nm_ne.2.2.2.2.2.2.2.2.2
theorem g_fldGiven {i : Int} (h : T[j]? = some (.ow (owV u (oxHD (C := C))) x)) (hn : x.n = 4 ∨ x.n = 5) (c : HCls G.K C) (hv : EvD G tv T rpInt i) (q : Goes G (T.set j (.ow (owV u (oxHD (C := C))) { x with n := 5, given := i })) D.nx) : Goes G T (sFld G.K (tVar j) tv "given" D) := fun B H σ f => hv B H σ f _ fun w B1 H1 x1 e1 => by
  obtain ⟨S, p, dx, v1, v2, v3, S1, S2, S3, es, h0, kk⟩ := f.insHD h x1
  have g := h0.go x1
  have e : putF ("given" : Str) w (hfs x v1 v2 v3) = hfs (C := C) { x with n := 5, given := i } v1 v2 v3 := by
    rw [show w = V.int i from e1]
    rcases hn with hn | hn
    · rw [hfs_take hn]
      exact putF_new (fs := [("frames", .int x.fr), ("at_in", v1), ("at_out", v2), ("ends", v3)]) fun p hp => by
        rcases List.mem_cons.mp hp with rfl | hp
        · exact nm_ne.2.2.2.1
        · rcases List.mem_cons.mp hp with rfl | hp
          · exact nm_ne.2.2.2.2.2.2.1
          · rcases List.mem_cons.mp hp with rfl | hp
            · exact nm_ne.2.2.2.2.2.2.2.2.1
            · rw [List.mem_singleton.mp hp]; exact nm_ne.2.2.2.2.2.2.2.2.2
    · rw [hfs5 hn]
      exact put_given
  have hl : (hfs x v1 v2 v3).length < 1000 := by
    unfold hfs
    have := List.length_take_le x.n (hfl x.fr x.given v1 v2 v3)
    have h5 : (hfl x.fr x.given v1 v2 v3).length = 5 := rfl
    rw [List.length_take]
    omega
  refine ⟨u, es, p, C, dx, _, h0.ev, g.hp, c.cl, c.nG, hl, ?_⟩
  rw [e]
  refine q B1 _ σ (kk { x with n := 5, given := i } v1 v2 v3 S1 S2 S3 (fun q hq => .inl hq) ⟨h0.ev, upd_same, (upd_ne (Ne.symm h0.pd)).trans g.hd, g.bp, g.bd, g.pd, fun _ => oxMT.fr (g.o1 (by omega)) (Same.refl _) fun q hq => ⟨upd_ne (h0.d1 q hq).1, (oxMT.nb (g.o1 (by omega)) q hq).1⟩, fun _ => oxMT.fr (g.o2 (by omega)) (Same.refl _) fun q hq => ⟨upd_ne (h0.d2 q hq).1, (oxMT.nb (g.o2 (by omega)) q hq).1⟩, fun _ => oxDI.fr (g.o3 (by omega)) (Same.refl _) fun q hq => ⟨upd_ne (h0.d3 q hq).1, (oxDI.nb (g.o3 (by omega)) q hq).1⟩, fun z => absurd (show 2 ≤ 5 by decide) z, fun z => absurd (show 3 ≤ 5 by decide) z, fun z => absurd (show 4 ≤ 5 by decide) z, fun _ => Iff.rfl, h0.d1, h0.d2, h0.d3⟩)
/-- the beginning of a hall -/
def hd0 (C : Addr) : HD C := ⟨0, 0, [], [], [], 0⟩
theorem new_hd : NewOf (oxHD (C := C)) C (hd0 C) := fun K B H x dx b1 b2 ne h1 h2 => ⟨x, dx, .non, .non, .non, fun _ => False, fun _ => False, fun _ => False, rfl, h1, h2, b1, b2, Ne.symm ne, fun z => absurd z (by show ¬ 2 ≤ 0; decide), fun z => absurd z (by show ¬ 3 ≤ 0; decide), fun z => absurd z (by show ¬ 4 ≤ 0; decide), fun _ _ z => z, fun _ _ z => z, fun _ _ z => z, fun q => by simp, fun q z => z.elim, fun q z => z.elim, fun q z => z.elim⟩
end
end DL

set_option Elab.async false
set_option linter.all false
set_option maxRecDepth 100000
set_option maxHeartbeats 4000000
/-! a law's own layer, twenty-seventh part: a method that reads alone what another one owns -/
namespace DL
open PySem PySem.Spec PyProof.Rows L2
@[reducible] def owK {α : Type} [Rp α] (u : V) (B0 H0 : Hp) (w : Ox α) : Ow α := ⟨fun K _ _ a v _ => v = u ∧ Same B0 H0 ∧ ∃ S, w.ox K B0 H0 a u S, fun h _ _ => h⟩
/-- f(x, ..) that leaves all as it stands -/
def SpR (K : PySem.W.Frag) {α ι β : Type} [Rp α] (w : Ox α) (As : ι → List Ty) (pre : α × ι → Prop) (r : Rp β) (f : α × ι → Except Addr β) : Sp := fun vs H Q E => ∃ (B : Hp) (a : α) (x : ι) (u : V) (us : List V) (S : Addr → Prop), Same B H ∧ pre (a, x) ∧ vs = u :: us ∧ w.ox K B H a u S ∧ ArgsOk K B us (As x) ∧
  (∀ y, f (a, x) = .ok y → ∀ v B' H', Ext B H B' H' → r.rp K B' y v → Q v H') ∧ (∀ C, f (a, x) = .error C → ∀ H', Same H H' → E (.ref C) none H')
section
variable {ι α β : Type} {As : ι → List Ty} [ra : Rp α] {w : Ox α} {pre : α × ι → Prop} {r : Rp β} {f : α × ι → Except Addr β}
variable {P : Program} {wd : World} {K : PySem.W.Frag} {mg : Str → Option Value} {base : Heap} {nm qual : Str} {st : Stmt} {fa : Addr} {fd : FuncData} {N ps : List Str} {k : Nat}
theorem Fr.entryR {B H : Hp} {a : α} {u : V} {us : List V} {S : Addr → Prop} {As : List Ty} {N : List Str} (s : Same B H) (ho : w.ox K B H a u S) (h : ArgsOk K B us As) :
    Fr ⟨K, B, H⟩ B H (L2.start N (u :: us)) ((Ty.ow (owK u B H w) a :: As) ++ List.replicate (N.length - (As.length + 1)) Ty.un) := by
  have f := Fr.entry (K := K) (B := B) (H := H) (vs := u :: us) (As := Ty.im rpAny () :: As) (N := N) s ⟨trivial, h⟩
  obtain ⟨own, o0, sl⟩ := f.sl
  refine ⟨s, Same.refl _, Same.refl _, fun _ _ => rfl, by rw [f.len]; rfl, own, o0, fun i t e => ?_⟩
  cases i with
  | zero =>
    cases e
    exact ⟨some u, rfl, u, rfl, rfl, s, S, ho⟩
  | succ j => exact sl (j + 1) t e
theorem def_okR (F : Fun K nm qual st fa fd) (S : FnScope N ps (defScope st)) (len : ∀ x, (As x).length + 1 = ps.length)
    (hbody : ∀ (cdv : Value) (A : Around) (outer : List Env) (s : Shared) (H : Hp) (E : XK), Room k (A.deeper (envOfC qual (defScope st) s.heap.objs.size fa cdv)) →
      ∃ t, PSs (cxOf (L2.CX P wd) P wd K mg base N qual (defScope st) fa cdv A outer s H E) (defBody st) t ∧ ∀ (B : Hp) (a : α) (x : ι) (u : V) (Q : VK), pre (a, x) → (∀ y, f (a, x) = .ok y → RetD ⟨K, B, H⟩ Q r y) → (∀ C, f (a, x) = .error C → ∀ H', Same H H' → E (.ref C) none H') →
        Goes ⟨K, B, H⟩ ((.ow (owK u B H w) a :: As x) ++ List.replicate (N.length - ((As x).length + 1)) .un) (t { nx := fun _ H' => Q .non H', rt := Q })) :
    FnOk P wd K mg base (L2.CX P wd) (k + 1) fa fd ps (SpR K w As pre r f) := by
  refine F.okX S (fun vs H Q E h => ?_) (fun cdv A outer s H vs Q E hr h => ?_)
  · obtain ⟨B, a, x, u, us, S, _, _, rfl, _, ok, _⟩ := h
    show us.length + 1 = _
    rw [args_len ok]
    exact len x
  · obtain ⟨B, a, x, u, us, S, sB, hp, rfl, ho, ok, h1, h2⟩ := h
    obtain ⟨t, ht, hg⟩ := hbody cdv A outer s H E hr
    exact ⟨t, ht, hg B a x u Q hp (fun y e v B' H' y2 hy => h1 y e v B' H' y2 hy) h2 B H _ (Fr.entryR sB ho ok)⟩
variable {G : Cn} {T : List Ty} {D : Ends} {C : Addr} {m : Str} {E : XK} {tr : TA} {x : ι} {a : α} {y : β} {u : V} {j : Nat}
theorem ev_methR (hj : T[j]? = some (.ow (owV u w) a)) (hi : InsOf ra C m) (ha : EvA G tr T (As x)) (hp : pre (a, x)) (hf : f (a, x) = .ok y) : EvD G (tMeth C m (SpR G.K w As pre r f) [] E (tVar j) tr) T r y := fun B H σ fr Q q => by
  obtain ⟨S0, e1, ho0⟩ := fr.getO hj
  obtain ⟨p, dx, fs, rfl, i1, i2⟩ := hi _ _ _ _ (w.rd ho0 H fr.bh fun _ _ => rfl)
  refine ⟨_, e1, p, dx, fs, rfl, i1, i2, ha B H σ fr _ fun vs B1 H1 x1 ok => ?_⟩
  obtain ⟨S, e2, ho⟩ := (fr.ext x1).getO hj
  rw [List.append_nil]
  exact ⟨B1, a, x, _, vs, S, x1.s, hp, rfl, ho, ok, fun y' e v B' H' z hy => q v B' H' (x1.trans z) (by rw [hf] at e; cases e; exact hy), fun C e => by rw [hf] at e; cases e⟩
/-- its own thing, read as the heap stands -/
theorem ev_varR (hj : T[j]? = some (.ow (owK u G.B0 G.H0 w) a)) : EvH G (tVar j) T ra a := fun B H σ f Q q => by
  obtain ⟨own, _, sl⟩ := f.sl
  obtain ⟨s, e1, v, rfl, rfl, s0, S, ho⟩ := sl j _ hj
  exact ⟨_, e1, q _ B H (Ext.refl f.bh) (ra.mono f.h0 (w.rd ho G.H0 s0 fun _ _ => rfl))⟩
end
section
variable {G : Cn} {T : List Ty} {D : Ends} {te ta tb tc ty : TE} {C : Addr} {x : HD C} {u : V} {j : Nat} {α β γ : Type} {r : Rp α}
/-- what stands in the hall's dict -/
theorem ev_endR {i : Int} {b : T3 Int Int Int} (hj : T[j]? = some (.ow (owK u G.B0 G.H0 (oxHD (C := C))) x)) (hn : x.n = 5) (c : HCls G.K C) (hk : EvD G ty T rpInt i) (hl : lookI i x.ends = some b) : EvD G (tDGet (tFld G.K (tVar j) "ends") ty) T (@rpT3 Int Int Int _ _ _) b := fun B H σ f Q q => by
  obtain ⟨own, _, sl⟩ := f.sl
  obtain ⟨s, e1, v, rfl, rfl, s0, S, p, dx, v1, v2, v3, S1, S2, S3, h⟩ := sl j _ hj
  refine ⟨_, e1, p, C, dx, _, v3, h.ev, f.h0 _ _ h.hp, c.cl, c.nE, by rw [hfs5 hn]; exact lk_ends, hk B H σ f _ fun w B2 H2 x2 h2 => ?_⟩
  obtain ⟨e, kvs, rfl, hS, b0, hH, hr⟩ := h.o3 (by omega)
  obtain ⟨z, e3, e4⟩ := valV_look hr hl
  refine ⟨e, z, rfl, ?_, q z B2 H2 x2 ((@rpT3 Int Int Int _ _ _).mono (f.b0.trans x2.b) e4)⟩
  rw [show w = kV (.inl i) from h2, ← e3]
  exact DGet.k ((f.h0.trans x2.h) _ _ hH)
theorem ko_catT {X : Cx} (K : PySem.W.Frag) (h : X.K = K) : OpR X (binaryOp .Add) (rCatT K) := by subst h; exact op_catT
/-- (n,) + (a, b, c) -/
theorem ev_cat13 {n a b c : Int} (ha : EvD G ta T rpInt n) (hb : EvD G tb T (@rpT3 Int Int Int _ _ _) ⟨a, b, c⟩) : EvD G (tOp (rCatT G.K) (tTup (tCons ta tNil)) tb) T (@rpT4 Int Int Int Int _ _ _ _) ⟨n, a, b, c⟩ := fun B H σ f Q q =>
  ha B H σ f _ fun v B1 H1 x1 e1 => ⟨by show 1 ≤ sizeLine; decide, fun p hp => by
    have x2 := upd_ext (o := .tup [v]) x1.s hp
    refine hb _ _ σ ((f.ext x1).ext x2) _ fun w B3 H3 x3 e3 => ?_
    obtain ⟨p', y1, y2, y3, rfl, hp', r1, r2, r3⟩ := e3
    refine ⟨p, p', [v], [y1, y2, y3], rfl, rfl, .inl (.inl (x3.h _ _ upd_same)), .inl (.inl (x3.s _ _ hp')), by simp, by show 4 ≤ sizeLine; decide, (fun z => by cases z), fun _ l hl => ?_⟩
    have x4 := upd_ext (o := .tup ([v] ++ [y1, y2, y3])) x3.s hl
    exact q (.ref l) _ _ (((x1.trans x2).trans x3).trans x4) ⟨l, v, y1, y2, y3, rfl, upd_same, e1, r1, r2, r3⟩⟩
/-- list((a, b, c)) -/
theorem ev_listT3 {a b c : α} (h : EvD G te T (@rpT3 α α α r r r) ⟨a, b, c⟩) : EvN G (tCB (rListQ G.K) (tCons te tNil)) T r [a, b, c] := fun B H σ f Q q =>
  h B H σ f _ fun v B1 H1 x1 e1 => by
    obtain ⟨p, y1, y2, y3, rfl, hp, r1, r2, r3⟩ := e1
    refine ⟨p, [y1, y2, y3], rfl, .inr (.inl (.of (x1.s _ _ hp))), fun l hl => ?_⟩
    have x2 := upd_extN (o := .lst [y1, y2, y3]) x1.s hl
    exact q l _ B1 _ (x1.trans x2) (x1.h.free hl) (x1.s.free hl) upd_same (.cons r1 (.cons r2 (.cons r3 .nil)))
end
end DL

set_option Elab.async false
set_option linter.all false
set_option maxRecDepth 100000
set_option maxHeartbeats 4000000
/-! a law's own layer, twenty-eighth part: a hall that stands, read; a tuple of three by a number -/
namespace DL
open PySem PySem.Spec PyProof.Rows L2
section
variable {G : Cn} {T : List Ty} {D : Ends} {te ta tb tc td ty tv : TE} {tu : TS} {C : Addr} {x : HD C} {u : V} {j : Nat} {α : Type} {r : Rp α}
theorem ev_inD' (h : EvD G te T (@rpHD C) x) (hn : x.n = 5) (c : HCls G.K C) : EvD G (tFld G.K te "at_in") T (@rpList (List (Option Int)) (@rpList (Option Int) _)) x.ain := fun B H σ f Q q => h B H σ f _ fun v B1 H1 x1 e1 => by
  obtain ⟨p, dx, v1, v2, v3, rfl, hp, r1, _⟩ := e1
  exact ⟨p, C, dx, _, v1, rfl, x1.s _ _ hp, c.cl, c.nI, by rw [hfs5 hn]; exact lk_in, q _ B1 H1 x1 (r1 (by omega))⟩
theorem ev_outD' (h : EvD G te T (@rpHD C) x) (hn : x.n = 5) (c : HCls G.K C) : EvD G (tFld G.K te "at_out") T (@rpList (List (Option Int)) (@rpList (Option Int) _)) x.aout := fun B H σ f Q q => h B H σ f _ fun v B1 H1 x1 e1 => by
  obtain ⟨p, dx, v1, v2, v3, rfl, hp, _, r2, _⟩ := e1
  exact ⟨p, C, dx, _, v2, rfl, x1.s _ _ hp, c.cl, c.nO, by rw [hfs5 hn]; exact lk_out, q _ B1 H1 x1 (r2 (by omega))⟩
theorem ev_endsD (h : EvD G te T (@rpHD C) x) (hn : x.n = 5) (c : HCls G.K C) : EvD G (tFld G.K te "ends") T (@rpDI (T3 Int Int Int) _) ⟨x.ends⟩ := fun B H σ f Q q => h B H σ f _ fun v B1 H1 x1 e1 => by
  obtain ⟨p, dx, v1, v2, v3, rfl, hp, _, _, r3⟩ := e1
  exact ⟨p, C, dx, _, v3, rfl, x1.s _ _ hp, c.cl, c.nE, by rw [hfs5 hn]; exact lk_ends, q _ B1 H1 x1 (r3 (by omega))⟩
theorem EvD.t3l {t : T3 α α α} (h : EvD G te T (@rpT3 α α α r r r) t) : EvD G te T (@rpTL α r) ⟨[t.a, t.b, t.c]⟩ := fun B H σ f Q q => h B H σ f Q fun v B' H' x ⟨p, a, b, c, e, hp, h1, h2, h3⟩ => q v B' H' x ⟨p, [a, b, c], e, hp, .cons h1 (.cons h2 (.cons h3 .nil))⟩
theorem EvD.unS {a : α} (h : EvD G te T (@rpOpt α r) (some a)) : EvD G te T r a := h
end
end DL

set_option Elab.async false
set_option linter.all false
set_option maxRecDepth 100000
set_option maxHeartbeats 4000000
/-! a law's own layer, twenty-ninth part: what an except clause holds, asked; calls that read alone -/
namespace DL
open PySem PySem.Spec PyProof.Rows L2
instance pdT4 {α β γ δ : Type} [Rp α] [Pd α] [Rp β] [Pd β] [Rp γ] [Pd γ] [Rp δ] [Pd δ] : Pd (T4 α β γ δ) := ⟨fun p => .tuple [Pd.pd p.a, Pd.pd p.b, Pd.pd p.c, Pd.pd p.d], fun ⟨p, x, y, z, u, a, b, c, d, f, g⟩ => by rw [a]; exact .tup (.inl (.inl b)) (.cons (Pd.dp c) (.cons (Pd.dp d) (.cons (Pd.dp f) (.cons (Pd.dp g) .nil)))), fun p => by simp [PyData.canLay0, PyData.canLayAll0, Pd.lay p.a, Pd.lay p.b, Pd.lay p.c, Pd.lay p.d], max (max (max (Pd.dn α) (Pd.dn β)) (Pd.dn γ)) (Pd.dn δ) + 1, fun p => by
  have h1 := Pd.dep p.a
  have h2 := Pd.dep p.b
  have h3 := Pd.dep p.c
  have h4 := Pd.dep p.d
  simp only [PyData.depth, PyData.depthAll]
  omega, fun a b => by
  obtain ⟨a1, a2, a3, a4⟩ := a
  obtain ⟨b1, b2, b3, b4⟩ := b
  simp only [PyData.eqv, PyData.eqvAll, Bool.and_eq_true, Pd.eqv, T4.mk.injEq, and_true]⟩
@[reducible] def rpEq (v : V) : Rp Unit := ⟨fun _ _ _ x => x = v, fun _ h => h⟩
section
variable {G : Cn} {T : List Ty} {D : Ends} {te ta tb tc : TE}
theorem g_asX {i : Nat} {c C : Addr} {ts : Addr → Value → Option Addr → TS} {Wout : WX} (hi : i < T.length) (e : PySem.W.exmOne G.K (.ref C) (.ref c) = some true)
    (h : ∀ a, Goes G (T.set i (.im (rpEq (.ref a)) ())) (ts a (.ref C) none { nx := fun σ' H' => D.nx (σ'.set i none) H', rt := D.rt, bk := fun σ' H' => D.bk (σ'.set i none) H', ct := fun σ' H' => D.ct (σ'.set i none) H' })) :
    Goes G T (fun σ H => wAs G.K (.ref c) i ts Wout D (.ref C) none σ H) := fun B H σ fr =>
  ⟨true, e, fun _ a _ => h a B H _ (fr.set_im i (rpEq (.ref a)) rfl), fun z => Bool.noConfusion z⟩
theorem ev_isE {i : Nat} {a C : Addr} {v : V} {cv : Value} {b : Bool} (hi : T[i]? = some (.im (rpEq (.ref a)) ())) (x : ExcC G.K C) (hv : ∀ u, RelV v u → u = cv) (k : PySem.W.kitOne G.K (.ref C) cv = some b) : EvD G (tCB (rIsEg G.K (.ref C) none a) (tCons (tVar i) (tCons (tC v) tNil))) T rpBool b := fun B H σ f Q q => by
  obtain ⟨own, _, sl⟩ := f.sl
  obtain ⟨s, e1, w, rfl, e2⟩ := sl i _ hi
  have e2 : w = .ref a := e2
  subst e2
  exact ⟨.ref a, e1, C, rfl, rfl, x, v, cv, b, rfl, hv, k, q _ B H (Ext.refl f.bh) rfl⟩
theorem rel_ref {a : Addr} : ∀ u, RelV (.ref a) u → u = .ref a := fun u r => by cases r; rfl
theorem rel_ty {s : String} : ∀ u, RelV (.ty s) u → u = .type s := fun u r => by cases r; rfl
end
section
variable {G : Cn} {T : List Ty} {D : Ends} {ι α β : Type} {As : ι → List Ty} [ra : Rp α] {w : Ox α} {pre : α × ι → Prop} {r : Rp β} {f : α × ι → Except Addr β} {C : Addr} {m : Str} {E : XK} {ES : L2.St → XK} {tr : TA} {x : ι} {a : α} {y : β} {u : V} {j : Nat}
theorem Fr.getK {B H : Hp} {σ : L2.St} (fr : Fr G B H σ T) (hj : T[j]? = some (.ow (owK u G.B0 G.H0 w) a)) : ∃ S, σ[j]? = some (some u) ∧ w.ox G.K B H a u S := by
  obtain ⟨own, _, sl⟩ := fr.sl
  obtain ⟨s, e1, v, rfl, rfl, s0, S, ho⟩ := sl j _ hj
  refine ⟨S, e1, w.fr ho fr.b0 fun q hq => ?_⟩
  obtain ⟨n1, n2⟩ := w.nb ho q hq
  refine ⟨?_, (fr.n0 q n2).trans n1⟩
  cases hH : G.H0 q with
  | none => exact absurd hH n2
  | some o => exact fr.h0 q o hH
theorem ev_callR (hj : T[j]? = some (.ow (owV u w) a)) (ha : EvA G tr T (As x)) (hp : pre (a, x)) (hf : f (a, x) = .ok y) : EvD G (tCall (SpR G.K w As pre r f) [] E (tCons (tVar j) tr)) T r y := fun B H σ fr Q q => by
  obtain ⟨S0, e1, _⟩ := fr.getO hj
  refine ⟨u, e1, ha B H σ fr _ fun vs B1 H1 x1 ok => ?_⟩
  obtain ⟨S, e2, ho⟩ := (fr.ext x1).getO hj
  show SpR G.K w As pre r f ((u :: vs) ++ []) H1 Q E
  rw [List.append_nil]
  exact ⟨B1, a, x, u, vs, S, x1.s, hp, rfl, ho, ok, fun y' e v B' H' z hy => q v B' H' (x1.trans z) (by rw [hf] at e; cases e; exact hy), fun C e => by rw [hf] at e; cases e⟩
theorem ex_methRT {C' : Addr} (hj : T[j]? = some (.ow (owK u G.B0 G.H0 w) a)) (hi : InsOf ra C m) (ha : EvA G tr T (As x)) (hp : pre (a, x)) (hf : f (a, x) = .error C') : EvXT G (tMethT C m (SpR G.K w As pre r f) ES (tVar j) tr) T (fun σ H => ES σ (.ref C') none H) := fun kk B H σ fr Q => by
  obtain ⟨S0, e1, ho0⟩ := fr.getK hj
  obtain ⟨p, dx, fs, rfl, i1, i2⟩ := hi _ _ _ _ (w.rd ho0 H fr.bh fun _ _ => rfl)
  refine ⟨_, e1, p, dx, fs, rfl, i1, i2, ha B H σ fr _ fun vs B1 H1 x1 ok => ?_⟩
  obtain ⟨S, e2, ho⟩ := (fr.ext x1).getK hj
  exact ⟨B1, a, x, _, vs, S, x1.s, hp, rfl, ho, ok, fun y' e => (by rw [hf] at e; cases e), fun C'' e H' s => by
    rw [hf] at e
    cases e
    exact kk B1 H' σ ((fr.ext x1).ext (Ext.raise x1.s s))⟩
end
end DL

set_option Elab.async false
set_option linter.all false
set_option maxRecDepth 100000
set_option maxHeartbeats 4000000
/-! a law's own layer, thirtieth part: tuples of four taken apart -/
namespace DL
open PySem PySem.Spec PyProof.Rows L2
section
variable {G : Cn} {T : List Ty} {D : Ends} {te ta tb tc : TE} {α : Type} {r : Rp α}
theorem EvD.t4l {t : T4 α α α α} (h : EvD G te T (@rpT4 α α α α r r r r) t) : EvD G te T (@rpTL α r) ⟨[t.a, t.b, t.c, t.d]⟩ := fun B H σ f Q q => h B H σ f Q fun v B' H' x ⟨p, a, b, c, d, e, hp, h1, h2, h3, h4⟩ => q v B' H' x ⟨p, [a, b, c, d], e, hp, .cons h1 (.cons h2 (.cons h3 (.cons h4 .nil)))⟩
/-- t[:3] -/
theorem ev_sl43 {t : T4 α α α α} (h : EvD G te T (@rpT4 α α α α r r r r) t) : EvD G (tSl (rSlT G.K) te tNoPart (tPart (tC (.int 3)))) T (@rpT3 α α α r r r) ⟨t.a, t.b, t.c⟩ := fun B H σ f Q q =>
  h B H σ f _ fun v B1 H1 x1 e1 => by
    obtain ⟨p, a, b, c, d, rfl, hp, h1, h2, h3, h4⟩ := e1
    refine ⟨3, rfl, p, [a, b, c, d], rfl, .inl (.inl (x1.s _ _ hp)), (show ¬ (HT.sIx 4 0 none = 0 ∧ HT.sIx 4 4 (some 3) = 4) by decide), fun l hl => ?_⟩
    have x2 := upd_ext (o := .tup (cutV [a, b, c, d] none (some 3))) x1.s hl
    exact q (.ref l) _ _ (x1.trans x2) ⟨l, a, b, c, rfl, upd_same, r.mono x2.b h1, r.mono x2.b h2, r.mono x2.b h3⟩
/-- t + (n,) -/
theorem ev_cat31 {a b c n : Int} (ha : EvD G ta T (@rpT3 Int Int Int _ _ _) ⟨a, b, c⟩) (hb : EvD G tb T rpInt n) : EvD G (tOp (rCatT G.K) ta (tTup (tCons tb tNil))) T (@rpT4 Int Int Int Int _ _ _ _) ⟨a, b, c, n⟩ := fun B H σ f Q q =>
  ha B H σ f _ fun v B1 H1 x1 e1 => by
    refine hb B1 H1 σ (f.ext x1) _ fun w B2 H2 x2 e2 => ⟨by show 1 ≤ sizeLine; decide, fun p hp => ?_⟩
    have x3 := upd_ext (o := .tup [w]) x2.s hp
    obtain ⟨p', y1, y2, y3, rfl, hp', r1, r2, r3⟩ := e1
    refine ⟨p', p, [y1, y2, y3], [w], rfl, rfl, .inl (.inl (x3.s _ _ (x3.b _ _ (x2.b _ _ hp')))), .inl (.inl upd_same), (fun z => by cases z), by show 4 ≤ sizeLine; decide, by simp, fun _ l hl => ?_⟩
    have x4 := upd_ext (o := .tup ([y1, y2, y3] ++ [w])) x3.s hl
    exact q (.ref l) _ _ (((x1.trans x2).trans x3).trans x4) ⟨l, y1, y2, y3, w, rfl, upd_same, r1, r2, r3, e2⟩
end
end DL

set_option Elab.async false
set_option linter.all false
set_option maxRecDepth 100000
set_option maxHeartbeats 4000000
/-! a law's own layer, thirty-first part: things made that nobody names, refused -/
namespace DL
open PySem PySem.Spec PyProof.Rows L2
section
variable {G : Cn} {T : List Ty} {D : Ends}
theorem Fr.set_un {B H : Hp} {σ : L2.St} (f : Fr G B H σ T) (i : Nat) : Fr G B H (σ.set i none) (T.set i .un) := by
  obtain ⟨own, o0, sl⟩ := f.sl
  refine ⟨f.bh, f.b0, f.h0, f.n0, by rw [List.length_set, List.length_set]; exact f.len, own, o0, fun j t e => ?_⟩
  by_cases hi : i = j
  · subst hi
    have hj : i < T.length := by
      have := (List.getElem?_eq_some_iff.mp e).1
      rwa [List.length_set] at this
    rw [List.getElem?_set_self hj] at e
    cases e
    exact ⟨none, List.getElem?_set_self (by rw [f.len]; exact hj), rfl⟩
  · rw [List.getElem?_set_ne hi] at e ⊢
    exact sl j t e
theorem g_unset {i : Nat} {k : L2.St → Hp → Prop} (q : Goes G (T.set i .un) k) : Goes G T fun σ H => k (σ.set i none) H := fun B H σ f => q B H _ (f.set_un i)
end
section
variable {G : Cn} {T : List Ty} {D : Ends} {α β ι : Type} [ra : Rp α] {w : Ox α} {r : Rp β} {C : Addr} {m : Str} {As : ι → List Ty} {pre : α × ι → Prop} {f : α × ι → Except Addr (β × α)} {E : XK} {tr : TA} {te : TE} {x : ι} {a a0 : α}
variable {fI : α × ι → Except Addr (Unit × α)}
theorem ex_makeF {C' : Addr} (h0 : NewOf w C a0) (ha : EvA G tr T (As x)) (hp : pre (a0, x)) (hf : fI (a0, x) = .error C') : EvXT G (tMake C (SpM G.K w As pre rpUnit fI) [] E tr) T (fun _ H => E (.ref C') none H) := fun kk B H σ fr Q => ha B H σ fr _ fun vs B1 H1 x1 ok => by
  intro p dx hpn hdn hne
  rw [List.append_nil]
  refine ⟨B1, a0, x, .ref p, vs, _, make_same x1.s hpn hdn, hp, rfl, h0 G.K B1 _ p dx (x1.s.free hpn) (x1.s.free hdn) hne upd_same (by rw [upd_ne hne, upd_same]), ok, fun y b' e => (by rw [hf] at e; cases e), fun C'' e B' H' S' z hS' ho' => ?_⟩
  rw [hf] at e
  cases e
  exact kk B' H' σ ((fr.ext x1).ext (make_ext x1.s hpn hdn z))
theorem ex_callMO {C' : Addr} (ho : EvO G te T w a) (hA : As x = []) (hp : pre (a, x)) (hf : f (a, x) = .error C') : EvXT G (tCall (SpM G.K w As pre r f) [] E (tCons te tNil)) T (fun _ H => E (.ref C') none H) := fun kk B H σ fr Q => ho B H σ fr _ fun u B1 H1 S x1 hS h1 => by
  show SpM G.K w As pre r f ([u] ++ []) H1 Q E
  rw [List.append_nil]
  refine ⟨B1, a, x, u, [], S, x1.s, hp, rfl, h1, by rw [hA]; trivial, fun y a' e => (by rw [hf] at e; cases e), fun C'' e B' H' S' z hS' ho' => ?_⟩
  rw [hf] at e
  cases e
  have up : ∀ q o, H q = some o → delS H1 S q = some o := fun q o e => by
    rw [delS_ne fun hq => by rw [hS q hq] at e; cases e]
    exact x1.h q o e
  exact kk B' H' σ (fr.ext ⟨x1.b.trans z.b, fun q o e => z.h q o (up q o e), z.s, fun q hq => by
    cases hH : H q with
    | none => exact absurd hH hq
    | some o => exact (z.n q (by rw [up q o hH]; intro w; cases w)).trans (x1.n q (by rw [hH]; intro w; cases w))⟩)
/-- f(x) that only raises, x given up -/
def SpE (K : PySem.W.Frag) {α : Type} [Rp α] (w : Ox α) (a0 : α) (Y : Addr) : Sp := fun vs H Q E => ∃ (B : Hp) (u : V) (S : Addr → Prop), Same B H ∧ vs = [u] ∧ w.ox K B H a0 u S ∧ ∀ H', Same (delS H S) H' → E (.ref Y) none H'
variable {P : Program} {wd : World} {K : PySem.W.Frag} {mg : Str → Option Value} {base : Heap} {nm qual : Str} {st : Stmt} {fa : Addr} {fd : FuncData} {N ps : List Str} {k : Nat} {Y : Addr}
theorem def_okE (F : Fun K nm qual st fa fd) (S : FnScope N ps (defScope st)) (len : 1 = ps.length)
    (hbody : ∀ (cdv : Value) (A : Around) (outer : List Env) (s : Shared) (H : Hp) (E : XK), Room k (A.deeper (envOfC qual (defScope st) s.heap.objs.size fa cdv)) →
      ∃ t, PSs (cxOf (L2.CX P wd) P wd K mg base N qual (defScope st) fa cdv A outer s H E) (defBody st) t ∧ ∀ (B H1 : Hp) (u : V) (Q : VK), (∀ H', Same H1 H' → E (.ref Y) none H') →
        Goes ⟨K, B, H1⟩ ((.ow (owV u w) a :: []) ++ List.replicate (N.length - (([] : List Ty).length + 1)) .un) (t { nx := fun _ H' => Q .non H', rt := Q })) :
    FnOk P wd K mg base (L2.CX P wd) (k + 1) fa fd ps (SpE K w a Y) := by
  refine F.okX S (fun vs H Q E h => ?_) (fun cdv A outer s H vs Q E hr h => ?_)
  · obtain ⟨B, u, S, _, rfl, _⟩ := h
    exact len
  · obtain ⟨B, u, S, sB, rfl, ho, h2⟩ := h
    obtain ⟨t, ht, hg⟩ := hbody cdv A outer s H E hr
    exact ⟨t, ht, hg B (delS H S) u Q h2 B H _ (Fr.entryM (us := []) (As := []) sB ho trivial)⟩
theorem ex_callE (ho : EvO G te T w a) : EvXT G (tCall (SpE G.K w a Y) [] E (tCons te tNil)) T (fun _ H => E (.ref Y) none H) := fun kk B H σ fr Q => ho B H σ fr _ fun u B1 H1 S x1 hS h1 => by
  show SpE G.K w a Y ([u] ++ []) H1 Q E
  rw [List.append_nil]
  have up : ∀ q o, H q = some o → delS H1 S q = some o := fun q o e => by
    rw [delS_ne fun hq => by rw [hS q hq] at e; cases e]
    exact x1.h q o e
  exact ⟨B1, u, S, x1.s, rfl, h1, fun H' s => kk B H' σ (fr.ext ⟨Same.refl _, fun q o e => s q o (up q o e), fr.bh.trans fun q o e => s q o (up q o e), fun _ _ => rfl⟩)⟩
end
end DL

set_option Elab.async false
set_option linter.all false
set_option maxRecDepth 100000
set_option maxHeartbeats 4000000
/-! a law's own layer, thirty-second part: what a call gives is one's own -/
namespace DL
open PySem PySem.Spec PyProof.Rows L2
/-- o.m(..) that leaves all as it stands and gives a new list -/
def SpRN (K : PySem.W.Frag) {α ι β : Type} [Rp α] (w : Ox α) (As : ι → List Ty) (pre : α × ι → Prop) (r : Rp β) (f : α × ι → Except Addr (List β)) : Sp := fun vs H Q E => ∃ (B : Hp) (a : α) (x : ι) (u : V) (us : List V) (S : Addr → Prop), Same B H ∧ pre (a, x) ∧ vs = u :: us ∧ w.ox K B H a u S ∧ ArgsOk K B us (As x) ∧
  (∀ y, f (a, x) = .ok y → ∀ p ws B' H', Ext B H B' H' → H p = none → B' p = none → H' p = some (.lst ws) → Paired (r.rp K B') y ws → Q (.ref p) H') ∧ (∀ C, f (a, x) = .error C → ∀ H', Same H H' → E (.ref C) none H')
section
variable {ι α β : Type} {As : ι → List Ty} [ra : Rp α] {w : Ox α} {pre : α × ι → Prop} {r : Rp β} {f : α × ι → Except Addr (List β)}
variable {P : Program} {wd : World} {K : PySem.W.Frag} {mg : Str → Option Value} {base : Heap} {nm qual : Str} {st : Stmt} {fa : Addr} {fd : FuncData} {N ps : List Str} {k : Nat}
theorem def_okRN (F : Fun K nm qual st fa fd) (S : FnScope N ps (defScope st)) (len : ∀ x, (As x).length + 1 = ps.length)
    (hbody : ∀ (cdv : Value) (A : Around) (outer : List Env) (s : Shared) (H : Hp) (E : XK), Room k (A.deeper (envOfC qual (defScope st) s.heap.objs.size fa cdv)) →
      ∃ t, PSs (cxOf (L2.CX P wd) P wd K mg base N qual (defScope st) fa cdv A outer s H E) (defBody st) t ∧ ∀ (B : Hp) (a : α) (x : ι) (u : V) (Q : VK), pre (a, x) → (∀ y, f (a, x) = .ok y → RetN ⟨K, B, H⟩ Q r y) → (∀ C, f (a, x) = .error C → ∀ H', Same H H' → E (.ref C) none H') →
        Goes ⟨K, B, H⟩ ((.ow (owK u B H w) a :: As x) ++ List.replicate (N.length - ((As x).length + 1)) .un) (t { nx := fun _ H' => Q .non H', rt := Q })) :
    FnOk P wd K mg base (L2.CX P wd) (k + 1) fa fd ps (SpRN K w As pre r f) := by
  refine F.okX S (fun vs H Q E h => ?_) (fun cdv A outer s H vs Q E hr h => ?_)
  · obtain ⟨B, a, x, u, us, S, _, _, rfl, _, ok, _⟩ := h
    show us.length + 1 = _
    rw [args_len ok]
    exact len x
  · obtain ⟨B, a, x, u, us, S, sB, hp, rfl, ho, ok, h1, h2⟩ := h
    obtain ⟨t, ht, hg⟩ := hbody cdv A outer s H E hr
    exact ⟨t, ht, hg B a x u Q hp (fun y e p ws B' H' y2 n1 n2 e2 z => h1 y e p ws B' H' y2 n1 n2 e2 z) h2 B H _ (Fr.entryR sB ho ok)⟩
variable {G : Cn} {T : List Ty} {D : Ends} {C : Addr} {m : Str} {E : XK} {tr : TA} {x : ι} {a : α} {y : List β} {u : V} {j : Nat} {te : TE} {tu : TS}
theorem ev_methRN (hj : T[j]? = some (.ow (owV u w) a)) (hi : InsOf ra C m) (ha : EvA G tr T (As x)) (hp : pre (a, x)) (hf : f (a, x) = .ok y) : EvN G (tMeth C m (SpRN G.K w As pre r f) [] E (tVar j) tr) T r y := fun B H σ fr Q q => by
  obtain ⟨S0, e1, ho0⟩ := fr.getO hj
  obtain ⟨p, dx, fs, rfl, i1, i2⟩ := hi _ _ _ _ (w.rd ho0 H fr.bh fun _ _ => rfl)
  refine ⟨_, e1, p, dx, fs, rfl, i1, i2, ha B H σ fr _ fun vs B1 H1 x1 ok => ?_⟩
  obtain ⟨S, e2, ho⟩ := (fr.ext x1).getO hj
  rw [List.append_nil]
  exact ⟨B1, a, x, _, vs, S, x1.s, hp, rfl, ho, ok, fun y' e p ws B' H' z n1 n2 e2 hy => q p ws B' H' (x1.trans z) (x1.h.free n1) n2 e2 (by rw [hf] at e; cases e; exact hy), fun C e => by rw [hf] at e; cases e⟩
/-- a list just made is emptied -/
theorem g_clearN {xs : List β} (h : EvN G te T r xs) (q : Goes G T D.nx) : Goes G T (tDrop (tBM0 G.K "list" rClear te) D) := fun B H σ f => h B H σ f _ fun p vs B1 H1 x1 n1 n2 e z => by
  refine ⟨.inl ⟨rfl, vs, .inl (.inl e)⟩, p, vs, rfl, rfl, e, ?_⟩
  have x2 : Ext B H B1 (upd H1 p (.lst [])) := ⟨x1.b, fun b o hb => by
    rw [upd_ne fun z => by rw [z, n1] at hb; cases hb]
    exact x1.h b o hb, fun b o hb => by
    rw [upd_ne (ne_of_none hb n2)]
    exact x1.s b o hb, x1.n⟩
  exact q B1 _ σ (f.ext x2)
theorem q_clearN {xs : List β} (h : EvN G te T r xs) (q : Goes G T (tu D)) : Goes G T (tSeq (tDrop (tBM0 G.K "list" rClear te)) tu D) := g_clearN (D := { D with nx := tu D }) h q
end
/-! a call's own answer: a number, a number, a list -/
abbrev A3 := T3 Int Int (List Int)
instance oxA3 : @Ox A3 (@rpT3 Int Int (List Int) rpInt rpInt (@rpList Int rpInt)) :=
  letI := @rpT3 Int Int (List Int) rpInt rpInt (@rpList Int rpInt)
  { ox := fun K B H y v S => ∃ p l, v = .ref p ∧ p ≠ l ∧ (∀ q, S q ↔ q = p ∨ q = l) ∧ B p = none ∧ B l = none ∧ H p = some (.tup [.int y.a, .int y.b, .ref l]) ∧ H l = some (.lst (y.c.map V.int))
    fr := by
      rintro K B H B' H' a v S ⟨p, l, e, ne, hS, b1, b2, h1, h2⟩ sb k
      have kp := k p ((hS p).mpr (.inl rfl))
      have kl := k l ((hS l).mpr (.inr rfl))
      exact ⟨p, l, e, ne, hS, kp.2, kl.2, kp.1.trans h1, kl.1.trans h2⟩
    nb := by
      rintro K B H a v S ⟨p, l, e, ne, hS, b1, b2, h1, h2⟩ q hq
      rcases (hS q).mp hq with rfl | rfl
      · exact ⟨b1, by rw [h1]; intro z; cases z⟩
      · exact ⟨b2, by rw [h2]; intro z; cases z⟩
    rd := by
      rintro K B H a v S ⟨p, l, e, ne, hS, b1, b2, h1, h2⟩ H' sb k
      exact ⟨p, .int a.a, .int a.b, .ref l, e, (k p ((hS p).mpr (.inl rfl))).trans h1, rfl, rfl, l, _, rfl, (k l ((hS l).mpr (.inr rfl))).trans h2, of_ints⟩ }
/-- or nothing -/
abbrev rpA3 : Rp A3 := @rpT3 Int Int (List Int) rpInt rpInt (@rpList Int rpInt)
instance oxOA3 : @Ox (Option A3) (@rpOpt A3 rpA3) :=
  letI := @rpOpt A3 rpA3
  { ox := fun K B H y v S => match y with
      | none => v = .non ∧ ∀ q, ¬ S q
      | some a => oxA3.ox K B H a v S
    fr := by
      rintro K B H B' H' a v S h sb k
      cases a with
      | none => exact h
      | some a => exact oxA3.fr h sb k
    nb := by
      rintro K B H a v S h q hq
      cases a with
      | none => exact absurd hq (h.2 q)
      | some a => exact oxA3.nb h q hq
    rd := by
      rintro K B H a v S h H' sb k
      cases a with
      | none => exact h.1
      | some a => exact oxA3.rd h H' sb k }
/-- f(x, ..) that changes x and gives something of its own -/
def SpMO (K : PySem.W.Frag) {α ι β : Type} [Rp α] (w : Ox α) [Rp β] (w2 : Ox β) (As : ι → List Ty) (pre : α × ι → Prop) (f : α × ι → Except Addr (β × α)) : Sp := fun vs H Q E => ∃ (B : Hp) (a : α) (x : ι) (u : V) (us : List V) (S : Addr → Prop), Same B H ∧ pre (a, x) ∧ vs = u :: us ∧ w.ox K B H a u S ∧ ArgsOk K B us (As x) ∧
  (∀ y a', f (a, x) = .ok (y, a') → ∀ v B' H' S' S2, Ext B (delS H S) B' H' → (∀ q, S' q → delS H S q = none) → (∀ q, S2 q → delS H S q = none ∧ ¬ S' q) → w.ox K B' H' a' u S' → w2.ox K B' H' y v S2 → Q v H') ∧
  (∀ C, f (a, x) = .error C → ∀ B' H' S', Ext B (delS H S) B' H' → (∀ q, S' q → delS H S q = none) → w.ox K B' H' a u S' → E (.ref C) none H')
def RetMO (G : Cn) (rt : VK) {α β : Type} [Rp α] (u : V) (w : Ox α) [Rp β] (w2 : Ox β) (y : β) (a : α) : Prop := ∀ v B H S S2, Ext G.B0 G.H0 B H → (∀ q, S q → G.H0 q = none) → (∀ q, S2 q → G.H0 q = none ∧ ¬ S q) → w.ox G.K B H a u S → w2.ox G.K B H y v S2 → rt v H
section
variable {ι α β : Type} {As : ι → List Ty} [ra : Rp α] {w : Ox α} [rb : Rp β] {w2 : Ox β} {pre : α × ι → Prop} {f : α × ι → Except Addr (β × α)}
variable {P : Program} {wd : World} {K : PySem.W.Frag} {mg : Str → Option Value} {base : Heap} {nm qual : Str} {st : Stmt} {fa : Addr} {fd : FuncData} {N ps : List Str} {k : Nat}
theorem def_okMO (F : Fun K nm qual st fa fd) (S : FnScope N ps (defScope st)) (len : ∀ x, (As x).length + 1 = ps.length)
    (hbody : ∀ (cdv : Value) (A : Around) (outer : List Env) (s : Shared) (H : Hp) (E : XK), Room k (A.deeper (envOfC qual (defScope st) s.heap.objs.size fa cdv)) →
      ∃ t, PSs (cxOf (L2.CX P wd) P wd K mg base N qual (defScope st) fa cdv A outer s H E) (defBody st) t ∧ ∀ (B H1 : Hp) (a : α) (x : ι) (u : V) (Q : VK), pre (a, x) → (∀ y a', f (a, x) = .ok (y, a') → RetMO ⟨K, B, H1⟩ Q u w w2 y a') → (∀ C, f (a, x) = .error C → RaiM ⟨K, B, H1⟩ E u w C a) →
        Goes ⟨K, B, H1⟩ ((.ow (owV u w) a :: As x) ++ List.replicate (N.length - ((As x).length + 1)) .un) (t { nx := fun _ H' => Q .non H', rt := Q })) :
    FnOk P wd K mg base (L2.CX P wd) (k + 1) fa fd ps (SpMO K w w2 As pre f) := by
  refine F.okX S (fun vs H Q E h => ?_) (fun cdv A outer s H vs Q E hr h => ?_)
  · obtain ⟨B, a, x, u, us, S, _, _, rfl, _, ok, _⟩ := h
    show us.length + 1 = _
    rw [args_len ok]
    exact len x
  · obtain ⟨B, a, x, u, us, S, sB, hp, rfl, ho, ok, h1, h2⟩ := h
    obtain ⟨t, ht, hg⟩ := hbody cdv A outer s H E hr
    exact ⟨t, ht, hg B (delS H S) a x u Q hp (fun y a' e v B' H' S' S2 y2 hS hS2 ho' hy => h1 y a' e v B' H' S' S2 y2 hS hS2 ho' hy) (fun C e B' H' S' y2 hS ho' => h2 C e B' H' S' y2 hS ho') B H _ (Fr.entryM sB ho ok)⟩
variable {G : Cn} {T : List Ty} {D : Ends} {C : Addr} {m : Str} {E : XK} {ES : L2.St → XK} {tr : TA} {x : ι} {a a' : α} {y : β} {u : V} {i j : Nat} {te : TE} {tu : TS}
theorem g_retVO (hi : T[i]? = some (.ow (owV u w) a)) (h : EvO G te T w2 y) (q : RetMO G D.rt u w w2 y a) : Goes G T (tRet te D) := fun B H σ f => h B H σ f _ fun v B1 H1 S2 x1 hS2 e1 => by
  obtain ⟨S0, _, ho0⟩ := f.getO hi
  have f1 := f.ext x1
  obtain ⟨own, o0, sl⟩ := f.sl
  obtain ⟨s, _, u', rfl, rfl, S, hS, ho⟩ := sl i _ hi
  have ho1 : w.ox G.K B1 H1 a _ S := w.fr ho x1.b fun p hp => by
    obtain ⟨n1, n2⟩ := w.nb ho p hp
    refine ⟨?_, (x1.n p n2).trans n1⟩
    cases hH : H p with
    | none => exact absurd hH n2
    | some o => exact x1.h p o hH
  exact q v B1 H1 S S2 f1.ext0 (fun p hp => o0 p i (hS p hp)) (fun p hp => ⟨f.h0.free (hS2 p hp), fun z => (w.nb ho p z).2 (hS2 p hp)⟩) ho1 e1
/-- an expression that changes slot j's thing and gives one's own -/
def EvMO (G : Cn) (te : TE) (T : List Ty) {α β : Type} [Rp α] (w : Ox α) [Rp β] (w2 : Ox β) (j : Nat) (u : V) (y : β) (a' : α) : Prop := ∀ B H σ, Fr G B H σ T → ∀ Q : VK, (∀ v B' H' S S2, Fr G B' H' σ (T.set j (.ow (owV u w) a')) → (∀ i, Fr G B' H' (σ.set i (some v)) ((T.set j (.ow (owV u w) a')).set i (.ow (owV v w2) y))) → (∀ q, S q → G.H0 q = none) → (∀ q, S2 q → G.H0 q = none ∧ ¬ S q) → w.ox G.K B' H' a' u S → w2.ox G.K B' H' y v S2 → Q v H') → te σ H Q
theorem Fr.mutO2 {B H : Hp} {σ : L2.St} (f : Fr G B H σ T) (hj : T[j]? = some (.ow (owV u w) a)) :
    ∃ S, σ[j]? = some (some u) ∧ w.ox G.K B H a u S ∧ (∀ q, S q → G.H0 q = none) ∧ ∀ (a' : α) (v : V) (y : β) (B' H' : Hp) (S' S2 : Addr → Prop), Ext B (delS H S) B' H' → (∀ q, S' q → delS H S q = none) → (∀ q, S2 q → delS H S q = none ∧ ¬ S' q) → w.ox G.K B' H' a' u S' → w2.ox G.K B' H' y v S2 → Fr G B' H' σ (T.set j (.ow (owV u w) a')) ∧ ∀ i, Fr G B' H' (σ.set i (some v)) ((T.set j (.ow (owV u w) a')).set i (.ow (owV v w2) y)) := by
  classical
  obtain ⟨S, e1, ho, h0, k⟩ := f.mutO hj
  refine ⟨S, e1, ho, h0, fun a' v y B' H' S' S2 z hS' hS2 ho' hy => ⟨k α ra w a' B' H' S' z hS' ho', fun i => ?_⟩⟩
  have n2 : ∀ q, S2 q → B' q = none := fun q hq => (w2.nb hy q hq).1
  have f0 := k α ra w a' B' (delS H' S2) S' ⟨z.b, fun q o e => by
    rw [delS_ne fun hq => by rw [(hS2 q hq).1] at e; cases e]
    exact z.h q o e, fun q o e => by
    rw [delS_ne fun hq => by rw [n2 q hq] at e; cases e]
    exact z.s q o e, z.n⟩ hS' (w.fr ho' (Same.refl _) fun q hq => ⟨delS_ne fun h2 => (hS2 q h2).2 hq, (w.nb ho' q hq).1⟩)
  exact f0.newO i ⟨Same.refl _, fun q o e => (delS_some e).2, z.s, fun _ _ => rfl⟩ (fun q hq => delS_in hq) hy
theorem free_of {G : Cn} {T : List Ty} {B H : Hp} {σ : L2.St} (f : Fr G B H σ T) {S : Addr → Prop} (h0 : ∀ q, S q → G.H0 q = none) {q : Addr} (h : delS H S q = none) : G.H0 q = none := by
  by_cases hq : S q
  · exact h0 q hq
  · rw [delS_ne hq] at h
    exact f.h0.free h
theorem ev_methMOT (hj : T[j]? = some (.ow (owV u w) a)) (hi : InsOf ra C m) (ha : EvA G tr T (As x)) (hp : pre (a, x)) (hf : f (a, x) = .ok (y, a')) : EvMO G (tMethT C m (SpMO G.K w w2 As pre f) ES (tVar j) tr) T w w2 j u y a' := fun B H σ fr Q q => by
  obtain ⟨S0, e1, ho0⟩ := fr.getO hj
  obtain ⟨p, dx, fs, rfl, i1, i2⟩ := hi _ _ _ _ (w.rd ho0 H fr.bh fun _ _ => rfl)
  refine ⟨_, e1, p, dx, fs, rfl, i1, i2, ha B H σ fr _ fun vs B1 H1 x1 ok => ?_⟩
  have fr1 := fr.ext x1
  obtain ⟨S, e2, ho, hS0, k⟩ := fr1.mutO2 (w2 := w2) hj
  exact ⟨B1, a, x, _, vs, S, x1.s, hp, rfl, ho, ok, fun y' b' e v B' H' S' S2 z hS' hS2 ho' hy => by
    rw [hf] at e
    cases e
    obtain ⟨k1, k2⟩ := k a' v y B' H' S' S2 z hS' hS2 ho' hy
    exact q v B' H' S' S2 k1 k2 (fun q hq => free_of fr1 hS0 (hS' q hq)) (fun q hq => ⟨free_of fr1 hS0 (hS2 q hq).1, (hS2 q hq).2⟩) ho' hy, fun C e => by rw [hf] at e; cases e⟩
theorem ex_methMOT {C' : Addr} (hj : T[j]? = some (.ow (owV u w) a)) (hi : InsOf ra C m) (ha : EvA G tr T (As x)) (hp : pre (a, x)) (hf : f (a, x) = .error C') : EvXT G (tMethT C m (SpMO G.K w w2 As pre f) ES (tVar j) tr) T (fun σ H => ES σ (.ref C') none H) := fun kk B H σ fr Q => by
  obtain ⟨S0, e1, ho0⟩ := fr.getO hj
  obtain ⟨p, dx, fs, rfl, i1, i2⟩ := hi _ _ _ _ (w.rd ho0 H fr.bh fun _ _ => rfl)
  refine ⟨_, e1, p, dx, fs, rfl, i1, i2, ha B H σ fr _ fun vs B1 H1 x1 ok => ?_⟩
  obtain ⟨S, e2, ho, hS0, k⟩ := (fr.ext x1).mutO hj
  exact ⟨B1, a, x, _, vs, S, x1.s, hp, rfl, ho, ok, fun y' b' e => (by rw [hf] at e; cases e), fun C'' e B' H' S' z hS' ho' => by
    rw [hf] at e
    cases e
    have f2 := k α ra w a B' H' S' z hS' ho'
    rw [set_same hj] at f2
    exact kk B' H' σ f2⟩
theorem ev_callMO (hj : T[j]? = some (.ow (owV u w) a)) (ha : EvA G tr T (As x)) (hp : pre (a, x)) (hf : f (a, x) = .ok (y, a')) : EvMO G (tCall (SpMO G.K w w2 As pre f) [] E (tCons (tVar j) tr)) T w w2 j u y a' := fun B H σ fr Q q => by
  obtain ⟨S0, e1, _⟩ := fr.getO hj
  refine ⟨u, e1, ha B H σ fr _ fun vs B1 H1 x1 ok => ?_⟩
  have fr1 := fr.ext x1
  obtain ⟨S, e2, ho, hS0, k⟩ := fr1.mutO2 (w2 := w2) hj
  show SpMO G.K w w2 As pre f ((u :: vs) ++ []) H1 Q E
  rw [List.append_nil]
  exact ⟨B1, a, x, u, vs, S, x1.s, hp, rfl, ho, ok, fun y' b' e v B' H' S' S2 z hS' hS2 ho' hy => by
    rw [hf] at e
    cases e
    obtain ⟨k1, k2⟩ := k a' v y B' H' S' S2 z hS' hS2 ho' hy
    exact q v B' H' S' S2 k1 k2 (fun q hq => free_of fr1 hS0 (hS' q hq)) (fun q hq => ⟨free_of fr1 hS0 (hS2 q hq).1, (hS2 q hq).2⟩) ho' hy, fun C e => by rw [hf] at e; cases e⟩
theorem g_retMO (h : EvMO G te T w w2 j u y a') (q : RetMO G D.rt u w w2 y a') : Goes G T (tRet te D) := fun B H σ f => h B H σ f _ fun v B' H' S S2 f1 _ h1 h2 ho hy => q v B' H' S S2 f1.ext0 h1 h2 ho hy
theorem g_asgMO (h : EvMO G te T w w2 j u y a') (q : ∀ v, Goes G ((T.set j (.ow (owV u w) a')).set i (.ow (owV v w2) y)) D.nx) : Goes G T (tAsg te (gName i) D) := fun B H σ f => h B H σ f _ fun v B' H' S S2 _ f2 _ _ _ _ => q v B' H' _ (f2 i)
theorem q_asgMO (h : EvMO G te T w w2 j u y a') (q : ∀ v, Goes G ((T.set j (.ow (owV u w) a')).set i (.ow (owV v w2) y)) (tu D)) : Goes G T (tSeq (tAsg te (gName i)) tu D) := g_asgMO (D := { D with nx := tu D }) h q
end
end DL

set_option Elab.async false
set_option linter.all false
set_option maxRecDepth 100000
set_option maxHeartbeats 4000000
/-! a law's own layer, thirty-third part: the answer of a put, one's own -/
namespace DL
open PySem PySem.Spec PyProof.Rows L2
section
variable {G : Cn} {T : List Ty} {D : Ends} {ta tb tc te : TE} {tu : TS} {i j : Nat} {u : V} {a : A3}
theorem ev_tripO {x y : Int} {xs : List Int} (ha : EvD G ta T rpInt x) (hb : EvD G tb T rpInt y) (hc : EvN G tc T rpInt xs) : @EvO G (tTup (tCons ta (tCons tb (tCons tc tNil)))) T A3 rpA3 oxA3 ⟨x, y, xs⟩ := fun B H σ f Q q =>
  ha B H σ f _ fun v B1 H1 x1 e1 => hb B1 H1 σ (f.ext x1) _ fun w B2 H2 x2 e2 => hc B2 H2 σ ((f.ext x1).ext x2) _ fun l ws B3 H3 x3 n1 n2 e z => ⟨by show 3 ≤ sizeLine; decide, fun p hp => by
    have ew := ints_of z
    subst ew
    have ne : p ≠ l := fun z => by rw [z, e] at hp; cases hp
    have x4 := upd_extN (o := .tup [v, w, .ref l]) x3.s hp
    refine q (.ref p) B3 _ (fun q => q = p ∨ q = l) (((x1.trans x2).trans x3).trans x4) (fun q hq => ?_) ⟨p, l, rfl, ne, fun _ => Iff.rfl, x3.s.free hp, n2, by rw [upd_same, show v = .int x from e1, show w = .int y from e2], (upd_ne (Ne.symm ne)).trans e⟩
    rcases hq with rfl | rfl
    · exact ((x1.trans x2).trans x3).h.free hp
    · exact (x1.trans x2).h.free n1⟩
theorem ev_someO (h : @EvO G te T A3 rpA3 oxA3 a) : @EvO G te T (Option A3) (@rpOpt A3 rpA3) oxOA3 (some a) := h
theorem ev_nonO : @EvO G (tC .non) T (Option A3) (@rpOpt A3 rpA3) oxOA3 none := fun B H σ f Q q => q .non B H (fun _ => False) (Ext.refl f.bh) (fun _ z => z.elim) ⟨rfl, fun _ z => z⟩
theorem Fr.getA {B H : Hp} {σ : L2.St} (f : Fr G B H σ T) (hj : T[j]? = some (.ow (@owV _ (@rpOpt A3 rpA3) u oxOA3) (some a))) : ∃ p l, σ[j]? = some (some (.ref p)) ∧ u = .ref p ∧ H p = some (.tup [.int a.a, .int a.b, .ref l]) ∧ H l = some (.lst (a.c.map V.int)) := by
  obtain ⟨S, e1, p, l, e, ne, hS, b1, b2, h1, h2⟩ := f.getO (w := oxOA3) hj
  exact ⟨p, l, by rw [e1, e], e, h1, h2⟩
/-- x[0] -/
theorem ev_fstA (hj : T[j]? = some (.ow (@owV _ (@rpOpt A3 rpA3) u oxOA3) (some a))) : EvD G (tOp (rIxT G.K) (tVar j) (tC (.int 0))) T rpInt a.a := fun B H σ f Q q => by
  obtain ⟨p, l, e1, _, h1, h2⟩ := f.getA hj
  exact ⟨_, e1, p, _, 0, .int a.a, rfl, rfl, .inl (.inl h1), rfl, q _ B H (Ext.refl f.bh) rfl⟩
/-- x[2].append(n) -/
theorem g_appA {n : Int} (hj : T[j]? = some (.ow (@owV _ (@rpOpt A3 rpA3) u oxOA3) (some a))) (h : EvD G te T rpInt n) (hz : a.c.length < 100000) (q : Goes G (T.set j (.ow (@owV _ (@rpOpt A3 rpA3) u oxOA3) (some ⟨a.a, a.b, a.c ++ [n]⟩))) D.nx) :
    Goes G T (tDrop (tBM G.K "list" rAppend (tOp (rIxT G.K) (tVar j) (tC (.int 2))) (tCons te tNil)) D) := fun B H σ f => by
  obtain ⟨p0, l0, e0, eu, h10, h20⟩ := f.getA hj
  refine ⟨_, e0, p0, _, 2, .ref l0, rfl, rfl, .inl (.inl h10), rfl, .inl ⟨rfl, _, .inl (.inl h20)⟩, h B H σ f _ fun v B1 H1 x1 h1 => ?_⟩
  obtain ⟨S, e2, ⟨p, l, e, ne, hS, b1, b2, g1, g2⟩, hS0, k⟩ := (f.ext x1).mutO (w := oxOA3) hj
  have ep : p0 = p := by rw [eu] at e; cases e; rfl
  subst ep
  have el : l0 = l := by
    have := (x1.h _ _ h10).symm.trans g1
    cases this
    rfl
  subst el
  refine ⟨l0, _, v, rfl, rfl, g2, by rw [List.length_map]; exact sz_lt hz, ?_⟩
  have hv : v = .int n := h1
  subst hv
  refine q B1 _ σ (k _ (@rpOpt A3 rpA3) oxOA3 (some ⟨a.a, a.b, a.c ++ [n]⟩) B1 (upd H1 l0 (.lst (a.c.map V.int ++ [.int n]))) S ⟨Same.refl _, fun y o hy => ?_, fun y o hy => ?_, fun _ _ => rfl⟩ (fun y hy => delS_in hy) ⟨p0, l0, e, ne, hS, b1, b2, (upd_ne ne).trans g1, by rw [upd_same]; show _ = some (HO.lst (List.map V.int (a.c ++ [n]))); rw [List.map_append]; rfl⟩)
  · obtain ⟨k1, k2⟩ := delS_some hy
    rw [upd_ne fun z => k1 ((hS y).mpr (.inr z))]
    exact k2
  · rw [upd_ne (ne_of_none hy b2)]
    exact x1.s y o hy
end
end DL

set_option Elab.async false
set_option linter.all false
set_option maxRecDepth 100000
set_option maxHeartbeats 4000000
/-! a law's own layer, thirty-fourth part: tests that change a slot's thing -/
namespace DL
open PySem PySem.Spec PyProof.Rows L2
/-- a test after which the frame is another -/
def EvTM (G : Cn) (tt : TT) (T : List Ty) (b : Bool) (T' : List Ty) : Prop := ∀ B H σ, Fr G B H σ T → ∀ Q : Bool → Hp → Prop, (∀ B' H', Fr G B' H' σ T' → Q b H') → tt σ H Q
section
variable {G : Cn} {T T' : List Ty} {D : Ends} {te ta tb : TE} {t u : TT} {tz tw tu : TS} {a b : Bool}
theorem et_testM (h : EvM G te T rpBool b T') : EvTM G (tTest te) T b T' := fun B H σ f Q q => h B H σ f _ fun v B1 H1 f1 e1 => ⟨b, e1, q B1 H1 f1⟩
theorem et_orM (h1 : EvTM G t T a T') (h2 : a = false → EvT G u T' b) : EvTM G (tOr t u) T (a || b) T' := fun B H σ f Q q => h1 B H σ f _ fun B1 H1 f1 => by
  cases a with
  | true => exact iteT (q B1 H1 f1)
  | false => exact iteF (h2 rfl B1 H1 σ f1 _ fun B2 H2 x2 => q B2 H2 (f1.ext x2))
theorem EvTM.is {b' : Bool} (h : EvTM G t T b T') (e : b = b') : EvTM G t T b' T' := e ▸ h
theorem g_ifM (h : EvTM G t T b T') (h1 : b = true → Goes G T' (tz D)) (h2 : b = false → Goes G T' (tu D)) : Goes G T (tIfS t tz tu D) := fun B H σ f => h B H σ f _ fun B1 H1 f1 => by
  cases b with
  | true => exact iteT (h1 rfl B1 H1 σ f1)
  | false => exact iteF (h2 rfl B1 H1 σ f1)
theorem q_whenM (h : EvTM G t T b T') (h1 : b = true → Goes G T' (tz { D with nx := tu D })) (h2 : b = false → Goes G T' (tu D)) : Goes G T (tSeq (tIfS t tz tNext) tu D) := g_ifM (D := { D with nx := tu D }) h h1 h2
theorem ev_neBM {x y : Bool} (ha : EvM G ta T rpBool x T') (hb : EvD G tb T' rpBool y) : EvM G (tOp rNe ta tb) T rpBool (!decide (x = y)) T' := fun B H σ f Q q => ha B H σ f _ fun v B1 H1 f1 e1 => hb B1 H1 σ f1 _ fun w B2 H2 x2 e2 => by
  rw [show v = V.bl x from e1, show w = V.bl y from e2]
  refine ⟨rfl, q _ B2 H2 (f1.ext x2) ?_⟩
  show V.bl _ = V.bl _
  congr 2
  by_cases h : x = y
  · rw [h, decide_eq_true rfl, decide_eq_true rfl]
  · rw [decide_eq_false h, decide_eq_false fun z => h (V.bl.inj z)]
end
section
variable {G : Cn} {T : List Ty} {te : TE} {α : Type} [Rp α] {w : Ox α} {j : Nat} {u : V} {y : Option A3} {a' : α}
theorem ev_isNM (h : @EvMO G te T α (Option A3) _ w (@rpOpt A3 rpA3) oxOA3 j u y a') : EvM G (tIsN te) T rpBool y.isNone (T.set j (.ow (owV u w) a')) := fun B H σ f Q q => h B H σ f _ fun v B1 H1 S S2 f1 _ _ _ _ hy => by
  have hv : decide (v = V.non) = y.isNone := by
    cases y with
    | none => exact decide_eq_true hy.1
    | some a =>
      obtain ⟨p, l, e, _⟩ := hy
      rw [e]
      rfl
  rw [hv]
  exact q _ B1 H1 f1 rfl
end
section
variable {G : Cn} {T : List Ty} {ta tb : TE} {β ι : Type} {r' : Rp β} {As : ι → List Ty} {pre : ι → Prop} {f : ι → Except Addr β} {E : XK} {tr : TA} {x : ι}
/-- a call with things read as the heap stands; so is its answer -/
theorem ev_callHH {b : β} (ha : EvAH G tr T (As x)) (hp : pre x) (hf : f x = .ok b) : EvH G (tCall (SpX G.K As pre r' f) [] E tr) T r' b := fun B H σ fr Q q => ha B H σ fr _ fun vs B1 H1 x1 ok => by
  rw [List.append_nil]
  exact ⟨H1, x, Same.refl _, hp, ok, fun b' e v B' H' y z => q v B1 H' (x1.trans ⟨Same.refl _, y.h, x1.s.trans y.h, fun _ _ => rfl⟩) (by rw [hf] at e; cases e; exact r'.mono y.s z), fun C e => by rw [hf] at e; cases e⟩
theorem ev_inPH {i : Int} {p : Int × Int} (ha : EvD G ta T rpInt i) (hb : EvH G tb T (@rpPair Int Int rpInt rpInt) p) : EvD G (tOp (rIn G.K false) ta tb) T rpBool (decide (i ∈ [p.1, p.2])) := fun B H σ f Q q =>
  ha B H σ f _ fun v B1 H1 x1 e1 => hb B1 H1 σ (f.ext x1) _ fun u B2 H2 x2 e2 => by
    obtain ⟨a, y, z, rfl, s, h1, h2⟩ := e2
    have ev : v = .int i := e1
    have ey : y = .int p.1 := h1
    have ez : z = .int p.2 := h2
    subst ev ey ez
    exact ⟨a, [.int p.1, .int p.2], rfl, .inr (.inl (.of s)), rfl, flat_ints [p.1, p.2], q _ B2 H2 (x1.trans x2) (by rw [if_neg (by decide), show [V.int p.1, V.int p.2] = [p.1, p.2].map V.int from rfl, inV_int]; rfl)⟩
end
end DL

set_option Elab.async false
set_option linter.all false
set_option maxRecDepth 100000
set_option maxHeartbeats 4000000
/-! a law's own layer, thirty-fifth part: dicts that are walked (locked), results told by what holds of them, tuples of owned things -/
namespace DL
open PySem PySem.Spec PyProof.Rows L2
/-! ### owned things put together -/
@[reducible] def oxIm {α : Type} (r : Rp α) : @Ox α r where
  ox K B H a v S := (∀ q, ¬ S q) ∧ r.rp K B a v
  fr := fun h sb _ => ⟨h.1, r.mono sb h.2⟩
  nb := fun h q hq => absurd hq (h.1 q)
  rd := fun h H' sb _ => r.mono sb h.2
@[reducible] def oxTup {α β : Type} [ra : Rp α] [rb : Rp β] (w1 : Ox α) (w2 : Ox β) : @Ox (α × β) rpPair where
  ox K B H a v S := ∃ (p : Addr) (x y : V) (S1 S2 : Addr → Prop), v = .ref p ∧ (∀ q, S q ↔ (q = p ∨ S1 q ∨ S2 q)) ∧ ¬ S1 p ∧ ¬ S2 p ∧ (∀ q, S1 q → ¬ S2 q) ∧ B p = none ∧ H p = some (.tup [x, y]) ∧ w1.ox K B H a.1 x S1 ∧ w2.ox K B H a.2 y S2
  fr := by
    rintro K B H B' H' a v S ⟨p, x, y, S1, S2, e, hS, n1, n2, dj, hb, hH, o1, o2⟩ sb k
    obtain ⟨k1, k2⟩ := k p ((hS p).mpr (.inl rfl))
    exact ⟨p, x, y, S1, S2, e, hS, n1, n2, dj, k2, k1.trans hH, w1.fr o1 sb fun q hq => k q ((hS q).mpr (.inr (.inl hq))), w2.fr o2 sb fun q hq => k q ((hS q).mpr (.inr (.inr hq)))⟩
  nb := by
    rintro K B H a v S ⟨p, x, y, S1, S2, e, hS, n1, n2, dj, hb, hH, o1, o2⟩ q hq
    rcases (hS q).mp hq with rfl | h | h
    · exact ⟨hb, by rw [hH]; intro z; cases z⟩
    · exact w1.nb o1 q h
    · exact w2.nb o2 q h
  rd := by
    rintro K B H a v S ⟨p, x, y, S1, S2, e, hS, n1, n2, dj, hb, hH, o1, o2⟩ H' sb k
    exact ⟨p, x, y, e, (k p ((hS p).mpr (.inl rfl))).trans hH, w1.rd o1 H' sb fun q hq => k q ((hS q).mpr (.inr (.inl hq))), w2.rd o2 H' sb fun q hq => k q ((hS q).mpr (.inr (.inr hq)))⟩
/-- a dict that a loop walks -/
structure DFz (β : Type) where
  kv : List (Int × β)
instance rpDFz {β : Type} : Rp (DFz β) := ⟨fun _ _ _ _ => True, fun _ _ => trivial⟩
@[reducible] def oxDF {β : Type} [Rp β] (od : Obj) (kvs : List (Key × V)) : Ox (DFz β) where
  ox K B H x v S := ∃ (p : Addr), v = .ref p ∧ (∀ q, S q ↔ q = p) ∧ B p = none ∧ H p = some (.frz od (.dK kvs)) ∧ Paired (rpPr K B) x.kv kvs
  fr := by
    rintro K B H B' H' a v S ⟨p, e, hS, b, h, r⟩ sb k
    obtain ⟨k1, k2⟩ := k p ((hS p).mpr rfl)
    exact ⟨p, e, hS, k2, k1.trans h, Paired.mapP r fun _ _ z => ⟨z.1, Rp.mono sb z.2⟩⟩
  nb := by
    rintro K B H a v S ⟨p, e, hS, b, h, r⟩ q hq
    rw [(hS q).mp hq]
    exact ⟨b, by rw [h]; intro z; cases z⟩
  rd := fun _ _ _ _ => trivial
section
variable {G : Cn} {T : List Ty} {D : Ends} {te ta tb tc td : TE} {tu tz : TS} {α β γ δ : Type} {r : Rp α} {rv : Rp β} {u : V} {j : Nat} {xs : List α}
theorem Fr.lockD {B H : Hp} {σ : L2.St} {a : DI β} (f : Fr G B H σ T) (hj : T[j]? = some (.ow (owV u (@oxDI β rv)) a)) : ∃ p kvs, u = .ref p ∧ σ[j]? = some (some u) ∧ H p = some (.dK kvs) ∧ B p = none ∧ ∀ od, Fr G B (upd H p (.frz od (.dK kvs))) σ (T.set j (.ow (owV u (@oxDF β rv od kvs)) ⟨a.kv⟩)) := by
  obtain ⟨S, e1, ⟨p, kvs, e, hS, b, h, rr⟩, _, k⟩ := f.mutO hj
  refine ⟨p, kvs, e, e1, h, b, fun od => k (DFz β) rpDFz (@oxDF β rv od kvs) ⟨a.kv⟩ B _ S ⟨Same.refl _, fun q o hq => ?_, fun q o hq => ?_, fun _ _ => rfl⟩ (fun q hq => delS_in hq) ⟨p, e, hS, b, upd_same, rr⟩⟩
  · obtain ⟨k1, k2⟩ := delS_some hq
    rw [upd_ne fun z => k1 ((hS q).mpr z)]
    exact k2
  · rw [upd_ne (ne_of_none hq b)]
    exact f.bh q o hq
theorem Fr.unlockD {B H : Hp} {σ : L2.St} {p : Addr} {od : Obj} {kvs : List (Key × V)} {a : DFz β} (f : Fr G B H σ T) (hj : T[j]? = some (.ow (owV (.ref p) (@oxDF β rv od kvs)) a)) : H p = some (.frz od (.dK kvs)) ∧ Fr G B (upd H p (.dK kvs)) σ (T.set j (.ow (owV (.ref p) (@oxDI β rv)) ⟨a.kv⟩)) := by
  obtain ⟨S, e1, ⟨p', e, hS, b, h, rr⟩, _, k⟩ := f.mutO hj
  cases e
  refine ⟨h, k (DI β) rpDI (@oxDI β rv) ⟨a.kv⟩ B _ S ⟨Same.refl _, fun q o hq => ?_, fun q o hq => ?_, fun _ _ => rfl⟩ (fun q hq => delS_in hq) ⟨p, kvs, rfl, hS, b, upd_same, rr⟩⟩
  · obtain ⟨k1, k2⟩ := delS_some hq
    rw [upd_ne fun z => k1 ((hS q).mpr z)]
    exact k2
  · rw [upd_ne (ne_of_none hq b)]
    exact f.bh q o hq
/-- an expression that walks a dict of the frame's own -/
theorem ev_lockN {a : DI β} (hj : T[j]? = some (.ow (owV u (@oxDI β rv)) a)) (h : ∀ od kvs, EvN G te (T.set j (.ow (owV u (@oxDF β rv od kvs)) ⟨a.kv⟩)) r xs) : EvN G (tLockE te) T r xs := fun B H σ f Q q => by
  obtain ⟨p, kvs, e0, e1, hp, hb, k⟩ := f.lockD hj
  refine ⟨p, .dK kvs, hp, trivial, fun od => h od kvs B _ σ (k od) _ fun l vs B' H' x n1 n2 e z => ?_⟩
  have e2 := x.h p _ upd_same
  have hlp : l ≠ p := fun z => by rw [z, upd_same] at n1; cases n1
  have hb' : B' p = none := (x.n p (by rw [upd_same]; intro z; cases z)).trans hb
  refine ⟨e2, q l vs B' (upd H' p (.dK kvs)) ⟨x.b, fun b o hh => ?_, fun b o hh => ?_, fun b hh => ?_⟩ (by rwa [upd_ne hlp] at n1) n2 (by rw [upd_ne hlp]; exact e) z⟩
  · by_cases hbp : b = p
    · subst hbp; rw [upd_same]; exact hp.symm.trans hh
    · rw [upd_ne hbp]; exact x.h b o (by rw [upd_ne hbp]; exact hh)
  · rw [upd_ne (ne_of_none hh hb')]; exact x.s b o hh
  · refine x.n b ?_
    by_cases hbp : b = p
    · subst hbp; rw [upd_same]; intro z; cases z
    · rw [upd_ne hbp]; exact hh
/-- a statement that walks a dict of the frame's own -/
theorem g_lock {a : DI β} (hj : T[j]? = some (.ow (owV u (@oxDI β rv)) a)) (h : ∀ od kvs (D' : Ends), (∀ T2 (a' : DFz β), T2[j]? = some (.ow (owV u (@oxDF β rv od kvs)) a') → Goes G (T2.set j (.ow (owV u (@oxDI β rv)) ⟨a'.kv⟩)) D.nx → Goes G T2 D'.nx) → Goes G (T.set j (.ow (owV u (@oxDF β rv od kvs)) ⟨a.kv⟩)) (tz D')) : Goes G T (tLock tz D) := fun B H σ f => by
  obtain ⟨p, kvs, e0, e1, hp, hb, k⟩ := f.lockD hj
  refine ⟨p, .dK kvs, hp, trivial, fun od => h od kvs _ (fun T2 a' h2 g2 => fun B2 H2 σ2 f2 => ?_) B _ σ (k od)⟩
  subst e0
  obtain ⟨h3, f3⟩ := f2.unlockD h2
  exact ⟨h3, g2 B2 _ σ2 f3⟩
theorem q_lock {a : DI β} (hj : T[j]? = some (.ow (owV u (@oxDI β rv)) a)) (h : ∀ od kvs (D' : Ends), (∀ T2 (a' : DFz β), T2[j]? = some (.ow (owV u (@oxDF β rv od kvs)) a') → Goes G (T2.set j (.ow (owV u (@oxDI β rv)) ⟨a'.kv⟩)) (tu D) → Goes G T2 D'.nx) → Goes G (T.set j (.ow (owV u (@oxDF β rv od kvs)) ⟨a.kv⟩)) (tz D')) : Goes G T (tSeq (tLock tz) tu D) := g_lock (D := { D with nx := tu D }) hj h
/-- an expression that walks a dict that is read alone; a number beside it -/
theorem ev_lockI {i0 : Nat} {a : DI Int} {k : Int} (hj : T[j]? = some (.im (@rpDI Int rpInt) a)) (hi : T[i0]? = some (.im rpInt k)) (hij : i0 ≠ j) (h : ∀ B0 H0 u od kvs, EvN ⟨G.K, B0, H0⟩ te (((List.replicate T.length Ty.any).set j (.ow (owV u (@oxDF Int rpInt od kvs)) ⟨a.kv⟩)).set i0 (.im rpInt k)) r xs) : EvN G (tLockE te) T r xs := fun B H σ f Q q => by
  obtain ⟨v, e1, p, kvs, rfl, hp, pr⟩ := f.get hj
  obtain ⟨w, e2, hw⟩ := f.get hi
  have hw : w = .int k := hw
  subst hw
  have hH := f.bh _ _ hp
  let S : Addr → Prop := fun q => q = p
  have hne : ∀ {q o}, delS B S q = some o → q ≠ p ∧ B q = some o := fun hq => let ⟨a, b⟩ := delS_some hq; ⟨a, b⟩
  have hneH : ∀ {q o}, delS H S q = some o → q ≠ p ∧ H q = some o := fun hq => let ⟨a, b⟩ := delS_some hq; ⟨a, b⟩
  have fr : ∀ od, Fr ⟨G.K, delS B S, delS H S⟩ (delS B S) (upd H p (.frz od (.dK kvs))) σ (((List.replicate T.length Ty.any).set j (.ow (owV (.ref p) (@oxDF Int rpInt od kvs)) ⟨a.kv⟩)).set i0 (.im rpInt k)) := fun od => by
    classical
    refine ⟨fun q o hq => ?_, Same.refl _, fun q o hq => ?_, fun _ _ => rfl, by rw [List.length_set, List.length_set, List.length_replicate]; exact f.len, fun q => if q = p then some j else none, fun q i e => ?_, fun i t e => ?_⟩
    · obtain ⟨a1, a2⟩ := hne hq
      rw [upd_ne a1]
      exact f.bh _ _ a2
    · obtain ⟨a1, a2⟩ := hneH hq
      rw [upd_ne a1]
      exact a2
    · dsimp only at e
      split at e
      · rename_i hq; exact delS_in hq
      · cases e
    · by_cases h1 : i0 = i
      · subst h1
        have hl : i0 < ((List.replicate T.length Ty.any).set j (.ow (owV (.ref p) (@oxDF Int rpInt od kvs)) ⟨a.kv⟩)).length := by
          have := (List.getElem?_eq_some_iff.mp e).1
          rwa [List.length_set] at this
        rw [List.getElem?_set_self hl] at e
        cases e
        exact ⟨_, e2, _, rfl, rfl⟩
      · rw [List.getElem?_set_ne h1] at e
        by_cases h2 : j = i
        · subst h2
          have hl : j < (List.replicate T.length Ty.any).length := by
            have := (List.getElem?_eq_some_iff.mp e).1
            rwa [List.length_set] at this
          rw [List.getElem?_set_self hl] at e
          cases e
          exact ⟨_, e1, _, rfl, rfl, S, fun q hq => if_pos hq, p, rfl, fun _ => Iff.rfl, delS_in rfl, upd_same, Paired.mapP pr fun _ _ z => z⟩
        · rw [List.getElem?_set_ne h2] at e
          have hl := (List.getElem?_eq_some_iff.mp e).1
          rw [List.length_replicate, ← f.len] at hl
          have ht := List.eq_of_mem_replicate (List.mem_of_getElem? e)
          subst ht
          exact ⟨_, List.getElem?_eq_getElem hl, trivial⟩
  refine ⟨p, .dK kvs, hH, trivial, fun od => h _ _ (.ref p) od kvs _ _ σ (fr od) _ fun l vs B' H' x n1 n2 e z => ?_⟩
  have hlp : l ≠ p := fun z => by rw [z, upd_same] at n1; cases n1
  have hb' : B' p = none := (x.n p (by rw [upd_same]; intro z; cases z)).trans (delS_in rfl)
  have sB : Same B' (upd B' p (.dK kvs)) := fun b o e => by rw [upd_ne (ne_of_none e hb')]; exact e
  refine ⟨x.h p _ upd_same, q l vs (upd B' p (.dK kvs)) (upd H' p (.dK kvs)) ⟨fun b o hh => ?_, fun b o hh => ?_, fun b o hh => ?_, fun b hh => ?_⟩ (by rwa [upd_ne hlp] at n1) (by rw [upd_ne hlp]; exact n2) (by rw [upd_ne hlp]; exact e) (paired_mono sB z)⟩
  · by_cases hbp : b = p
    · subst hbp; rw [upd_same]; exact hp.symm.trans hh
    · rw [upd_ne hbp]; exact x.b b o (by rw [delS_ne (S := S) hbp]; exact hh)
  · by_cases hbp : b = p
    · subst hbp; rw [upd_same]; exact hH.symm.trans hh
    · rw [upd_ne hbp]; exact x.h b o (by rw [upd_ne hbp]; exact hh)
  · by_cases hbp : b = p
    · subst hbp; rw [upd_same] at hh ⊢; exact hh
    · rw [upd_ne hbp] at hh ⊢; exact x.s b o hh
  · by_cases hbp : b = p
    · subst hbp; rw [upd_same]; exact hp.symm
    · rw [upd_ne hbp, x.n b (by rw [upd_ne hbp]; exact hh)]
      exact delS_ne (S := S) hbp
/-! ### what is walked stands in the frame -/
structure ItF (K : PySem.W.Frag) (Kp : List Ty → Prop) {α : Type} (r : Rp α) (J : It) (xs : List α) : Prop where
  go : ∀ (G : Cn) B H σ T i x, G.K = K → Kp T → Fr G B H σ T → xs[i]? = some x → J.go i H
  stop : ∀ (G : Cn) B H σ T, G.K = K → Kp T → Fr G B H σ T → J.stop xs.length H
  yld : ∀ (G : Cn) B H σ T i x v H', G.K = K → Kp T → Fr G B H σ T → xs[i]? = some x → J.yld i H v H' → ∃ B', Ext B H B' H' ∧ r.rp K B' x v
def EvJ (G : Cn) (wi : TI) (T : List Ty) (Kp : List Ty → Prop) {α : Type} (r : Rp α) (xs : List α) : Prop := ∀ B H σ, Fr G B H σ T → ∀ R : It → Hp → Prop, (∀ J, ItF G.K Kp r J xs → R J H) → wi σ H R
/-- slot j holds the walked dict -/
def KpD {β : Type} (rv : Rp β) (j : Nat) (u : V) (od : Obj) (kvs : List (Key × V)) (a : DFz β) : List Ty → Prop := fun T => T[j]? = some (.ow (owV u (@oxDF β rv od kvs)) a)
theorem kpD_get {od : Obj} {kvs : List (Key × V)} {a : DFz β} {B H : Hp} {σ : L2.St} {p : Addr} (f : Fr G B H σ T) (h : KpD rv j (.ref p) od kvs a T) : H p = some (.frz od (.dK kvs)) ∧ Paired (rpPr G.K B) a.kv kvs := by
  obtain ⟨S, e1, p', e, hS, b, hh, rr⟩ := f.getO h
  cases e
  exact ⟨hh, rr⟩
theorem ej_keys {od : Obj} {kvs : List (Key × V)} {a : DFz β} (hj : T[j]? = some (.ow (owV u (@oxDF β rv od kvs)) a)) : EvJ G (iKeys (tVar j)) T (KpD rv j u od kvs a) rpInt (a.kv.map fun p => p.1) := fun B H σ f R q => by
  obtain ⟨S, e1, p, rfl, hS, b, hh, rr⟩ := f.getO hj
  have hl := Paired.length rr
  refine ⟨_, e1, p, od, rfl, .inl ⟨kvs, hh, q _ ⟨fun G' B H σ T i x eK hk f e => ?_, fun G' B H σ T eK hk f => ?_, fun G' B H σ T i x v H' eK hk f e y => ?_⟩⟩⟩
  · have := (List.getElem?_eq_some_iff.mp e).1
    rw [List.length_map] at this
    exact ⟨(kpD_get f hk).1, by omega⟩
  · exact ⟨(kpD_get f hk).1, by rw [List.length_map]; omega⟩
  · obtain ⟨rfl, k, w, hk2, rfl⟩ := y
    obtain ⟨_, rr⟩ := kpD_get f hk
    obtain ⟨x', h1, h2⟩ := paired_get' rr hk2
    rw [List.getElem?_map, h1] at e
    cases e
    exact ⟨B, Ext.refl f.bh, by rw [show k = Sum.inl x'.1 from h2.1]; rfl⟩
theorem ej_vals {od : Obj} {kvs : List (Key × V)} {a : DFz β} (hj : T[j]? = some (.ow (owV u (@oxDF β rv od kvs)) a)) : EvJ G (iVals (tVar j)) T (KpD rv j u od kvs a) rv (a.kv.map fun p => p.2) := fun B H σ f R q => by
  obtain ⟨S, e1, p, rfl, hS, b, hh, rr⟩ := f.getO hj
  have hl := Paired.length rr
  refine ⟨_, e1, p, od, kvs, rfl, hh, q _ ⟨fun G' B H σ T i x eK hk f e => ?_, fun G' B H σ T eK hk f => ?_, fun G' B H σ T i x v H' eK hk f e y => ?_⟩⟩
  · have := (List.getElem?_eq_some_iff.mp e).1
    rw [List.length_map] at this
    exact ⟨(kpD_get f hk).1, by omega⟩
  · exact ⟨(kpD_get f hk).1, by rw [List.length_map]; omega⟩
  · obtain ⟨rfl, k, hk2⟩ := y
    obtain ⟨_, rr⟩ := kpD_get f hk
    obtain ⟨x', h1, h2⟩ := paired_get' rr hk2
    rw [List.getElem?_map, h1] at e
    cases e
    exact ⟨B, Ext.refl f.bh, by rw [← eK]; exact h2.2⟩
theorem ej_items {od : Obj} {kvs : List (Key × V)} {a : DFz β} (hj : T[j]? = some (.ow (owV u (@oxDF β rv od kvs)) a)) : EvJ G (iItems (tVar j)) T (KpD rv j u od kvs a) (@rpPair Int β rpInt rv) a.kv := fun B H σ f R q => by
  obtain ⟨S, e1, p, rfl, hS, b, hh, rr⟩ := f.getO hj
  have hl := Paired.length rr
  refine ⟨_, e1, p, od, kvs, rfl, hh, q _ ⟨fun G' B H σ T i x eK hk f e => ?_, fun G' B H σ T eK hk f => ?_, fun G' B H σ T i x v H' eK hk f e y => ?_⟩⟩
  · have := (List.getElem?_eq_some_iff.mp e).1
    exact ⟨(kpD_get f hk).1, by omega⟩
  · exact ⟨(kpD_get f hk).1, by omega⟩
  · obtain ⟨t, k, w, hk2, rfl, hn, rfl⟩ := y
    obtain ⟨_, rr⟩ := kpD_get f hk
    obtain ⟨x', h1, h2⟩ := paired_get' rr hk2
    rw [h1] at e
    cases e
    have x3 := upd_ext (o := .tup [kV k, w]) f.bh hn
    exact ⟨_, x3, t, _, w, rfl, upd_same, by rw [show k = Sum.inl x.1 from h2.1]; rfl, by rw [← eK]; exact rv.mono x3.b h2.2⟩
/-- [e for .. in d .. if ..] -/
theorem ev_lcF [r2 : Rp δ] {wi : TI} {g : TG} {tt : TT} {vs : List Nat} {Kp : List Ty → Prop} (p : α → Bool) (f : α → δ) (hi : EvJ G wi T Kp r xs) (hK : Kp T) (ho : Own g vs)
    (hs : ∀ x, x ∈ xs → ∃ T2, EvG G g (wipeT T vs) r x T2 ∧ EvT G tt T2 (p x) ∧ (p x = true → EvD G te T2 r2 (f x))) (hz : xs.length ≤ 90000) : EvN G (tLc wi g tt te vs) T r2 ((xs.filter p).map f) := fun B H σ fr Q q => hi B H σ fr _ fun J ok => by
  refine fun Dl nD => ?_
  have nB : B Dl = none := fr.bh.free nD
  have x1' : Ext B H B (upd H Dl (.lst [])) := upd_extN fr.bh nD
  refine ⟨fun i m H' => m = xs.length - i ∧ i ≤ xs.length ∧ ∃ B' ws, Ext B H B' H' ∧ B' Dl = none ∧ H' Dl = some (.lst ws) ∧ Paired (r2.rp G.K B') (((xs.take i).filter p).map f) ws,
    ⟨xs.length, rfl, Nat.zero_le _, B, [], x1', nB, upd_same, by rw [List.take_zero]; exact .nil⟩, ?_⟩
  rintro i m H' ⟨rfl, hle, B', ws, x', nB', hDl, pw⟩
  by_cases hlt : i < xs.length
  · have ex : xs[i]? = some xs[i] := List.getElem?_eq_getElem hlt
    obtain ⟨T2, hg, ht, he⟩ := hs xs[i] (List.getElem_mem hlt)
    have etk : xs.take (i + 1) = xs.take i ++ [xs[i]] := by rw [List.take_add_one, ex] <;> rfl
    refine .inr ⟨ok.go G B' H' σ T i _ rfl hK (fr.ext x') ex, fun H3 => ∃ B3 ws3, Ext B H B3 H3 ∧ B3 Dl = none ∧ H3 Dl = some (.lst ws3) ∧ Paired (r2.rp G.K B3) (((xs.take (i + 1)).filter p).map f) ws3, fun H3 h3 => ⟨xs.length - (i + 1), by omega, rfl, hlt, h3⟩, fun v H2 y => ?_⟩
    obtain ⟨B2, x2, rv⟩ := ok.yld G B' H' σ T i _ v H2 rfl hK (fr.ext x') ex y
    have fr2 : Fr G B2 H2 (L2.wipe σ vs) (wipeT T vs) := ((fr.ext x').ext x2).wipe vs
    refine ho v _ H2 (fun σ2 H4 => H4 = H2 ∧ Fr G B2 H2 σ2 T2) _ (fun σ2 hw hq => ?_) (hg B2 H2 _ v fr2 rv _ fun σ2 f2 => ⟨rfl, f2⟩)
    obtain ⟨_, f2⟩ := hq
    refine ⟨by rw [hw, wipe_wipe], ht B2 H2 σ2 f2 _ fun B5 H5 x5 => ?_⟩
    have hD5 : H5 Dl = some (.lst ws) := x5.h _ _ (x2.h _ _ hDl)
    have x25 := x2.trans x5
    have nB5 : B5 Dl = none := x25.none hDl nB'
    cases hp : p xs[i] with
    | true =>
      refine iteT (he hp B5 H5 σ2 (f2.ext x5) _ fun w B6 H6 x6 rw6 => ?_)
      have x26 := x25.trans x6
      have nB6 : B6 Dl = none := x26.none hDl nB'
      have hl : ws.length < 100000 := by
        rw [← Paired.length pw, List.length_map]
        have h1 := List.length_filter_le p (xs.take i)
        have h2 := List.length_take_le i xs
        omega
      refine ⟨ws, x6.h _ _ hD5, sz_lt hl, B6, ws ++ [w], ⟨(x'.trans x26).b, fun b o e => ?_, fun b o e => ?_, (x'.trans x26).n⟩, nB6, upd_same, ?_⟩
      · rw [upd_ne (ne_of_none e nD)]; exact (x'.trans x26).h b o e
      · rw [upd_ne (ne_of_none e nB6)]; exact x26.s b o e
      · rw [etk, List.filter_append, List.map_append]
        refine paired_append (paired_mono x26.b pw) ?_
        rw [show [xs[i]].filter p = [xs[i]] by rw [List.filter_cons, if_pos hp] <;> rfl]
        exact .cons rw6 .nil
    | false =>
      refine iteF ⟨B5, ws, x'.trans x25, nB5, hD5, ?_⟩
      rw [etk, List.filter_append, List.map_append, show [xs[i]].filter p = [] by rw [List.filter_cons, if_neg (by rw [hp]; decide)] <;> rfl]
      show Paired _ (_ ++ []) _
      rw [List.append_nil]
      exact paired_mono x25.b pw
  · have e : i = xs.length := by omega
    subst e
    rw [List.take_length] at pw
    exact .inl ⟨ok.stop G B' H' σ T rfl hK (fr.ext x'), q Dl ws B' H' x' nD nB' hDl pw⟩
theorem ev_lcFA [r2 : Rp δ] {wi : TI} {g : TG} {vs : List Nat} {Kp : List Ty → Prop} (f : α → δ) (hi : EvJ G wi T Kp r xs) (hK : Kp T) (ho : Own g vs)
    (hs : ∀ x, x ∈ xs → ∃ T2, EvG G g (wipeT T vs) r x T2 ∧ EvD G te T2 r2 (f x)) (hz : xs.length ≤ 90000) : EvN G (tLc wi g tYes te vs) T r2 (xs.map f) := by
  have h := ev_lcF (G := G) (T := T) (te := te) (fun _ => true) f hi hK ho (fun x hx => let ⟨T2, a, b⟩ := hs x hx; ⟨T2, a, et_yes, fun _ => b⟩) hz
  have e : xs.filter (fun _ => true) = xs := List.filter_eq_self.mpr fun _ _ => rfl
  rw [e] at h
  exact h
theorem g_forF {wi : TI} {g : TG} {Kp : List Ty → Prop} (I : Nat → List Ty → Prop) (hi : EvJ G wi T Kp r xs) (hk : ∀ i T', I i T' → Kp T') (h0 : I 0 T)
    (hs : ∀ i x T', xs[i]? = some x → I i T' → ∃ T2, EvG G g T' r x T2 ∧ Goes G T2 (tz { D with nx := At G (I (i + 1)), ct := At G (I (i + 1)), bk := D.nx }))
    (hd : ∀ T', I xs.length T' → Goes G T' D.nx) : Goes G T (tFor wi g tz D) := fun B H σ f => hi B H σ f _ fun J ok => by
  refine ⟨fun i m σ H => m = xs.length - i ∧ i ≤ xs.length ∧ ∃ T' B, I i T' ∧ Fr G B H σ T', ⟨xs.length, rfl, Nat.zero_le _, T, B, h0, f⟩, ?_⟩
  rintro i m σ' H' ⟨rfl, hle, T', B', hI, f'⟩
  by_cases hlt : i < xs.length
  · have ex : xs[i]? = some xs[i] := List.getElem?_eq_getElem hlt
    obtain ⟨T2, hg, hb⟩ := hs i _ T' ex hI
    refine .inr ⟨ok.go G B' H' σ' T' i _ rfl (hk i T' hI) f' ex, At G (I (i + 1)), fun σ2 H2 ⟨T3, B3, h3, f3⟩ => ⟨xs.length - (i + 1), by omega, rfl, hlt, T3, B3, h3, f3⟩, fun v H2 y => ?_⟩
    obtain ⟨B2, x2, rv⟩ := ok.yld G B' H' σ' T' i _ v H2 rfl (hk i T' hI) f' ex y
    exact hg B2 H2 σ' v (f'.ext x2) rv _ fun σ3 f3 => hb B2 H2 σ3 f3
  · have e : i = xs.length := by omega
    subst e
    exact .inl ⟨ok.stop G B' H' σ' T' rfl (hk _ T' hI) f', hd T' hI B' H' σ' f'⟩
end
end DL

set_option Elab.async false
set_option linter.all false
set_option maxRecDepth 100000
set_option maxHeartbeats 4000000
/-! a law's own layer, thirty-sixth part: defs whose answer is told by what holds of it; things lent to a call -/
namespace DL
open PySem PySem.Spec PyProof.Rows L2
/-- what does not rest on a dict -/
class NdR {α : Type} (r : Rp α) : Prop where
  nd : ∀ {K : PySem.W.Frag} {B : Hp} {a : α} {v : V} {S : Addr → Prop}, (∀ q, S q → ∃ kvs, B q = some (.dK kvs)) → r.rp K B a v → r.rp K (delS B S) a v
theorem nd_ne {B : Hp} {S : Addr → Prop} {q : Addr} {o : HO} (h : ∀ q, S q → ∃ kvs, B q = some (.dK kvs)) (e : B q = some o) (n : ∀ kvs, o ≠ .dK kvs) : delS B S q = some o := by
  rw [delS_ne fun z => ?_]
  · exact e
  · obtain ⟨kvs, e2⟩ := h q z
    rw [e] at e2
    exact n kvs (Option.some.inj e2)
instance : NdR rpInt := ⟨fun _ z => z⟩
instance : NdR rpBool := ⟨fun _ z => z⟩
instance : NdR rpStr := ⟨fun _ z => z⟩
instance : NdR rpUnit := ⟨fun _ z => z⟩
theorem nd_paired {α : Type} {r : Rp α} [NdR r] {K : PySem.W.Frag} {B : Hp} {S : Addr → Prop} {xs : List α} {vs : List V} (h : ∀ q, S q → ∃ kvs, B q = some (.dK kvs)) (z : Paired (r.rp K B) xs vs) : Paired (r.rp K (delS B S)) xs vs := Paired.mapP z fun _ _ y => NdR.nd h y
instance ndList {α : Type} {r : Rp α} [NdR r] : NdR (@rpList α r) := ⟨fun h ⟨p, vs, e, hp, z⟩ => ⟨p, vs, e, nd_ne h hp (fun _ w => by cases w), nd_paired h z⟩⟩
instance ndPair {α β : Type} {r : Rp α} {r' : Rp β} [NdR r] [NdR r'] : NdR (@rpPair α β r r') := ⟨fun h ⟨p, x, y, e, hp, z1, z2⟩ => ⟨p, x, y, e, nd_ne h hp (fun _ w => by cases w), NdR.nd h z1, NdR.nd h z2⟩⟩
instance ndOpt {α : Type} {r : Rp α} [NdR r] : NdR (@rpOpt α r) := ⟨fun {K B a v S} h z => by
  cases a with
  | none => exact z
  | some a => exact NdR.nd (r := r) h z⟩
class NdO {α : Type} [Rp α] (w : Ox α) : Prop where
  nd : ∀ {K : PySem.W.Frag} {B H : Hp} {a : α} {v : V} {S S0 : Addr → Prop}, (∀ q, S0 q → ∃ kvs, B q = some (.dK kvs)) → w.ox K B H a v S → w.ox K (delS B S0) H a v S
theorem del_none {B : Hp} {S : Addr → Prop} {p : Addr} (h : B p = none) : delS B S p = none := by
  by_cases hp : S p
  · exact delS_in hp
  · rw [delS_ne hp]; exact h
instance ndIm {α : Type} {r : Rp α} [NdR r] : NdO (oxIm r) := ⟨fun h z => ⟨z.1, NdR.nd h z.2⟩⟩
instance ndDI {β : Type} {rv : Rp β} [NdR rv] : NdO (@oxDI β rv) := ⟨fun h ⟨p, kvs, e, hS, b, hh, z⟩ => ⟨p, kvs, e, hS, del_none b, hh, Paired.mapP z fun _ _ y => ⟨y.1, NdR.nd h y.2⟩⟩⟩
instance ndTup {α β : Type} [ra : Rp α] [rb : Rp β] {w1 : Ox α} {w2 : Ox β} [NdO w1] [NdO w2] : NdO (oxTup w1 w2) := ⟨fun h ⟨p, x, y, S1, S2, e, hS, n1, n2, dj, hb, hH, o1, o2⟩ => ⟨p, x, y, S1, S2, e, hS, n1, n2, dj, del_none hb, hH, NdO.nd h o1, NdO.nd h o2⟩⟩
/-- a def whose answer is new, told by what holds of it -/
def SpJ (K : PySem.W.Frag) {ι α : Type} [Rp α] (As : ι → List Ty) (pre : ι → Prop) (w : Ox α) (Post : ι → α → Prop) : Sp := fun vs H Q E => ∃ (B : Hp) (x : ι), Same B H ∧ pre x ∧ ArgsOk K B vs (As x) ∧
  ∀ a, Post x a → ∀ u B' H' S, Ext B H B' H' → (∀ q, S q → H q = none) → w.ox K B' H' a u S → Q u H'
def EvOJ (G : Cn) (te : TE) (T : List Ty) {α : Type} [Rp α] (w : Ox α) (Post : α → Prop) : Prop := ∀ B H σ, Fr G B H σ T → ∀ Q : VK, (∀ a u B' H' S, Post a → Ext B H B' H' → (∀ q, S q → H q = none) → w.ox G.K B' H' a u S → Q u H') → te σ H Q
section
variable {G : Cn} {T : List Ty} {D : Ends} {te ta tb tc td : TE} {tu tz : TS} {α β γ δ : Type}
section
variable {ι : Type} {As : ι → List Ty} {pre : ι → Prop} [ra : Rp α] {w : Ox α} {Post : ι → α → Prop} {E : XK} {tr : TA} {x : ι}
theorem ev_callJ (ha : EvA G tr T (As x)) (hp : pre x) : EvOJ G (tCall (SpJ G.K As pre w Post) [] E tr) T w (Post x) := fun B H σ fr Q q => ha B H σ fr _ fun vs B1 H1 x1 ok => by
  rw [List.append_nil]
  exact ⟨B1, x, x1.s, hp, ok, fun b pb u B' H' S y hS ho => q b u B' H' S pb (x1.trans y) (fun p hp => x1.h.free (hS p hp)) ho⟩
variable {P : Program} {wd : World} {K : PySem.W.Frag} {mg : Str → Option Value} {base : Heap} {nm qual : Str} {st : Stmt} {fa : Addr} {fd : FuncData} {N ps : List Str} {k : Nat}
theorem def_okJ (F : Fun K nm qual st fa fd) (S : FnScope N ps (defScope st)) (len : ∀ x, (As x).length = ps.length)
    (hbody : ∀ (cdv : Value) (A : Around) (outer : List Env) (s : Shared) (H : Hp) (E : XK), Room k (A.deeper (envOfC qual (defScope st) s.heap.objs.size fa cdv)) →
      ∃ t, PSs (cxOf (L2.CX P wd) P wd K mg base N qual (defScope st) fa cdv A outer s H E) (defBody st) t ∧ ∀ (B : Hp) (x : ι) (Q : VK), pre x → (∀ b, Post x b → RetO ⟨K, B, H⟩ Q w b) →
        Goes ⟨K, B, H⟩ (As x ++ List.replicate (N.length - (As x).length) .un) (t { nx := fun _ H' => Q .non H', rt := Q })) :
    FnOk P wd K mg base (L2.CX P wd) (k + 1) fa fd ps (SpJ K As pre w Post) := by
  refine F.okX S (fun vs H Q E h => ?_) (fun cdv A outer s H vs Q E hr h => ?_)
  · obtain ⟨B, x, _, _, ok, _⟩ := h
    exact (args_len ok).trans (len x)
  · obtain ⟨B, x, sB, hp, ok, h1⟩ := h
    obtain ⟨t, ht, hg⟩ := hbody cdv A outer s H E hr
    exact ⟨t, ht, hg B x Q hp (fun b pb u B' H' S y hS ho => h1 b pb u B' H' S y hS ho) B H _ (Fr.entry sB ok)⟩
/-! a dict of the frame's own lent to a call -/
variable {rv : Rp β} {a0 : DI β} {u0 : V} {j : Nat}
def EvAL (G : Cn) {β : Type} (rv : Rp β) (a : DI β) (u : V) (ta : TA) (T : List Ty) (As : List Ty) : Prop := ∀ B H σ, Fr G B H σ T → ∀ Q : List V → Hp → Prop, (∀ vs B' H', Ext B H B' H' → (∀ S, (@oxDI β rv).ox G.K B' H' a u S → ArgsOk G.K (glue S H' B') vs As) → Q vs H') → ta σ H Q
theorem eal_nil : EvAL G rv a0 u0 tNil T [] := fun B H σ f Q q => q [] B H (Ext.refl f.bh) fun _ _ => trivial
theorem eal_im {r : Rp α} {y : α} {As : List Ty} (h : EvD G te T r y) (hr : EvAL G rv a0 u0 tr T As) : EvAL G rv a0 u0 (tCons te tr) T (.im r y :: As) := fun B H σ f Q q =>
  h B H σ f _ fun v B1 H1 x1 e1 => hr B1 H1 σ (f.ext x1) _ fun vs B2 H2 x2 e2 => q _ B2 H2 (x1.trans x2) fun S ho => ⟨r.mono (x2.b.trans (glue_up fun q hq => ((@oxDI β rv).nb ho q hq).1)) e1, e2 S ho⟩
theorem eal_var {As : List Ty} (hj : T[j]? = some (.ow (owV u0 (@oxDI β rv)) a0)) (hr : EvAL G rv a0 u0 tr T As) : EvAL G rv a0 u0 (tCons (tVar j) tr) T (.im (@rpDI β rv) a0 :: As) := fun B H σ f Q q => by
  obtain ⟨S0, e1, _⟩ := f.getO hj
  exact ⟨u0, e1, hr B H σ f _ fun vs B2 H2 x2 e2 => q _ B2 H2 x2 fun S ho => ⟨(@oxDI β rv).rd ho _ (glue_up fun q hq => ((@oxDI β rv).nb ho q hq).1) fun q hq => glue_in hq, e2 S ho⟩⟩
theorem ev_callJL [NdO w] (hj : T[j]? = some (.ow (owV u0 (@oxDI β rv)) a0)) (ha : EvAL G rv a0 u0 tr T (As x)) (hp : pre x) : EvOJ G (tCall (SpJ G.K As pre w Post) [] E tr) T w (Post x) := fun B H σ fr Q q => ha B H σ fr _ fun vs B1 H1 x1 ok => by
  rw [List.append_nil]
  obtain ⟨S, _, ho⟩ := (fr.ext x1).getO hj
  have hn : ∀ q, S q → B1 q = none := fun q hq => ((@oxDI β rv).nb ho q hq).1
  refine ⟨glue S H1 B1, x, glue_le x1.s, hp, ok S ho, fun b pb u B' H' S' y hS ho' => q b u (delS B' S) H' S' pb (x1.trans ⟨fun q o e => ?_, y.h, fun q o e => ?_, fun q hq => ?_⟩) (fun p hp => x1.h.free (hS p hp)) (NdO.nd (fun q hq => ?_) ho')⟩
  · have ns : ¬ S q := fun z => by rw [hn q z] at e; cases e
    rw [delS_ne ns]
    exact y.b q o (by rw [glue_ne ns]; exact e)
  · exact y.s q o (delS_some e).2
  · by_cases z : S q
    · rw [delS_in z, hn q z]
    · rw [delS_ne z, y.n q hq, glue_ne z]
  · obtain ⟨p, kvs, _, hS1, _, hh, _⟩ := ho
    have := (hS1 q).mp hq
    subst this
    exact ⟨kvs, y.b _ _ (by rw [glue_in hq]; exact hh)⟩
end
section
variable [ra : Rp α] [rb : Rp β] {w : Ox α} {w2 : Ox β} {Post : α → Prop} {i j : Nat} {u u2 : V} {a : α} {b : β}
theorem EvOJ.imp {Post' : α → Prop} (h : EvOJ G te T w Post) (e : ∀ a, Post a → Post' a) : EvOJ G te T w Post' := fun B H σ f Q q => h B H σ f Q fun a u B' H' S pa => q a u B' H' S (e a pa)
theorem EvD.toJ (h : EvD G te T ra a) : EvOJ G te T (oxIm ra) (· = a) := fun B H σ f Q q => h B H σ f Q fun v B' H' x e => q a v B' H' (fun _ => False) rfl x (fun _ z => z.elim) ⟨fun _ z => z, e⟩
theorem EvO.toJ (h : EvO G te T w a) : EvOJ G te T w (· = a) := fun B H σ f Q q => h B H σ f Q fun v B' H' S x hS e => q a v B' H' S rfl x hS e
/-- the same thing told otherwise -/
theorem EvOJ.as {Q' : β → Prop} (h : EvOJ G te T (oxIm ra) Post) (e : ∀ a, Post a → ∃ b, Q' b ∧ ∀ {K : PySem.W.Frag} {B : Hp} {v : V}, ra.rp K B a v → rb.rp K B b v) : EvOJ G te T (oxIm rb) Q' := fun B H σ f Q q => h B H σ f Q fun a v B' H' S pa x hS z => by
  obtain ⟨b, qb, eb⟩ := e a pa
  exact q b v B' H' S qb x hS ⟨z.1, eb z.2⟩
theorem g_asgJ {i : Nat} (h : EvOJ G te T w Post) (q : ∀ a u, Post a → Goes G (T.set i (.ow (owV u w) a)) D.nx) : Goes G T (tAsg te (gName i) D) := fun B H σ f => h B H σ f _ fun a u B' H' S pa x hS ho => q a u pa B' H' _ (f.newO i x hS ho)
theorem q_asgJ {i : Nat} (h : EvOJ G te T w Post) (q : ∀ a u, Post a → Goes G (T.set i (.ow (owV u w) a)) (tu D)) : Goes G T (tSeq (tAsg te (gName i)) tu D) := g_asgJ (D := { D with nx := tu D }) h q
/-- let stand -/
theorem g_asgJI {i : Nat} (h : EvOJ G te T w Post) (q : ∀ a, Post a → Goes G (T.set i (.im ra a)) D.nx) : Goes G T (tAsg te (gName i) D) := fun B H σ f => h B H σ f _ fun a u B' H' S pa x hS ho => by
  obtain ⟨y, z⟩ := ext_glue x hS ho
  exact q a pa _ H' _ ((f.ext y).set_im i ra z)
theorem q_asgJI {i : Nat} (h : EvOJ G te T w Post) (q : ∀ a, Post a → Goes G (T.set i (.im ra a)) (tu D)) : Goes G T (tSeq (tAsg te (gName i)) tu D) := g_asgJI (D := { D with nx := tu D }) h q
theorem g_retJ (h : EvOJ G te T w Post) (q : ∀ a, Post a → RetO G D.rt w a) : Goes G T (tRet te D) := fun B H σ f => h B H σ f _ fun a u B' H' S pa x hS ho => q a pa u B' H' S (f.ext x).ext0 (fun p hp => f.h0.free (hS p hp)) ho
/-- (e, x), x the frame's own -/
theorem g_retJO (h : EvOJ G ta T w Post) (hj : T[j]? = some (.ow (owV u w2) b)) (q : ∀ a, Post a → RetO G D.rt (oxTup w w2) (a, b)) : Goes G T (tRet (tTup (tCons ta (tCons (tVar j) tNil))) D) := fun B H σ f => by
  obtain ⟨own, o0, sl⟩ := f.sl
  obtain ⟨s, e2, u', rfl, rfl, S2, hS2, ho2⟩ := sl j _ hj
  refine h B H σ f _ fun a v B1 H1 S1 pa x1 hS1 ho1 => ⟨_, e2, ?_⟩
  have ho3 : w2.ox G.K B1 H1 b u' S2 := w2.fr ho2 x1.b fun q hq => by
    obtain ⟨n1, n2⟩ := w2.nb ho2 q hq
    refine ⟨?_, (x1.n q n2).trans n1⟩
    cases hH : H q with
    | none => exact absurd hH n2
    | some o => exact x1.h q o hH
  refine ⟨by show 2 ≤ sizeLine; decide, fun p hp => ?_⟩
  have x3 := upd_extN (o := .tup [v, u']) x1.s hp
  have m1 : ¬ S1 p := fun z => (w.nb ho1 p z).2 hp
  have m2 : ¬ S2 p := fun z => (w2.nb ho3 p z).2 hp
  refine q a pa (.ref p) B1 _ (fun q => q = p ∨ S1 q ∨ S2 q) ((f.ext x1).ext x3).ext0 (fun q hq => ?_) ⟨p, v, u', S1, S2, rfl, fun _ => Iff.rfl, m1, m2, fun q h1 h2 => (w2.nb ho2 q h2).2 (hS1 q h1), x1.s.free hp, upd_same, w.fr ho1 (Same.refl _) fun q hq => ⟨upd_ne fun z => m1 (by rw [← z]; exact hq), (w.nb ho1 q hq).1⟩, w2.fr ho3 (Same.refl _) fun q hq => ⟨upd_ne fun z => m2 (by rw [← z]; exact hq), (w2.nb ho3 q hq).1⟩⟩
  rcases hq with rfl | hq | hq
  · exact (f.h0.trans x1.h).free hp
  · exact f.h0.free (hS1 q hq)
  · exact o0 q j (hS2 q hq)
/-- (x, e), x the frame's own -/
theorem g_retOJ (hi : T[i]? = some (.ow (owV u w) a)) (h : EvD G tb T rb b) (q : RetO G D.rt (oxTup w (oxIm rb)) (a, b)) : Goes G T (tRet (tTup (tCons (tVar i) (tCons tb tNil))) D) := fun B H σ f => by
  obtain ⟨own, o0, sl⟩ := f.sl
  obtain ⟨s, e2, u', rfl, rfl, S2, hS2, ho2⟩ := sl i _ hi
  refine ⟨_, e2, h B H σ f _ fun v B1 H1 x1 e1 => ?_⟩
  have ho3 : w.ox G.K B1 H1 a u' S2 := w.fr ho2 x1.b fun q hq => by
    obtain ⟨n1, n2⟩ := w.nb ho2 q hq
    refine ⟨?_, (x1.n q n2).trans n1⟩
    cases hH : H q with
    | none => exact absurd hH n2
    | some o => exact x1.h q o hH
  refine ⟨by show 2 ≤ sizeLine; decide, fun p hp => ?_⟩
  have x3 := upd_extN (o := .tup [u', v]) x1.s hp
  have m2 : ¬ S2 p := fun z => (w.nb ho3 p z).2 hp
  refine q (.ref p) B1 _ (fun q => q = p ∨ S2 q ∨ False) ((f.ext x1).ext x3).ext0 (fun q hq => ?_) ⟨p, u', v, S2, fun _ => False, rfl, fun _ => Iff.rfl, m2, fun z => z, fun q _ z => z, x1.s.free hp, upd_same, w.fr ho3 (Same.refl _) fun q hq => ⟨upd_ne fun z => m2 (by rw [← z]; exact hq), (w.nb ho3 q hq).1⟩, fun _ z => z, e1⟩
  rcases hq with rfl | hq | hq
  · exact (f.h0.trans x1.h).free hp
  · exact o0 q i (hS2 q hq)
  · exact hq.elim
/-- (x, y), both the frame's own -/
theorem g_retOO (hi : T[i]? = some (.ow (owV u w) a)) (hj : T[j]? = some (.ow (owV u2 w2) b)) (hij : i ≠ j) (q : RetO G D.rt (oxTup w w2) (a, b)) : Goes G T (tRet (tTup (tCons (tVar i) (tCons (tVar j) tNil))) D) := fun B H σ f => by
  obtain ⟨own, o0, sl⟩ := f.sl
  obtain ⟨s, e1, v1, rfl, rfl, S1, hS1, ho1⟩ := sl i _ hi
  obtain ⟨s, e2, v2, rfl, rfl, S2, hS2, ho2⟩ := sl j _ hj
  refine ⟨_, e1, _, e2, ?_⟩
  refine ⟨by show 2 ≤ sizeLine; decide, fun p hp => ?_⟩
  have x3 := upd_extN (o := .tup [v1, v2]) f.bh hp
  have m1 : ¬ S1 p := fun z => (w.nb ho1 p z).2 hp
  have m2 : ¬ S2 p := fun z => (w2.nb ho2 p z).2 hp
  refine q (.ref p) B _ (fun q => q = p ∨ S1 q ∨ S2 q) (f.ext x3).ext0 (fun q hq => ?_) ⟨p, _, _, S1, S2, rfl, fun _ => Iff.rfl, m1, m2, fun q h1 h2 => hij (Option.some.inj ((hS1 q h1).symm.trans (hS2 q h2))), f.bh.free hp, upd_same, w.fr ho1 (Same.refl _) fun q hq => ⟨upd_ne fun z => m1 (by rw [← z]; exact hq), (w.nb ho1 q hq).1⟩, w2.fr ho2 (Same.refl _) fun q hq => ⟨upd_ne fun z => m2 (by rw [← z]; exact hq), (w2.nb ho2 q hq).1⟩⟩
  rcases hq with rfl | hq | hq
  · exact f.h0.free hp
  · exact o0 q i (hS1 q hq)
  · exact o0 q j (hS2 q hq)
end
section
variable [ra : Rp α] [rb : Rp β] {w : Ox α} {w2 : Ox β} {Post : α × β → Prop} {i j : Nat}
/-- x, y = e: the first let stand, the second one's own -/
theorem g_asgIO (h : EvOJ G te T (oxTup w w2) Post) (hij : i ≠ j) (q : ∀ a u, Post a → Goes G ((T.set i (.im ra a.1)).set j (.ow (owV u w2) a.2)) D.nx) : Goes G T (tAsg te (gTup G.K 2 (gCons (gName i) (gCons (gName j) gNil))) D) := fun B H σ f => h B H σ f _ fun a v B1 H1 S pa x1 hS ho => by
  obtain ⟨p, x, y, S1, S2, rfl, hS', n1, n2, dj, hb, hH, o1, o2⟩ := ho
  refine ⟨p, [x, y], rfl, .inl (.inl hH), rfl, x, [y], rfl, y, [], rfl, rfl, ?_⟩
  obtain ⟨x2, e1⟩ := ext_glue (S := S1) x1 (fun q hq => hS q ((hS' q).mpr (.inr (.inl hq)))) o1
  have o3 : w2.ox G.K (glue S1 H1 B1) H1 a.2 y S2 := w2.fr o2 (glue_up fun q hq => (w.nb o1 q hq).1) fun q hq => ⟨rfl, by rw [glue_ne fun z => dj q z hq]; exact (w2.nb o2 q hq).1⟩
  have f2 := (f.newO j x2 (fun q hq => hS q ((hS' q).mpr (.inr (.inr hq)))) o3).set_im i ra e1
  rw [List.set_comm _ _ (Ne.symm hij), List.set_comm _ _ (Ne.symm hij)] at f2
  exact q a y pa _ H1 _ f2
theorem q_asgIO (h : EvOJ G te T (oxTup w w2) Post) (hij : i ≠ j) (q : ∀ a u, Post a → Goes G ((T.set i (.im ra a.1)).set j (.ow (owV u w2) a.2)) (tu D)) : Goes G T (tSeq (tAsg te (gTup G.K 2 (gCons (gName i) (gCons (gName j) gNil)))) tu D) := g_asgIO (D := { D with nx := tu D }) h hij q
theorem g_asgOI (h : EvOJ G te T (oxTup w w2) Post) (hij : i ≠ j) (q : ∀ a u, Post a → Goes G ((T.set i (.ow (owV u w) a.1)).set j (.im rb a.2)) D.nx) : Goes G T (tAsg te (gTup G.K 2 (gCons (gName i) (gCons (gName j) gNil))) D) := fun B H σ f => h B H σ f _ fun a v B1 H1 S pa x1 hS ho => by
  obtain ⟨p, x, y, S1, S2, rfl, hS', n1, n2, dj, hb, hH, o1, o2⟩ := ho
  refine ⟨p, [x, y], rfl, .inl (.inl hH), rfl, x, [y], rfl, y, [], rfl, rfl, ?_⟩
  obtain ⟨x2, e1⟩ := ext_glue (S := S2) x1 (fun q hq => hS q ((hS' q).mpr (.inr (.inr hq)))) o2
  have o3 : w.ox G.K (glue S2 H1 B1) H1 a.1 x S1 := w.fr o1 (glue_up fun q hq => (w2.nb o2 q hq).1) fun q hq => ⟨rfl, by rw [glue_ne fun z => dj q hq z]; exact (w.nb o1 q hq).1⟩
  have f2 := (f.newO i x2 (fun q hq => hS q ((hS' q).mpr (.inr (.inl hq)))) o3).set_im j rb e1
  exact q a x pa _ H1 _ f2
theorem q_asgOI (h : EvOJ G te T (oxTup w w2) Post) (hij : i ≠ j) (q : ∀ a u, Post a → Goes G ((T.set i (.ow (owV u w) a.1)).set j (.im rb a.2)) (tu D)) : Goes G T (tSeq (tAsg te (gTup G.K 2 (gCons (gName i) (gCons (gName j) gNil)))) tu D) := g_asgOI (D := { D with nx := tu D }) h hij q
/-- e[0], e[1] -/
theorem ej_fst (h : EvOJ G te T (oxTup w w2) Post) : EvOJ G (tOp (rIxT G.K) te (tC (.int 0))) T (oxIm ra) (fun b => ∃ a, Post a ∧ b = a.1) := fun B H σ f Q q => h B H σ f _ fun a v B1 H1 S pa x1 hS ho => by
  obtain ⟨p, x, y, S1, S2, rfl, hS', n1, n2, dj, hb, hH, o1, o2⟩ := ho
  obtain ⟨x2, e1⟩ := ext_glue (S := S1) x1 (fun q hq => hS q ((hS' q).mpr (.inr (.inl hq)))) o1
  exact ⟨p, _, 0, x, rfl, rfl, .inl (.inl hH), rfl, q a.1 x _ H1 (fun _ => False) ⟨a, pa, rfl⟩ x2 (fun _ z => z.elim) ⟨fun _ z => z, e1⟩⟩
theorem ej_sndI {Post : α × β → Prop} (h : EvOJ G te T (oxIm (@rpPair α β ra rb)) Post) : EvOJ G (tOp (rIxT G.K) te (tC (.int 1))) T (oxIm rb) (fun b => ∃ a, Post a ∧ b = a.2) := fun B H σ f Q q => h B H σ f _ fun a v B1 H1 S pa x1 hS ho => by
  obtain ⟨hn, p, x, y, rfl, hp, h1, h2⟩ := ho
  exact ⟨p, _, 1, y, rfl, rfl, .inl (.inl (x1.s _ _ hp)), rfl, q a.2 y _ H1 (fun _ => False) ⟨a, pa, rfl⟩ x1 (fun _ z => z.elim) ⟨fun _ z => z, h2⟩⟩
/-- sorted(d) -/
theorem ej_sorted {Post : DI β → Prop} (h : EvOJ G te T (oxIm (@rpDI β rb)) Post) (hl : ∀ d, Post d → d.kv.length < 64) : EvOJ G (tCB rSortedDI (tCons te tNil)) T (oxIm (@rpList Int rpInt)) (fun ys => ∃ d, Post d ∧ ys = isort (d.kv.map fun p => p.1)) := fun B H σ f Q q => h B H σ f _ fun d v B1 H1 S pd x1 hS ho => by
  obtain ⟨hn, p, kvs, rfl, hp, z⟩ := ho
  refine ⟨p, kvs, d.kv.map fun p => p.1, rfl, .inl (x1.s _ _ hp), by rw [pr_keys z, List.map_map]; rfl, by rw [List.length_map]; exact hl d pd, fun ns l h1 h2 hl => ?_⟩
  have e2 := isort_is h1 h2
  subst e2
  have x2 := upd_ext (o := .lst ((isort (d.kv.map fun p => p.1)).map V.int)) x1.s hl
  exact q _ _ _ _ (fun _ => False) ⟨d, pd, rfl⟩ (x1.trans x2) (fun _ z => z.elim) ⟨fun _ z => z, l, _, rfl, upd_same, of_ints⟩
/-- (e, f) -/
theorem ej_pair {a : α} {Post : β → Prop} (ha : EvD G ta T ra a) (hb : EvOJ G tb T (oxIm rb) Post) : EvOJ G (tTup (tCons ta (tCons tb tNil))) T (oxIm (@rpPair α β ra rb)) (fun p => p.1 = a ∧ Post p.2) := fun B H σ f Q q =>
  ha B H σ f _ fun v B1 H1 x1 e1 => hb B1 H1 σ (f.ext x1) _ fun b u B2 H2 S pb x2 hS e2 => ⟨by show 2 ≤ sizeLine; decide, fun p hp => by
    have x3 := upd_ext (o := .tup [v, u]) x2.s hp
    exact q (a, b) _ _ _ (fun _ => False) ⟨rfl, pb⟩ ((x1.trans x2).trans x3) (fun _ z => z.elim) ⟨fun _ z => z, p, v, u, rfl, upd_same, ra.mono (x2.b.trans x3.b) e1, rb.mono x3.b e2.2⟩⟩
end
/-- d[i] of a dict that is walked -/
theorem ev_dgetF [rb : Rp β] {od : Obj} {kvs : List (Key × V)} {a : DFz β} {u : V} {j : Nat} {i : Int} {b : β} (hj : T[j]? = some (.ow (owV u (@oxDF β rb od kvs)) a)) (hk : EvD G ta T rpInt i) (hl : lookI i a.kv = some b) : EvD G (tDGet (tVar j) ta) T rb b := fun B H σ f Q q => by
  obtain ⟨S, e1, _⟩ := f.getO hj
  refine ⟨u, e1, hk B H σ f _ fun w B2 H2 x2 h2 => ?_⟩
  obtain ⟨S2, _, p, e, _, _, hh, rr⟩ := (f.ext x2).getO hj
  obtain ⟨v, e3, e4⟩ := valV_look rr hl
  refine ⟨p, v, e, ?_, q v B2 H2 x2 e4⟩
  rw [show w = kV (.inl i) from h2, ← e3]
  exact .inl ⟨kvs, .inl i, .inr ⟨od, hh⟩, rfl, rfl⟩
theorem RetO.d [ra : Rp α] {rt : VK} {a : α} (h : RetO G rt (oxIm ra) a) : RetD G rt ra a := fun v B H x z => h v B H (fun _ => False) x (fun _ z => z.elim) ⟨fun _ z => z, z⟩
end
end DL

set_option Elab.async false
set_option linter.all false
set_option maxRecDepth 100000
set_option maxHeartbeats 4000000
/-! a law's own layer, thirty-seventh part: new lists of numbers as answers; <= of pairs -/
namespace DL
open PySem PySem.Spec PyProof.Rows L2
@[reducible] def oxLI : @Ox (List Int) (@rpList Int rpInt) := @Ox.mk (List Int) (@rpList Int rpInt)
  (fun K B H a v S => ∃ p : Addr, v = .ref p ∧ (∀ q, S q ↔ q = p) ∧ B p = none ∧ H p = some (.lst (a.map V.int)))
  (by
    rintro K B H B' H' a v S ⟨p, e, hS, b, h⟩ sb k
    obtain ⟨k1, k2⟩ := k p ((hS p).mpr rfl)
    exact ⟨p, e, hS, k2, k1.trans h⟩)
  (by
    rintro K B H a v S ⟨p, e, hS, b, h⟩ q hq
    rw [(hS q).mp hq]
    exact ⟨b, by rw [h]; intro z; cases z⟩)
  (by
    rintro K B H a v S ⟨p, e, hS, b, h⟩ H' sb k
    exact ⟨p, _, e, (k p ((hS p).mpr rfl)).trans h, of_ints⟩)
/-- what rests on nothing but itself -/
class OxI {α : Type} [Rp α] (w : Ox α) : Prop where
  ind : ∀ {K : PySem.W.Frag} {B H B2 : Hp} {a : α} {v : V} {S : Addr → Prop}, w.ox K B H a v S → (∀ q, S q → B2 q = none) → w.ox K B2 H a v S
instance oiLI : OxI oxLI := ⟨fun ⟨p, e, hS, b, h⟩ k => ⟨p, e, hS, k p ((hS p).mpr rfl), h⟩⟩
instance oiIm {α : Type} {r : Rp α} [Sc α] : OxI (oxIm r) := ⟨fun h _ => ⟨h.1, Sc.any h.2⟩⟩
instance oiTup {α β : Type} [ra : Rp α] [rb : Rp β] {w1 : Ox α} {w2 : Ox β} [OxI w1] [OxI w2] : OxI (oxTup w1 w2) := ⟨fun ⟨p, x, y, S1, S2, e, hS, n1, n2, dj, hb, hH, o1, o2⟩ k => ⟨p, x, y, S1, S2, e, hS, n1, n2, dj, k p ((hS p).mpr (.inl rfl)), hH, OxI.ind o1 fun q hq => k q ((hS q).mpr (.inr (.inl hq))), OxI.ind o2 fun q hq => k q ((hS q).mpr (.inr (.inr hq)))⟩⟩
instance ndLI : NdO oxLI := ⟨fun h ⟨p, e, hS, b, hh⟩ => ⟨p, e, hS, del_none b, hh⟩⟩
section
variable {G : Cn} {T : List Ty} {D : Ends} {te ta tb : TE} {tu : TS} {α β : Type}
theorem ev_callJH {ι : Type} {As : ι → List Ty} {pre : ι → Prop} [ra : Rp α] {w : Ox α} [OxI w] {Post : ι → α → Prop} {E : XK} {tr : TA} {x : ι} (ha : EvAH G tr T (As x)) (hp : pre x) : EvOJ G (tCall (SpJ G.K As pre w Post) [] E tr) T w (Post x) := fun B H σ fr Q q => ha B H σ fr _ fun vs B1 H1 x1 ok => by
  rw [List.append_nil]
  exact ⟨H1, x, Same.refl _, hp, ok, fun b pb u B' H' S y hS ho => q b u B1 H' S pb (x1.trans ⟨Same.refl _, y.h, x1.s.trans y.h, fun _ _ => rfl⟩) (fun p hp => x1.h.free (hS p hp)) (OxI.ind ho fun p hp => x1.s.free (hS p hp))⟩
theorem EvN.toJ {xs : List Int} (h : EvN G te T rpInt xs) : EvOJ G te T oxLI (· = xs) := fun B H σ f Q q => h B H σ f Q fun p vs B' H' x n1 n2 e z => q xs (.ref p) B' H' (fun q => q = p) rfl x (fun q hq => by rw [hq]; exact n1) ⟨p, rfl, fun _ => Iff.rfl, n2, by rw [e, ints_of z]⟩
theorem ej_pairO [ra : Rp α] [rb : Rp β] {w : Ox β} {a : α} {Post : β → Prop} (ha : EvD G ta T ra a) (hb : EvOJ G tb T w Post) : EvOJ G (tTup (tCons ta (tCons tb tNil))) T (oxTup (oxIm ra) w) (fun p => p.1 = a ∧ Post p.2) := fun B H σ f Q q =>
  ha B H σ f _ fun v B1 H1 x1 e1 => hb B1 H1 σ (f.ext x1) _ fun b u B2 H2 S pb x2 hS e2 => ⟨by show 2 ≤ sizeLine; decide, fun p hp => by
    have x3 := upd_extN (o := .tup [v, u]) x2.s hp
    have m2 : ¬ S p := fun z => (w.nb e2 p z).2 hp
    refine q (a, b) (.ref p) B2 _ (fun q => q = p ∨ False ∨ S q) ⟨rfl, pb⟩ ((x1.trans x2).trans x3) (fun q hq => ?_) ⟨p, v, u, fun _ => False, S, rfl, fun _ => Iff.rfl, fun z => z, m2, fun _ z => z.elim, x2.s.free hp, upd_same, ⟨fun _ z => z, ra.mono x2.b e1⟩, w.fr e2 (Same.refl _) fun q hq => ⟨upd_ne fun z => m2 (by rw [← z]; exact hq), (w.nb e2 q hq).1⟩⟩
    rcases hq with rfl | hq | hq
    · exact (x1.trans x2).h.free hp
    · exact hq.elim
    · exact x1.h.free (hS q hq)⟩
theorem ej_snd [ra : Rp α] [rb : Rp β] {w : Ox α} {w2 : Ox β} {Post : α × β → Prop} (h : EvOJ G te T (oxTup w w2) Post) : EvOJ G (tOp (rIxT G.K) te (tC (.int 1))) T w2 (fun b => ∃ a, Post a ∧ b = a.2) := fun B H σ f Q q => h B H σ f _ fun a v B1 H1 S pa x1 hS ho => by
  obtain ⟨p, x, y, S1, S2, rfl, hS', n1, n2, dj, hb, hH, o1, o2⟩ := ho
  exact ⟨p, _, 1, y, rfl, rfl, .inl (.inl hH), rfl, q a.2 y B1 H1 S2 ⟨a, pa, rfl⟩ x1 (fun q hq => hS q ((hS' q).mpr (.inr (.inr hq)))) o2⟩
theorem ej_sortedN [rb : Rp β] {Post : DI β → Prop} (h : EvOJ G te T (oxIm (@rpDI β rb)) Post) (hl : ∀ d, Post d → d.kv.length < 64) : EvOJ G (tCB rSortedDI (tCons te tNil)) T oxLI (fun ys => ∃ d, Post d ∧ ys = isort (d.kv.map fun p => p.1)) := fun B H σ f Q q => h B H σ f _ fun d v B1 H1 S pd x1 hS ho => by
  obtain ⟨hn, p, kvs, rfl, hp, z⟩ := ho
  refine ⟨p, kvs, d.kv.map fun p => p.1, rfl, .inl (x1.s _ _ hp), by rw [pr_keys z, List.map_map]; rfl, by rw [List.length_map]; exact hl d pd, fun ns l h1 h2 hl => ?_⟩
  have e2 := isort_is h1 h2
  subst e2
  have x2 := upd_extN (o := .lst ((isort (d.kv.map fun p => p.1)).map V.int)) x1.s hl
  exact q _ _ _ _ (fun q => q = l) ⟨d, pd, rfl⟩ (x1.trans x2) (fun q hq => by rw [hq]; exact x1.h.free hl) ⟨l, rfl, fun _ => Iff.rfl, x1.s.free hl, upd_same⟩
theorem ko_leT {X : Cx} {k : Nat} (K : PySem.W.Frag) (h : X.K = K) (hr : Room k X.A) : OpR X (compareOp .LtE) (rLeT K) := by subst h; exact op_leT (by have := hr.un; omega)
/-- the first places tell -/
theorem ev_leP0 {p q : Int × Int} (ha : EvD G ta T (@rpPair Int Int rpInt rpInt) p) (hb : EvD G tb T (@rpPair Int Int rpInt rpInt) q) (h : q.1 < p.1) : EvD G (tOp (rLeT G.K) ta tb) T rpBool false := fun B H σ f Q k =>
  ha B H σ f _ fun v B1 H1 x1 e1 => hb B1 H1 σ (f.ext x1) _ fun u B2 H2 x2 e2 => by
    obtain ⟨a, x, y, rfl, h1, hx, hy⟩ := e1
    obtain ⟨b, x', y', rfl, h2, hx', hy'⟩ := e2
    have hx : x = .int p.1 := hx
    have hy : y = .int p.2 := hy
    have hx' : x' = .int q.1 := hx'
    have hy' : y' = .int q.2 := hy'
    subst hx hy hx' hy'
    refine ⟨a, b, [p.1, p.2], [q.1, q.2], rfl, rfl, .inl (.inl (x2.h _ _ (x1.s _ _ h1))), .inl (.inl (x2.s _ _ h2)), k _ B2 H2 (x1.trans x2) ?_⟩
    show V.bl _ = V.bl false
    congr 1
    have n1 : ¬ p.1 = q.1 := by omega
    have n2 : ¬ p.1 ≤ q.1 := by omega
    unfold Ob.lexAt
    simp [n1, n2]
end
end DL

set_option Elab.async false
set_option linter.all false
set_option maxRecDepth 100000
set_option maxHeartbeats 4000000
/-! a law's own layer, thirty-eighth part: sorted(set(list of numbers)), tuples of a text and a number -/
namespace DL
open PySem PySem.Spec PyProof.Rows L2
section
variable {P : Program} {w : World} {A : Around} {E : Value → Shared → Prop} {s : Shared}
set_option maxHeartbeats 6400000 in
/-- set(l) of a list of whole numbers: a set that can be walked -/
theorem call_set_listR {l : Addr} {items : Array Value} (ns : List Int) {Q : Value → Shared → Prop} (hh : A.handled = none) (hl : s.heap.IsList l items) (hit : IntsAre items.toList ns) (hb : ns.length + 1 < scanBound)
    (h : ∀ (h' : Heap) (tk c : Nat), SetR w h' s.heap.objs.size (fun j => decide (j ∈ ns)) c → c ≤ ns.length → (∀ b o, s.heap.get? b = some o → h'.get? b = some o) → Q (.ref s.heap.objs.size) { s with heap := h', toks := tk }) :
    wpAny (model P w) A (call (.type "set") [.ref l]) Q E s := by
  have hisz : items.size = ns.length := by
    have q := IntsAre.length hit
    rw [Array.length_toList] at q
    exact q
  obtain ⟨c, tl, hmro⟩ := F.called_set.mro
  have hmade := F.called_set.made
  have hsub := F.called_set.sub
  refine wpAny_call (codeAny_of_tree ?_)
  show wpAny _ _ (callAny (.type "set") _) _ _ _
  refine wpAny_pure ⟨Code.quiet_builtin _ (by decide +kernel), codeAny_builtin F.entry_type_call ?_⟩
  rw [Around.under_plain (weight_type_call_type "set" [.ref l] []) rfl]
  have h1 := F.called_set.notType
  have h2 := F.called_set.canCreate
  have hct := F.typeCall_set_1 (.ref l)
  repeat (any_goals (first | assumption | wp_step))
  refine codeAny_mono (code_set_led1 (.ref l) (E := E) (Q₁ := fun obj s₁ => obj = .ref s.heap.objs.size ∧ s₁ = { s with heap := s.heap.push { cls := .type "set", dict := none, data := .set #[] 0 (.fresh 0 0 (!w.params.followText "set-order")) } }) ⟨rfl, rfl⟩) fun r s₁ hr => ?_
  cases r with
  | error e => exact hr
  | ok fl =>
    cases fl with
    | ret obj =>
      obtain ⟨rfl, rfl⟩ := hr
      have hS : (s.heap.push { cls := .type "set", dict := none, data := .set #[] 0 (.fresh 0 0 (!w.params.followText "set-order")) }).get? s.heap.objs.size = some { cls := .type "set", dict := none, data := .set #[] 0 (.fresh 0 0 (!w.params.followText "set-order")) } := Heap.get?_push_size _ rfl
      have hT : Shared.TypeIs { s with heap := s.heap.push { cls := .type "set", dict := none, data := .set #[] 0 (.fresh 0 0 (!w.params.followText "set-order")) } } (.ref s.heap.objs.size) "set" := ⟨_, hS, rfl⟩
      have hli := F.called_set.init.lookup
      have hbi := F.called_set.init.bind (.ref s.heap.objs.size)
      repeat (any_goals (first | assumption | wp_step))
      refine codeAny_mono (codeAny_call_builtin (R := wants (fun r s₂ => r = .none ∧ ∃ h' tk c, s₂ = { s with heap := h', toks := tk } ∧ SetR w h' s.heap.objs.size (fun j => decide (j ∈ ns)) c ∧ c ≤ ns.length ∧
          (∀ b o, s.heap.get? b = some o → h'.get? b = some o)) E) F.called_set.init.plain F.entry_set_init (check_set_init_1 hT ?_)) fun r₂ s₂ hr₂ => ?_
      · obtain ⟨ol, hol, hcl, nl, hdl⟩ := hl
        obtain ⟨ocls, odict, odata, oslots⟩ := ol
        simp only at hcl hdl
        subst hcl; subst hdl
        have hol' : (s.heap.push { cls := .type "set", dict := none, data := .set #[] 0 (.fresh 0 0 (!w.params.followText "set-order")) }).get? l = some { cls := .type "list", dict := odict, data := .seq items nl, slots := oslots } := Heap.get?_push_of_some _ hol
        have hsls := F.sub_list_set
        have hslf := F.sub_list_frozenset
        have hne : (Value.type "list" == Value.type "dict") = false := by decide
        have hl1 : (s.heap.push { cls := .type "set", dict := none, data := .set #[] 0 (.fresh 0 0 (!w.params.followText "set-order")) }).IsList l items := ⟨_, hol', rfl, nl, rfl⟩
        unfold Builtin.«set.__init__» noKeywords Builtin.Frozenset.updateFrom
        generalize hPI : pyIter = PI
        wp_walk
        subst hPI
        refine wpAny_pyIter_list hl1 ?_
        refine wpAny_bind (wpAny_runValue ?_)
        have hlS : l < s.heap.objs.size := Heap.lt_size hol
        have hh3 : A.in1.in1.in1.handled = none := by simp [hh]
        have hneI : l ≠ (s.heap.push { cls := .type "set", dict := none, data := .set #[] 0 (.fresh 0 0 (!w.params.followText "set-order")) }).objs.size := by
          rw [Heap.size_push]; exact Nat.ne_of_lt (Nat.lt_succ_of_lt hlS)
        have hSf : s.heap.objs.size ∉ [(s.heap.push { cls := .type "set", dict := none, data := .set #[] 0 (.fresh 0 0 (!w.params.followText "set-order")) }).objs.size, l] := by
          rw [Heap.size_push]; simp only [List.mem_cons, List.mem_singleton, List.not_mem_nil, or_false, not_or]
          exact ⟨Nat.ne_of_lt (Nat.lt_succ_self _), Nat.ne_of_gt hlS⟩
        have hval : ∀ (i : Nat) (v : Value), items[i]? = some v → ∃ k t, ns[i]? = some k ∧ v = .int k t := fun i v hv => by
          have hi : i < ns.length := by rw [← hisz]; exact (Array.getElem?_eq_some_iff.mp hv).1
          obtain ⟨t, e⟩ := PyProof.Rows.IntsAre.int_at hit i v (by rw [Array.getElem?_toList]; exact hv)
          refine ⟨ns[i], t, List.getElem?_eq_getElem hi, ?_⟩
          rw [e, List.getD_eq_getElem?_getD, List.getElem?_eq_getElem hi] <;> rfl
        refine set_update_ints ((Walks.list hh3 _ l hneI items).toS) s.heap.objs.size
          hSf ns hisz hb hval (items.size - 0) 0 _ (by omega) (Nat.zero_le _)
          ⟨⟨_, Heap.get?_push_size _ rfl, rfl, rfl⟩, (hl1.push _)⟩ ?hS0 ?hR
        case hS0 =>
          have hget : ((s.heap.push { cls := .type "set", dict := none, data := .set #[] 0 (.fresh 0 0 (!w.params.followText "set-order")) }).push { cls := .type "list_iterator", data := .fields #[.ref l, .int 0 0] }).get? s.heap.objs.size
              = some { cls := .type "set", dict := none, data := .set #[] 0 (.fresh 0 0 (!w.params.followText "set-order")) } := Heap.get?_push_of_some _ hS
          exact ⟨0, Nat.le_refl 0, setR_new_at hget⟩
        case hR =>
          intro s' c' hm hc' hS'
          obtain ⟨h', g2, d', tk', os'⟩ := s'
          have eg : g2 = s.gens := hm.gens
          have ed : d' = s.drawn := hm.drawn
          have eo : os' = s.os := hm.os
          subst eg; subst ed; subst eo
          show wpAny _ _ _ _ _ _
          refine wpAny_pure ?_
          show wpAny _ _ (ret Value.none) _ _ _
          rw [hisz] at hc'
          refine wpAny_pure ⟨rfl, h', tk', c', rfl, hS', hc', fun b o e => ?_⟩
          have hb0 : b < s.heap.objs.size := Heap.lt_size e
          have hb1 : b ≠ s.heap.objs.size := Nat.ne_of_lt hb0
          have hb2 : b ≠ (s.heap.push { cls := .type "set", dict := none, data := .set #[] 0 (.fresh 0 0 (!w.params.followText "set-order")) }).objs.size := by
            rw [Heap.size_push]; exact Nat.ne_of_lt (Nat.lt_succ_of_lt hb0)
          exact hm.heap b o (by simp only [List.mem_cons, List.mem_singleton, List.not_mem_nil, or_false, not_or]; exact ⟨hb1, hb2⟩) (Heap.get?_push_of_some _ (Heap.get?_push_of_some _ e))
      · cases r₂ with
        | error e => exact hr₂
        | ok fl₂ =>
          cases fl₂ with
          | ret r =>
            obtain ⟨rfl, h', tk, c', rfl, hS', hc', hk'⟩ := hr₂
            repeat (any_goals (first | assumption | wp_step))
            exact h _ _ _ hS' hc' hk'
          | _ => exact hr₂.elim
    | _ => exact hr.elim
end
/-- set(xs), xs a list of whole numbers -/
def rSetL (K : PySem.W.Frag) (w : World) : List V → Hp → VK → Prop := fun vs H Q => ∃ (l : Addr) (ns : List Int), vs = [V.ref l] ∧ SqL K H l (ns.map V.int) ∧ ns.length < 4000 ∧ ∀ a c, H a = none → c ≤ ns.length → Q (.ref a) (upd H a (SetO w a (fun j => decide (j ∈ ns)) c))
section
variable {X : Cx}
theorem cr_setL (hc : X.calm = true) : CallR X (.type "set") (rSetL X.K X.w) := by
  intro pins s σ H xs us Q I r h
  obtain ⟨l, ns, rfl, hl, hz0, q⟩ := h
  rw [Vals.ref1 r]
  obtain ⟨its, rv, pl, hz⟩ := I.list hl
  have hn : H s.heap.objs.size = none := I.hok.fresh (Nat.le_refl _)
  refine call_set_listR (P := X.prog) (w := X.w) ns (I.ok.hd hc) pl.isList (by simpa using rv.ints) (by unfold scanBound; omega) fun h' tk c R hc k => ?_
  exact ⟨.ref s.heap.objs.size, upd H s.heap.objs.size (SetO X.w s.heap.objs.size (fun j => decide (j ∈ ns)) c), I.laid (t' := tk) k (Nat.le_refl _) (setO_new R), rfl, q _ c hn hc⟩
theorem kr_setL (K : PySem.W.Frag) (w : World) (h : X.K = K) (hw : X.w = w) (hc : X.calm = true) : CallR X (.type "set") (rSetL K w) := by subst h hw; exact cr_setL hc
theorem kr_sortedSet (w : World) (hw : X.w = w) (hc : X.calm = true) : CallR X (.builtin "sorted") (rSortedSet w) := by subst hw; exact cr_sortedSet hc
end
section
variable {G : Cn} {T : List Ty} {te ta tb : TE} {w : World}
theorem ev_sortedSet {xs ys : List Int} (h : EvC G te T rpInt xs) (hl : xs.length < 64) (hs : ys.Pairwise (· < ·)) (hm : ∀ k, k ∈ ys ↔ k ∈ xs) : EvN G (tCB (rSortedSet w) (tCons (tCB (rSetL G.K w) (tCons te tNil)) tNil)) T rpInt ys := fun B H σ f Q q =>
  h B H σ f _ fun v B1 H1 x1 e1 => by
    obtain ⟨p, vs, rfl, s, z⟩ := e1
    have e := ints_of z
    subst e
    refine ⟨p, xs, rfl, s, by omega, fun a c ha hc => ?_⟩
    have x2 := upd_extN (o := SetO w a (fun j => decide (j ∈ xs)) c) x1.s ha
    refine ⟨a, _, c, rfl, upd_same, by omega, fun ns l h1 h2 h3 h4 => ?_⟩
    have en : ns = ys := by
      refine List.Perm.eq_of_pairwise (le := fun a b : Int => a ≤ b) (fun a b _ _ h1 h2 => Int.le_antisymm h1 h2) (h1.imp fun h => Int.le_of_lt h) (hs.imp fun h => Int.le_of_lt h) ?_
      refine (List.perm_ext_iff_of_nodup (h1.imp fun h => by omega) (hs.imp fun h => by omega)).mpr fun k => ?_
      rw [h2, hm, decide_eq_true_eq]
    subst en
    have x3 := upd_extN (o := .lst (ns.map V.int)) x2.s h4
    exact q l _ B1 _ ((x1.trans x2).trans x3) ((x1.trans x2).h.free h4) (x2.s.free h4) upd_same of_ints
end
end DL

set_option Elab.async false
set_option linter.all false
set_option maxRecDepth 100000
set_option maxHeartbeats 4000000
/-! a law's own layer, thirty-ninth part: data of one form sorted and compared, at any length -/
namespace DL
open PySem PySem.Spec PyProof.Rows L2
def rSortedA (K : PySem.W.Frag) : List V → Hp → VK → Prop := fun vs H Q => ∃ (β : Type) (enc : β → PyData) (val : β → V) (bs : List β) (a : Addr), vs = [V.ref a] ∧ SqL K H a (bs.map val) ∧ (∀ b, b ∈ bs → Dp K H (val b) (enc b)) ∧
  PySem.W.AllAlike (bs.map enc) ∧ PySem.W.Sortable (bs.map enc) ∧ (∀ b, b ∈ bs → (enc b).depth ≤ 60) ∧ ∀ p, H p = none → Q (.ref p) (upd H p (.lst ((bs.mergeSort (PySem.W.dataLe false enc)).map val)))
theorem each_vals {β : Type} {val : β → V} : ∀ {bs : List β} {us : List Value}, Vals (bs.map val) us → PySem.W.EachIs (fun v b => RelV (val b) v) us bs
  | [], _, .nil => .nil
  | b :: bs, _, .cons r t => .cons r (each_vals t)
theorem vals_each {β : Type} {val : β → V} : ∀ {bs : List β} {us : List Value}, PySem.W.EachIs (fun v b => RelV (val b) v) us bs → Vals (bs.map val) us
  | [], _, .nil => .nil
  | b :: bs, _, .cons r t => .cons r (vals_each t)
theorem each_mem2 {α β : Type} {R S : α → β → Prop} : ∀ {as : List α} {bs : List β}, PySem.W.EachIs R as bs → (∀ a b, b ∈ bs → R a b → S a b) → PySem.W.EachIs S as bs
  | _, _, .nil, _ => .nil
  | _, _, .cons r t, h => .cons (h _ _ List.mem_cons_self r) (each_mem2 t fun a b hb => h a b (List.mem_cons_of_mem _ hb))
section
variable {X : Cx}
theorem cr_sortedA (hu : X.A.units + 65 < cLine) : CallR X (.builtin "sorted") (rSortedA X.K) := by
  intro pins s σ H vs us Q I r h
  obtain ⟨β, enc, val, bs, a, rfl, hs, hd, hal, hk, hdep, q⟩ := h
  obtain ⟨its, rv, hl, hz⟩ := I.list hs
  obtain ⟨u, rfl, ru⟩ := vals1 r
  obtain rfl : u = Value.ref a := ru
  have hlen : (bs.map val).length = its.length := rv.length
  have hz' : bs.length ≤ sizeLine := by rw [← List.length_map (f := val)]; exact hz
  refine PySem.W.sorted_data (β := β) (enc := enc) (R := fun v b => RelV (val b) v) (vs := its) (bs := bs) hl.isList (each_vals rv) (each_mem2 (each_vals rv) fun v b hb hr => Dp.reads I _ _ _ (hd b hb) hr) hal hk hz' (fun b hb => ?_) fun out hlo eo => ?_
  · have := hdep b hb
    omega
  · obtain ⟨n, hn⟩ := sortedAll_at s.heap its (List.toArray out)
    refine ⟨.ref (s.heap.objs.size + 1), upd H (s.heap.objs.size + 1) (.lst ((bs.mergeSort (PySem.W.dataLe false enc)).map val)), I.laid (t' := s.toks) (fun b u e => sortedAll_old e) (Nat.le_succ _) ⟨?_, out, n, vals_each eo, hn⟩, rfl, q _ (I.hok.fresh (Nat.le_succ _))⟩
    rw [List.length_map, List.length_mergeSort]
    exact hz'
theorem kr_sortedA {k : Nat} (K : PySem.W.Frag) (h : X.K = K) (hr : Room k X.A) : CallR X (.builtin "sorted") (rSortedA K) := by subst h; exact cr_sortedA (hu65 hr)
/-- x <= y of data of one form -/
def rLeA (K : PySem.W.Frag) : R2 := fun x y H Q => ∃ (d e : PyData), Dp K H x d ∧ Dp K H y e ∧ PySem.W.alike d e = true ∧ d ≠ .none ∧ d.depth ≤ 60 ∧ Q (.bl (!PySem.W.dataLt e d)) H
theorem op_leA (hu : X.A.units + 65 < cLine) : OpR X (compareOp .LtE) (rLeA X.K) := by
  intro pins s σ H x y v u Q I rx ry h
  obtain ⟨d, e, hd, he, hal, hn, hdep, q⟩ := h
  obtain ⟨as, r1⟩ := Dp.reads I d x v hd rx
  obtain ⟨bs, r2⟩ := Dp.reads I e y u he ry
  exact PySem.W.le_data r1 r2 hal hn (by have := Nat.min_le_left d.depth e.depth; omega) ⟨.bl _, H, I, rfl, q⟩
theorem ko_leA {k : Nat} (K : PySem.W.Frag) (h : X.K = K) (hr : Room k X.A) : OpR X (compareOp .LtE) (rLeA K) := by subst h; exact op_leA (hu65 hr)
end
/-- data of one form -/
class Alk (α : Type) [Rp α] [Pd α] : Prop where
  al : ∀ a b : α, PySem.W.alike (Pd.pd a) (Pd.pd b) = true
  nn : ∀ a : α, Pd.pd a ≠ PyData.none
section
variable {α β : Type} [Rp α] [Pd α] [Rp β] [Pd β]
instance alInt : Alk Int := ⟨fun _ _ => by simp [Pd.pd, PySem.W.alike], fun _ h => by simp [Pd.pd] at h⟩
theorem al_all [Alk α] : ∀ as bs : List α, PySem.W.alikeAll (as.map Pd.pd) (bs.map Pd.pd) = true
  | [], bs => by simp [PySem.W.alikeAll]
  | _ :: _, [] => by simp [PySem.W.alikeAll]
  | a :: as, b :: bs => by simp [PySem.W.alikeAll, Alk.al a b, al_all as bs]
instance alList [Alk α] : Alk (List α) := ⟨fun a b => by show PySem.W.alike (.list _) (.list _) = true; simp only [PySem.W.alike]; exact al_all a b, fun a h => by cases (show PyData.list (a.map Pd.pd) = PyData.none from h)⟩
instance alPair [Alk α] [Alk β] : Alk (α × β) := ⟨fun a b => by show PySem.W.alike (.tuple _) (.tuple _) = true; simp [PySem.W.alike, PySem.W.alikeAll, Alk.al], fun a h => by cases (show PyData.tuple [Pd.pd a.1, Pd.pd a.2] = PyData.none from h)⟩
end
/-- a before b or like it -/
def leA {α : Type} [Rp α] [Pd α] (a b : α) : Bool := !PySem.W.dataLt (Pd.pd b) (Pd.pd a)
/-- the order of data is one -/
theorem leA_trans {α : Type} [Rp α] [Pd α] {a b c : α} (h1 : leA a b = true) (h2 : leA b c = true) : leA a c = true := by
  unfold leA at h1 h2 ⊢
  rw [Bool.not_eq_true'] at h1 h2 ⊢
  cases h : PySem.W.dataLt (Pd.pd c) (Pd.pd a) with
  | false => rfl
  | true =>
    rcases (PyProof.Rows.listOrd PyProof.Rows.itemOrd).negTrans (PySem.W.keyToks (Pd.pd c)) (PySem.W.keyToks (Pd.pd b)) (PySem.W.keyToks (Pd.pd a)) h with z | z
    · exact absurd ((show PySem.W.dataLt (Pd.pd c) (Pd.pd b) = true from z).symm.trans h2) (by decide)
    · exact absurd ((show PySem.W.dataLt (Pd.pd b) (Pd.pd a) = true from z).symm.trans h1) (by decide)
theorem leA_total {α : Type} [Rp α] [Pd α] (a b : α) : (leA a b || leA b a) = true := by
  unfold leA
  cases h1 : PySem.W.dataLt (Pd.pd b) (Pd.pd a) with
  | false => rfl
  | true =>
    cases h2 : PySem.W.dataLt (Pd.pd a) (Pd.pd b) with
    | false => rfl
    | true =>
      have h3 := (PyProof.Rows.listOrd PyProof.Rows.itemOrd).trans _ _ _ h1 h2
      rw [(PyProof.Rows.listOrd PyProof.Rows.itemOrd).irrefl] at h3
      exact absurd h3 (by decide)
theorem leA_keys {α : Type} [Rp α] [Pd α] {a b : α} (h1 : leA a b = true) (h2 : leA b a = true) : PySem.W.keyToks (Pd.pd a) = PySem.W.keyToks (Pd.pd b) := by
  unfold leA at h1 h2
  rw [Bool.not_eq_true'] at h1 h2
  exact (PyProof.Rows.listOrd PyProof.Rows.itemOrd).total _ _ h2 h1
theorem sortA_le {α : Type} [Rp α] [Pd α] (l : List α) : (l.mergeSort leA).Pairwise fun a b => leA a b = true := List.pairwise_mergeSort (le := leA) (fun a b c h1 h2 => leA_trans h1 h2) leA_total l
/-- data without doubles, sorted: each stands strictly ahead of what follows -/
theorem sortA_lt {α : Type} [Rp α] [Pd α] (inj : ∀ a b : α, PySem.W.keyToks (Pd.pd a) = PySem.W.keyToks (Pd.pd b) → a = b) {l : List α} (h : l.Nodup) : (l.mergeSort leA).Pairwise fun a b => leA b a = false := by
  have n := (List.mergeSort_perm l leA).nodup_iff.mpr h
  refine (List.pairwise_and_iff.mpr ⟨sortA_le l, n⟩).imp fun {a b} z => ?_
  obtain ⟨z1, z2⟩ := z
  cases e : leA b a with
  | false => rfl
  | true => exact absurd (inj a b (leA_keys z1 e)) z2
section
variable {G : Cn} {T : List Ty} {te ta tb : TE} {α : Type}
theorem ev_leA [r : Rp α] [p : Pd α] [l : Alk α] {a b : α} (ha : EvH G ta T r a) (hb : EvH G tb T r b) (hd : p.dn ≤ 60 := by decide) : EvD G (tOp (rLeA G.K) ta tb) T rpBool (leA a b) := fun B H σ f Q q =>
  ha B H σ f _ fun v B1 H1 x1 e1 => hb B1 H1 σ (f.ext x1) _ fun u B2 H2 x2 e2 => ⟨_, _, p.dp (r.mono x2.h e1), p.dp e2, l.al a b, l.nn a, Nat.le_trans (p.dep a) hd, q _ B2 H2 (x1.trans x2) rfl⟩
theorem paired_zip {F : α → V → Prop} : ∀ {as : List α} {vs : List V}, Paired F as vs → (as.zip vs).map (·.1) = as ∧ (as.zip vs).map (·.2) = vs ∧ ∀ b, b ∈ as.zip vs → F b.1 b.2
  | _, _, .nil => ⟨rfl, rfl, fun _ h => by cases h⟩
  | _, _, .cons r t => by
    obtain ⟨h1, h2, h3⟩ := paired_zip t
    refine ⟨by rw [List.zip_cons_cons, List.map_cons, h1], by rw [List.zip_cons_cons, List.map_cons, h2], fun b hb => ?_⟩
    rcases List.mem_cons.mp hb with rfl | hb
    · exact r
    · exact h3 b hb
theorem zip_paired {F : α → V → Prop} : ∀ {bs : List (α × V)}, (∀ b, b ∈ bs → F b.1 b.2) → Paired F (bs.map (·.1)) (bs.map (·.2))
  | [], _ => .nil
  | b :: bs, h => .cons (h b List.mem_cons_self) (zip_paired fun c hc => h c (List.mem_cons_of_mem _ hc))
theorem sort_fst {bs : List (α × V)} {le : α → α → Bool} : (bs.mergeSort fun a b => le a.1 b.1).map (·.1) = (bs.map (·.1)).mergeSort le := List.map_mergeSort fun _ _ _ _ => rfl
/-- sorted of data of one form: all of them tuples, or none -/
theorem ev_sortedA [r : Rp α] [p : Pd α] [l : Alk α] {xs : List α} (h : EvC G te T r xs) (hd : p.dn ≤ 60) (hk : PySem.W.Sortable (xs.map p.pd)) : EvN G (tCB (rSortedA G.K) (tCons te tNil)) T r (xs.mergeSort (@leA α r p)) := fun B H σ f Q q =>
  h B H σ f _ fun v B1 H1 x1 e1 => by
    obtain ⟨a, vs, rfl, s, z⟩ := e1
    obtain ⟨z1, z2, z3⟩ := paired_zip z
    have zH := paired_mono x1.s z
    obtain ⟨_, _, z4⟩ := paired_zip zH
    refine ⟨α × V, fun b => p.pd b.1, fun b => b.2, xs.zip vs, a, rfl, by rw [z2]; exact s, fun b hb => p.dp (z4 b hb), ?_, ?_, fun b _ => Nat.le_trans (p.dep b.1) hd, fun m hm => ?_⟩
    · intro d1 h1 d2 h2
      obtain ⟨b1, _, rfl⟩ := List.mem_map.mp h1
      obtain ⟨b2, _, rfl⟩ := List.mem_map.mp h2
      exact l.al b1.1 b2.1
    · have e : (xs.zip vs).map (fun b => p.pd b.1) = xs.map p.pd := by
        rw [← z1, List.map_map, z1]
        rfl
      rw [e]
      exact hk
    · have x2 := upd_extN (o := .lst (((xs.zip vs).mergeSort (PySem.W.dataLe false fun b => p.pd b.1)).map fun b => b.2)) x1.s hm
      refine q m _ B1 _ (x1.trans x2) (x1.h.free hm) (x1.s.free hm) upd_same ?_
      have e : xs.mergeSort (@leA α r p) = ((xs.zip vs).mergeSort (PySem.W.dataLe false fun b => p.pd b.1)).map (·.1) := by
        rw [PySem.W.dataLe_eq]
        show _ = ((xs.zip vs).mergeSort fun a b => leA a.1 b.1).map (·.1)
        rw [sort_fst, z1]
      rw [e]
      exact zip_paired fun b hb => z3 b ((List.mergeSort_perm _ _).mem_iff.mp hb)
/-- l.index(x) -/
theorem ev_indexD [r : Rp α] [p : Pd α] {xs : List α} {y : α} {j : Nat} (hl : EvH G te T (@rpList α r) xs) (hy : EvH G ta T r y) (hj : xs[j]? = some y) (hf : ∀ m, m < j → xs[m]? ≠ some y) (hd : p.dn ≤ 63 := by decide) :
    EvD G (tBM G.K "list" (rIndexD G.K) te (tCons ta tNil)) T rpInt (j : Int) := fun B H σ f Q q =>
  hl B H σ f _ fun v B1 H1 x1 e1 => by
    refine ⟨?_, hy B1 H1 σ (f.ext x1) _ fun u B2 H2 x2 e2 => ?_⟩
    · obtain ⟨a, vs, rfl, s, _⟩ := e1
      exact .inl ⟨rfl, vs, .inl (.inl s)⟩
    · have e1' := (@rpList α r).mono x2.h e1
      obtain ⟨a, vs, rfl, _⟩ := id e1'
      have hds : (xs.map p.pd)[j]? = some (p.pd y) := by rw [List.getElem?_map, hj]; rfl
      exact ⟨a, u, p.pd y, xs.map p.pd, j, p.pd y, rfl, rfl, (@pdList α r p).dp e1', p.dp e2, @shaped_of (List α) (@rpList α r) (@pdList α r p) xs (by show p.dn + 1 ≤ 64; omega), shaped_of (by omega), hds, (p.eqv y y).mpr rfl, fun m z' hm hz => by
        rw [List.getElem?_map] at hz
        cases hx : xs[m]? with
        | none => rw [hx] at hz; cases hz
        | some x =>
          rw [hx] at hz
          cases hz
          cases hc : PyData.eqv (p.pd x) (p.pd y) with
          | false => rfl
          | true => exact absurd (by rw [hx, (p.eqv x y).mp hc]) (hf m hm), q _ B2 H2 (x1.trans x2) rfl⟩
end
section
variable {X : Cx}
theorem km_indexD {k : Nat} (K : PySem.W.Frag) (h : X.K = K) (hr : Room k X.A) : MtR X "list.index" (rIndexD K) := by subst h; exact mt_indexD (hu65 hr)
end
end DL

set_option Elab.async false
set_option linter.all false
set_option maxRecDepth 100000
set_option maxHeartbeats 4000000
/-! a law's own layer, fortieth part: dicts whose keys are tuples of numbers: displayed with one key, sorted (raw rules) -/
namespace DL
open PySem PySem.Spec PyProof.Rows L2
/-- {k: v}, k a tuple of numbers and texts -/
def tDispT (tk tv : TE) : TE := fun σ H Q => ∀ p, H p = none → tk σ (upd H p (.dT [])) fun x H1 => tv σ H1 fun y H2 => H2 p = some (.dT []) ∧ ∃ (b : Addr) (k : List Key), x = .ref b ∧ H2 b = some (.tup (k.map kV)) ∧ Q (.ref p) (upd H2 p (.dT [(k, y)]))
section
variable {prog : Program} {w : World} {κ : Type} [DecidableEq κ] {knd : HeapKind prog w κ} {A : Around} {E : Value → Shared → Prop} {s : Shared}
theorem wpAny_subDict1 {pairs : List (Sem Value × Sem Value)} {Q : Addr → Shared → Prop} (hlen : pairs.length ≤ 15)
    (h : wpAny (model prog w) A (evalPairs pairs) (fun vs s₁ => ∃ (b : Addr) (r : Value) (ky : κ), vs = [(.ref b, r)] ∧ knd.room A ∧ knd.is s₁.heap ky b ∧ s₁.heap.DictOfH knd s.heap.objs.size [] ∧
      ∀ h' t', h'.DictOfH knd s.heap.objs.size (storedH [] ky b r) → Heap.SameBut s.heap.objs.size s₁.heap h' → Q s.heap.objs.size { s₁ with heap := h', toks := t' }) E
      { s with heap := s.heap.push { cls := .type "dict", data := .dict #[] } }) :
    wpAny (model prog w) A (subDict pairs) Q E s := by
  unfold subDict
  refine wpAny_bind (wpAny_alloc ?_)
  refine wpAny_bind (wpAny_holding ?_)
  rw [if_pos hlen]
  refine wpAny_bind (wpAny_mono h (fun vs s₁ h₁ => ?_) fun _ _ e => e)
  obtain ⟨b, r, ky, rfl, hu, hkey, hm, hQ⟩ := h₁
  refine wpAny_holding ?_
  have hsz : ([] : List (κ × Addr × Value)).length ≤ sizeLine := Nat.zero_le _
  refine wpAny_bind ?_
  rw [List.forIn_cons]
  refine wpAny_bind (wpAny_bind (wpAny_dictSet_heap (hsz := hsz) hu hkey hm fun h' hm' hs' => wpAny_pure ?_))
  dsimp only
  rw [List.forIn_nil]
  exact wpAny_pure (wpAny_pure (wpAny_pure (hQ h' _ hm' hs')))
theorem wpAny_Dict_one {k v : Expr} {env : Env} {pos : Pos} {Q : Value → Shared → Prop}
    (h : wpAny (model prog w) A (evalPairs (pairTrees [some k] [v] env pos)) (fun vs s₁ => ∃ (b : Addr) (r : Value) (ky : κ), vs = [(.ref b, r)] ∧ knd.room A ∧ knd.is s₁.heap ky b ∧ s₁.heap.DictOfH knd s.heap.objs.size [] ∧
      ∀ h' t', h'.DictOfH knd s.heap.objs.size (storedH [] ky b r) → Heap.SameBut s.heap.objs.size s₁.heap h' → Q (.ref s.heap.objs.size) { s₁ with heap := h', toks := t' }) E
      { s with heap := s.heap.push { cls := .type "dict", data := .dict #[] } }) :
    wpAny (model prog w) A (eval (.Dict [some k] [v] pos) env) Q E s := by
  have hn := pairTrees_length [some k] [v] env pos rfl rfl
  have h0 : pairTrees [some k] [v] env pos ≠ [] := fun z => by rw [z] at hn; cases hn
  rw [arm_eval_Dict, zip_pairTrees [some k] [v] env pos rfl rfl, dictDisplay_pairs _ h0 (by rw [hn]; show 1 < 17; decide)]
  exact wpAny_bind (wpAny_standAt (wpAny_bind (wpAny_subDict1 (knd := knd) (Q := fun d s' => wpAny (model prog w) A (pure (Value.ref d)) Q E s') (by rw [hn]; show 1 ≤ 15; decide)
    (wpAny_mono h (fun vs s₁ h₁ => by obtain ⟨b, r, ky, a1, a2, a3, a4, hq⟩ := h₁; exact ⟨b, r, ky, a1, a2, a3, a4, fun h' t' a b => wpAny_pure (hq h' t' a b)⟩) fun _ _ e => e))))
end
theorem pe_dispT {X : Cx} {k v : Expr} {pos : Pos} {tk tv : TE} (hu : X.A.units + 1 < cLine) (hk : PE X k tk) (hv : PE X v tv) : PE X (.Dict [some k] [v] pos) (tDispT tk tv) := by
  refine ⟨fun pins s σ H Q I q => ?_⟩
  have hn := I.hok.fresh (Nat.le_refl s.heap.objs.size)
  have I1 := I.laid (a := s.heap.objs.size) (o := .dT []) (h' := s.heap.push { cls := .type "dict", data := .dict #[] }) (t' := s.toks) (fun _ _ q => Heap.get?_push_of_some _ q) (Nat.le_refl _) (dt_empty s.heap I.big)
  refine wpAny_Dict_one (knd := tupleKind (mixKind X.prog X.w)) (pairTrees_cons_walk (thn (hk.run pins _ σ _ _ I1 (q _ hn)) fun u s1 ⟨x, H1, I2, rx, q1⟩ => thn (hv.run pins s1 σ H1 _ I2 q1) fun r s2 ⟨y, H2, I3, ry, e, b, ky, ex, eb, q2⟩ => pairTrees_nil_walk ?_))
  subst ex
  obtain rfl : u = Value.ref b := rx
  obtain ⟨z, hd, xs0, r0, dd⟩ := dt_of I3.hok e
  cases r0
  refine ⟨b, r, ky, rfl, (show X.A.units < cLine by omega), key_of I3.hok eb, dd, fun h' t' dd' hs => ⟨.ref s.heap.objs.size, upd H2 s.heap.objs.size (.dT [(ky, y)]), ?_, rfl, q2⟩⟩
  obtain ⟨o, es, ep, hq, h2, h3, h4, _, h5⟩ := dd'
  refine d_write I3 (by rw [e]; exact True.intro) hs ⟨o, hq⟩ ⟨(show 1 ≤ sizeLine by decide), hd, _, KT.keeps (H := H2) (show KT H2 (putK [] ky y) (storedH [] ky b r) from KT.put .nil ky eb ry) fun c ys ec => ?_, o, es, ep, hq, h2, h3, h4, h5⟩
  rw [upd_ne (ne_of ec e (fun z => nomatch z))]
  exact ec
/-- sorted(d) of a dict whose keys are tuples of numbers: a new list of these -/
def encT (b : List Int × Addr) : PyData := .tuple (b.1.map .int)
def rSortedDT : List V → Hp → VK → Prop := fun xs H Q => ∃ (a : Addr) (kvs : List (List Key × V)) (ks : List (List Int)), xs = [.ref a] ∧ Rd H a (.dT kvs) ∧ kvs.map (·.1) = ks.map (fun k => k.map Sum.inl) ∧ (∀ k, k ∈ ks → k ≠ []) ∧ ks.length ≤ 90000 ∧
  ∀ (bs : List (List Int × Addr)) (p : Addr), bs.map (·.1) = ks → (∀ b, b ∈ bs → H b.2 = some (.tup (b.1.map V.int))) → H p = none → Q (.ref p) (upd H p (.lst ((bs.mergeSort (PySem.W.dataLe false encT)).map fun b => V.ref b.2)))
theorem dpAll_ints {K : PySem.W.Frag} {H : Hp} : ∀ ks : List Int, DpAll K H (ks.map V.int) (ks.map PyData.int)
  | [] => .nil
  | k :: ks => .cons (.int k) (dpAll_ints ks)
theorem kV_ints (k : List Int) : ((k.map Sum.inl : List Key).map kV) = k.map V.int := by rw [List.map_map]; rfl
theorem call_sortedDT {X : Cx} (hcalm : X.calm = true) (hu : X.A.units + 65 < cLine) : CallR X (.builtin "sorted") rSortedDT := by
  intro pins s σ H xs us Q I r q
  obtain ⟨a, kvs, ks, ex, hd, hks, hne, hlen, q⟩ := q
  subst ex
  obtain ⟨u, eu, rx⟩ := vals1 r
  subst eu
  cases rx
  obtain ⟨z, hs, xs0, pr, o, es, ep, ho, hx, hdt, he, hn⟩ := (show ObjOk X.prog X.w H s.heap a (.dT kvs) from hd.ok I.hok)
  have l1 : es.size = xs0.length := size_of_entries he
  have l2 : kvs.length = xs0.length := Paired.length pr
  have l3 : kvs.length = ks.length := by
    have e := congrArg List.length hks
    rwa [List.length_map, List.length_map] at e
  have hLine : sizeLine = 16777216 := sizeLine_eq
  refine Calls.call_function_entry PyProof.Rows.kind_sorted PyProof.Rows.plain_sorted PyProof.Rows.entry_sorted (PyProof.Rows.args_sorted1 _) ?_
  unfold Builtin.«sorted»
  refine wpAny_bind (m := checkCount "sorted" 1 1 _) (wpAny_pure ?_)
  refine wpAny_bind (PySem.W.kdu_collect (A := X.A.in1) (kdl_raw hs hx hdt) (I.ok.hd hcalm) ho (by omega) fun h' tk acc' hk it => ?_)
  have ea : acc'.toList = xs0.map fun x => Value.ref x.2.1 := by
    have hl : acc'.toList.length = xs0.length := by rw [Array.length_toList, it.1]; exact l1
    apply List.ext_getElem?
    intro j
    rw [List.getElem?_map]
    cases hj : acc'.toList[j]? with
    | none =>
      have h1 := List.getElem?_eq_none_iff.mp hj
      rw [List.getElem?_eq_none (by omega)]
      all_goals rfl
    | some v =>
      obtain ⟨en, hen, hv⟩ := it.2 j v (by rw [← Array.getElem?_toList]; exact hj)
      have qe := entry_at he j
      rw [hen] at qe
      cases hb : xs0[j]? with
      | none =>
        rw [hb] at qe
        exact nomatch (show some en = none from qe)
      | some b =>
        rw [hb] at qe
        have e2 : en = entryOfKey (tupleKind (mixKind X.prog X.w)) b := Option.some.inj qe
        rw [hv, e2]
        all_goals rfl
  -- the keys with their tuples
  obtain ⟨bs, b1, b2, b3⟩ : ∃ bs : List (List Int × Addr), bs.map (·.1) = ks ∧ (bs.map fun b => Value.ref b.2) = xs0.map (fun x => Value.ref x.2.1) ∧ ∀ b, b ∈ bs → H b.2 = some (.tup (b.1.map V.int)) := by
    clear ea it hn he hdt hx ho l1 l2 l3 hlen hne q hd z
    induction pr generalizing ks with
    | nil =>
      cases ks with
      | nil => exact ⟨[], rfl, rfl, fun _ h => by cases h⟩
      | cons k ks => cases hks
    | @cons p x ps xs' h t ih =>
      cases ks with
      | nil => cases hks
      | cons k ks =>
        rw [List.map_cons, List.map_cons] at hks
        obtain ⟨e1, e2⟩ := List.cons.inj hks
        obtain ⟨bs, c1, c2, c3⟩ := ih ks e2
        refine ⟨(k, x.2.1) :: bs, by rw [List.map_cons, c1], by rw [List.map_cons, List.map_cons, c2], fun b hb => ?_⟩
        rcases List.mem_cons.mp hb with rfl | hb
        · have h2 := h.2.1
          rw [e1, kV_ints] at h2
          exact h2
        · exact c3 b hb
  have lb : bs.length = ks.length := by rw [← b1, List.length_map]
  rw [ea, ← b2]
  have I1 : Inv X pins σ H { s with heap := h', toks := tk } := I.kept hk
  have hvl : (bs.map fun b => Value.ref b.2).length ≤ sizeLine := by rw [List.length_map]; omega
  refine wpAny_bind (wpAny_newList ?_ hvl)
  have hoL : (h'.push (seqObj "list" (bs.map fun b => Value.ref b.2).toArray 0)).get? h'.objs.size = some (seqObj "list" (bs.map fun b => Value.ref b.2).toArray 0) := Heap.get?_push_size _ rfl
  show wpAny _ _ _ _ _ { s with heap := h'.push (seqObj "list" (bs.map fun b => Value.ref b.2).toArray 0), toks := tk }
  have rdAll : PySem.W.EachIs (fun v b => ∃ as, Reads (PySem.W.sortingHeap (h'.push (seqObj "list" (bs.map fun b => Value.ref b.2).toArray 0)) h'.objs.size (bs.map fun b => Value.ref b.2)) v (encT b) as) (bs.map fun b => Value.ref b.2) bs := by
    have key : ∀ l : List (List Int × Addr), (∀ b, b ∈ l → b ∈ bs) → PySem.W.EachIs (fun v b => ∃ as, Reads (PySem.W.sortingHeap (h'.push (seqObj "list" (bs.map fun b => Value.ref b.2).toArray 0)) h'.objs.size (bs.map fun b => Value.ref b.2)) v (encT b) as) (l.map fun b => Value.ref b.2) l := by
      intro l
      induction l with
      | nil => intro _; exact .nil
      | cons b l ih =>
        intro hl
        refine .cons ?_ (ih fun c hc => hl c (List.mem_cons_of_mem _ hc))
        obtain ⟨as, rr⟩ := Dp.reads I1 (encT b) (.ref b.2) (.ref b.2) (.tup (.inl (.inl (b3 b (hl b List.mem_cons_self)))) (dpAll_ints b.1)) rfl
        exact ⟨as, PyProof.Rows.Reads.keeps (fun c o e => PySem.W.sortingHeap_old (Nat.ne_of_lt (Heap.lt_size e)) (Heap.get?_push_of_some _ e)) rr⟩
    exact key bs fun _ h => h
  have hal : PySem.W.AllAlike (bs.map encT) := PySem.W.AllAlike.of fun b b' => by
    show PySem.W.alike (.tuple _) (.tuple _) = true
    simp only [PySem.W.alike]
    exact PySem.W.alike_ints _ _
  have hsk : PySem.W.Sortable (bs.map encT) := .inl fun d hd => by
    obtain ⟨b, hb, rfl⟩ := List.mem_map.mp hd
    have hb1 : b.1 ∈ ks := by rw [← b1]; exact List.mem_map.mpr ⟨b, hb, rfl⟩
    have hb2 := hne _ hb1
    unfold encT
    cases hbl : b.1 with
    | nil => exact absurd hbl hb2
    | cons x r => exact ⟨_, _, rfl⟩
  have hdep : ∀ b : List Int × Addr, (encT b).depth ≤ 1 := fun b => by
    unfold encT
    simp only [PyData.depth, PySem.W.depth_ints]
    omega
  have rdR : PySem.W.EachIs (fun v b => RelV (V.ref b.2) v) (bs.map fun b => Value.ref b.2) bs := by
    clear rdAll hvl hoL lb b2 b1 b3 hal hsk ea
    induction bs with
    | nil => exact .nil
    | cons b l ih => exact .cons rfl ih
  refine wpAny_bind (wpAny_holding (wpAny_call_entry PyProof.Rows.slot_list_sort ⟨_, hoL, rfl⟩ PyProof.Rows.entry_list_sort
    (PySem.W.list_sort_vals (s := { s with heap := h'.push (seqObj "list" (bs.map fun b => Value.ref b.2).toArray 0), toks := tk }) hoL
      (PySem.W.SortsAt.data (s := { s with heap := PySem.W.sortingHeap (h'.push (seqObj "list" (bs.map fun b => Value.ref b.2).toArray 0)) h'.objs.size (bs.map fun b => Value.ref b.2), toks := tk }) (PySem.W.each_map (R := fun v d => ∃ as, Reads (PySem.W.sortingHeap (h'.push (seqObj "list" (bs.map fun b => Value.ref b.2).toArray 0)) h'.objs.size (bs.map fun b => Value.ref b.2)) v d as) encT rdAll) hal hsk fun d hd => ?hroom)
      hvl ⟨_, rfl, ?_⟩) (PyProof.Rows.args_list_sort _)))
  case hroom =>
    obtain ⟨b, _, rfl⟩ := List.mem_map.mp hd
    have := hdep b
    show X.A.units + 2 + (encT b).depth < cLine
    omega
  generalize ho2 : PySem.W.sortVals (PySem.W.dataKind (PySem.W.sortingHeap (h'.push (seqObj "list" (bs.map fun b => Value.ref b.2).toArray 0)) h'.objs.size (bs.map fun b => Value.ref b.2)) (bs.map encT)) false (bs.map fun b => Value.ref b.2) (bs.map fun b => Value.ref b.2) = out
  have hout : PySem.W.EachIs (fun v b => RelV (V.ref b.2) v) out (bs.mergeSort (PySem.W.dataLe false encT)) := by
    rw [← ho2]
    exact PySem.W.sortVals_data false rdR rdAll hal
  obtain ⟨e', he'⟩ := PyProof.Rows.sortedHeap_at (vs := bs.map fun b => Value.ref b.2) (out := out.toArray) hoL
  refine wpAny_pure ⟨_, rfl, .ref h'.objs.size, upd H h'.objs.size (.lst ((bs.mergeSort (PySem.W.dataLe false encT)).map fun b => V.ref b.2)), I1.laid (t' := tk) (fun b u e => ?_) (Nat.le_refl _)
    (show ObjOk X.prog X.w _ _ _ (.lst ((bs.mergeSort (PySem.W.dataLe false encT)).map fun b => V.ref b.2)) from ⟨by rw [List.length_map, List.length_mergeSort]; omega, out, e', vals_each hout, he'⟩), rfl, q bs _ b1 b3 (I1.hok.fresh (Nat.le_refl _))⟩
  have hb : b < h'.objs.size := Heap.lt_size e
  rw [PyProof.Rows.sortedHeap_old (Nat.ne_of_lt hb) (by rw [size_push']; exact Nat.lt_succ_of_lt hb)]
  exact Heap.get?_push_of_some _ e
end DL

set_option Elab.async false
set_option linter.all false
set_option maxRecDepth 100000
set_option maxHeartbeats 4000000
/-! a law's own layer, forty-first part: dicts whose keys are tuples of numbers, plainly -/
namespace DL
open PySem PySem.Spec PyProof.Rows L2
structure DT (β : Type) where
  kv : List (List Int × β)
def kI (k : List Int) : List Key := k.map Sum.inl
theorem kI_inj : ∀ {a b : List Int}, kI a = kI b → a = b
  | [], [], _ => rfl
  | [], _ :: _, h => by cases h
  | _ :: _, [], h => by cases h
  | x :: a, y :: b, h => by
    obtain ⟨h1, h2⟩ := List.cons.inj (show (Sum.inl x : Key) :: kI a = Sum.inl y :: kI b from h)
    rw [Sum.inl.inj h1, kI_inj h2]
theorem kI_V (k : List Int) : (kI k).map kV = k.map V.int := kV_ints k
def rpPt {β : Type} [Rp β] (K : PySem.W.Frag) (H : Hp) (a : List Int × β) (b : List Key × V) : Prop := b.1 = kI a.1 ∧ Rp.rp K H a.2 b.2
instance rpDT {β : Type} [Rp β] : Rp (DT β) := ⟨fun K H a v => ∃ p kvs, v = .ref p ∧ H p = some (.dT kvs) ∧ Paired (rpPt K H) a.kv kvs, fun e ⟨p, kvs, a, b, c⟩ => ⟨p, kvs, a, e _ _ b, Paired.mapP c fun _ _ z => ⟨z.1, Rp.mono e z.2⟩⟩⟩
instance oxDT {β : Type} [Rp β] : Ox (DT β) where
  ox K B H x v S := ∃ (p : Addr) (kvs : List (List Key × V)), v = .ref p ∧ (∀ q, S q ↔ q = p) ∧ B p = none ∧ H p = some (.dT kvs) ∧ Paired (rpPt K B) x.kv kvs
  fr := by
    rintro K B H B' H' a v S ⟨p, kvs, e, hS, b, h, r⟩ sb k
    obtain ⟨k1, k2⟩ := k p ((hS p).mpr rfl)
    exact ⟨p, kvs, e, hS, k2, k1.trans h, Paired.mapP r fun _ _ z => ⟨z.1, Rp.mono sb z.2⟩⟩
  nb := by
    rintro K B H a v S ⟨p, kvs, e, hS, b, h, r⟩ q hq
    rw [(hS q).mp hq]
    exact ⟨b, by rw [h]; intro z; cases z⟩
  rd := by
    rintro K B H a v S ⟨p, kvs, e, hS, b, h, r⟩ H' sb k
    exact ⟨p, kvs, e, (k p ((hS p).mpr rfl)).trans h, Paired.mapP r fun _ _ z => ⟨z.1, Rp.mono sb z.2⟩⟩
def lookT {β : Type} (k : List Int) : List (List Int × β) → Option β
  | [] => none
  | p :: r => if p.1 = k then some p.2 else lookT k r
theorem pt_val {β : Type} [Rp β] {K : PySem.W.Frag} {B : Hp} {k : List Int} : ∀ {kv : List (List Int × β)} {kvs : List (List Key × V)}, Paired (rpPt K B) kv kvs → (lookT k kv = none ∧ valV kvs (kI k) = none) ∨ ∃ b v, lookT k kv = some b ∧ valV kvs (kI k) = some v ∧ Rp.rp K B b v
  | _, _, .nil => .inl ⟨rfl, rfl⟩
  | p :: kv, q :: kvs, .cons ⟨h1, h2⟩ t => by
    by_cases e : p.1 = k
    · have e' : q.1 = kI k := by rw [h1, e]
      exact .inr ⟨p.2, q.2, if_pos e, valV_pos e', h2⟩
    · have e' : ¬ q.1 = kI k := fun z => e (kI_inj (h1.symm.trans z))
      rcases pt_val (k := k) t with ⟨a, b⟩ | ⟨b, v, a, c, d⟩
      · exact .inl ⟨(if_neg e).trans a, (valV_neg e').trans b⟩
      · exact .inr ⟨b, v, (if_neg e).trans a, (valV_neg e').trans c, d⟩
theorem pt_put {β : Type} [Rp β] {K : PySem.W.Frag} {B : Hp} {k : List Int} {b : β} {v : V} {kv : List (List Int × β)} {kvs : List (List Key × V)} (h : Paired (rpPt K B) kv kvs) (hn : lookT k kv = none) (hv : Rp.rp K B b v) : Paired (rpPt K B) (kv ++ [(k, b)]) (putK kvs (kI k) v) := by
  have hva : valV kvs (kI k) = none := by
    rcases pt_val (k := k) h with ⟨_, e⟩ | ⟨b, v, e, _⟩
    · exact e
    · rw [hn] at e; cases e
  have ha : (kvs.any fun p => decide (p.1 = kI k)) = false := by
    rw [valV_any, hva]
    rfl
  unfold putK
  rw [ha]
  exact paired_append h (.cons ⟨rfl, hv⟩ .nil)
theorem tl_key {K : PySem.W.Frag} {B : Hp} {k : List Int} {v : V} (h : (@rpTL Int rpInt).rp K B ⟨k⟩ v) : ∃ b, v = .ref b ∧ B b = some (.tup ((kI k).map kV)) := by
  obtain ⟨p, vs, e, hp, z⟩ := h
  refine ⟨p, e, ?_⟩
  rw [kI_V, ← ints_of z]
  exact hp
theorem pt_keys {β : Type} [Rp β] {K : PySem.W.Frag} {B : Hp} : ∀ {kv : List (List Int × β)} {kvs : List (List Key × V)}, Paired (rpPt K B) kv kvs → kvs.map (·.1) = (kv.map fun p => p.1).map (fun k => k.map Sum.inl)
  | _, _, .nil => rfl
  | _, _, .cons h t => by rw [List.map_cons, List.map_cons, List.map_cons, pt_keys t, h.1]; rfl
section
variable {G : Cn} {T : List Ty} {D : Ends} {te ta tb tc td ty tv tk : TE} {tu : TS} {β : Type} {rv : Rp β}
/-- {k: v} -/
theorem ev_dispT {k : List Int} {b : β} (hk : EvD G tk T (@rpTL Int rpInt) ⟨k⟩) (hv : EvD G tv T rv b) : EvO G (tDispT tk tv) T (@oxDT β rv) ⟨[(k, b)]⟩ := fun B H σ f Q q p hp => by
  have x0 := upd_extN (o := .dT []) f.bh hp
  refine hk B _ σ (f.ext x0) _ fun u B1 H1 x1 e1 => hv B1 H1 σ ((f.ext x0).ext x1) _ fun v B2 H2 x2 e2 => ?_
  obtain ⟨a, rfl, ha⟩ := tl_key e1
  have h2 : H2 p = some (.dT []) := x2.h _ _ (x1.h _ _ upd_same)
  have n1 : B1 p = none := x1.none upd_same (f.bh.free hp)
  have n2 : B2 p = none := x2.none (x1.h _ _ upd_same) n1
  have x := x0.trans (x1.trans x2)
  refine ⟨h2, a, kI k, rfl, x2.h _ _ (x1.s _ _ ha), q (.ref p) B2 _ (fun q => q = p) ⟨x.b, fun y o hy => ?_, fun y o hy => ?_, x.n⟩ (fun q hq => by rw [hq]; exact hp) ⟨p, _, rfl, fun _ => Iff.rfl, n2, upd_same, .cons ⟨rfl, e2⟩ .nil⟩⟩
  · rw [upd_ne (ne_of_none hy hp)]
    exact x.h y o hy
  · rw [upd_ne (ne_of_none hy n2)]
    exact x.s y o hy
/-- k not in d -/
theorem ev_dninT {d : DT β} {k : List Int} (hk : EvD G ta T (@rpTL Int rpInt) ⟨k⟩) (hd : EvH G td T (@rpDT β rv) d) : EvD G (tDNotIn ta td) T rpBool (!(lookT k d.kv).isSome) := fun B H σ f Q q =>
  hk B H σ f _ fun u B1 H1 x1 e1 => hd B1 H1 σ (f.ext x1) _ fun v B2 H2 x2 e2 => by
    obtain ⟨p, kvs, rfl, hp, z⟩ := e2
    obtain ⟨a, rfl, ha⟩ := tl_key e1
    refine ⟨p, valV kvs (kI k), rfl, DGet.t hp (x2.s _ _ (x2.b _ _ ha)), ?_⟩
    have e : (valV kvs (kI k)).isSome = (lookT k d.kv).isSome := by
      rcases pt_val (k := k) z with ⟨e1, e2⟩ | ⟨b, v, e1, e2, _⟩
      · rw [e1, e2]; rfl
      · rw [e1, e2]; rfl
    rw [e]
    exact q _ B2 H2 (x1.trans x2) rfl
/-- d[k] of a dict that is changed in place -/
theorem ev_dgetT {a : DT β} {U : DT β → List Ty} {k : List Int} {b : β} (hi : Has G td T (@oxDT β rv) a U) (hk : EvD G ty T (@rpTL Int rpInt) ⟨k⟩) (hl : lookT k a.kv = some b) : EvD G (tDGet td ty) T rv b := fun B H σ f Q q => by
  obtain ⟨u, eu, ku⟩ := hi B H σ f
  refine eu _ (hk B H σ f _ fun w B2 H2 x2 h2 => ?_)
  obtain ⟨S, ⟨p, kvs, ep, hS, b0, hH, r⟩, kk⟩ := ku B2 H2 x2
  obtain ⟨c, rfl, hc⟩ := tl_key h2
  rcases pt_val (k := k) r with ⟨e1, _⟩ | ⟨b', v, e1, e2, e3⟩
  · rw [hl] at e1; cases e1
  · rw [hl] at e1
    cases e1
    refine ⟨p, v, ep, ?_, q v B2 H2 x2 e3⟩
    rw [← e2]
    exact DGet.t hH (x2.s _ _ hc)
/-- d.get(k) -/
theorem ev_dget1T {a : DT β} {U : DT β → List Ty} {k : List Int} (hi : Has G td T (@oxDT β rv) a U) (hk : EvD G ty T (@rpTL Int rpInt) ⟨k⟩) : EvD G (tDGet1 td ty) T (@rpOpt β rv) (lookT k a.kv) := fun B H σ f Q q => by
  obtain ⟨u, eu, ku⟩ := hi B H σ f
  obtain ⟨S0, ⟨p0, kvs0, e0, _, _, hH0, _⟩, _⟩ := ku B H (Ext.refl f.bh)
  refine eu _ ⟨p0, e0, .inr ⟨kvs0, .inl hH0⟩, hk B H σ f _ fun w B2 H2 x2 h2 => ?_⟩
  obtain ⟨S, ⟨p, kvs, ep, hS, b0, hH, r⟩, kk⟩ := ku B2 H2 x2
  rw [e0] at ep
  cases ep
  obtain ⟨c, rfl, hc⟩ := tl_key h2
  refine ⟨valV kvs (kI k), DGet.t hH (x2.s _ _ hc), q _ B2 H2 x2 ?_⟩
  rcases pt_val (k := k) r with ⟨e1, e2⟩ | ⟨b', v, e1, e2, e3⟩
  · rw [e1, e2]; exact rfl
  · rw [e1, e2]; exact e3
/-- d[k] = b, k not there yet -/
theorem g_dputT {a : DT β} {U : DT β → List Ty} {k : List Int} {b : β} (hi : Has G td T (@oxDT β rv) a U) (hv : EvD G tv T rv b) (hk : EvD G ty T (@rpTL Int rpInt) ⟨k⟩) (hn : lookT k a.kv = none) (hz : a.kv.length < 100000) (q : Goes G (U ⟨a.kv ++ [(k, b)]⟩) D.nx) : Goes G T (sDPut td ty tv D) := fun B H σ f =>
  hv B H σ f _ fun v B1 H1 x1 h1 => by
    obtain ⟨u, eu, ku⟩ := hi B1 H1 σ (f.ext x1)
    refine eu _ (hk B1 H1 σ (f.ext x1) _ fun w B2 H2 x2 h2 => ?_)
    obtain ⟨S, ⟨p, kvs, rfl, hS, b0, hH, r⟩, kk⟩ := ku B2 H2 x2
    obtain ⟨c, rfl, hc⟩ := tl_key h2
    refine ⟨p, upd H2 p (.dT (putK kvs (kI k) v)), rfl, DPut.t hH (x2.s _ _ hc) (by rw [← Paired.length r]; exact sz_lt hz), ?_⟩
    refine q B2 _ σ (kk ⟨a.kv ++ [(k, b)]⟩ B2 _ S ⟨Same.refl _, fun y o hy => ?_, fun y o hy => ?_, fun _ _ => rfl⟩ (fun y hy => delS_in hy) ⟨p, _, rfl, hS, b0, upd_same, pt_put r hn (rv.mono x2.b h1)⟩)
    · obtain ⟨k1, k2⟩ := delS_some hy
      rw [upd_ne fun z => k1 ((hS y).mpr z)]
      exact k2
    · rw [upd_ne (ne_of_none hy b0)]
      exact (x2.s) y o hy
theorem q_dputT {a : DT β} {U : DT β → List Ty} {k : List Int} {b : β} (hi : Has G td T (@oxDT β rv) a U) (hv : EvD G tv T rv b) (hk : EvD G ty T (@rpTL Int rpInt) ⟨k⟩) (hn : lookT k a.kv = none) (hz : a.kv.length < 100000) (q : Goes G (U ⟨a.kv ++ [(k, b)]⟩) (tu D)) : Goes G T (tSeq (sDPut td ty tv) tu D) := g_dputT (D := { D with nx := tu D }) hi hv hk hn hz q
theorem toks_tl (k : List Int) : PySem.W.keyToks (.tuple (k.map .int)) = PySem.W.keyToks (@Pd.pd (List Int) (@rpList Int rpInt) _ k) := by
  show _ = PySem.W.keyToks (.list (k.map .int))
  simp only [PySem.W.keyToks]
theorem wipe_len (σ : L2.St) : ∀ vs : List Nat, (L2.wipe σ vs).length = σ.length
  | [] => rfl
  | v :: vs => by
    show ((L2.wipe σ vs).set v none).length = _
    rw [List.length_set, wipe_len σ vs]
/-- [list(k) for k in sorted(d)], d a dict just made -/
theorem ev_lcST {d : DT β} {i : Nat} (h : EvO G te T (@oxDT β rv) d) (hk : ∀ p, p ∈ d.kv → p.1 ≠ []) (hn : d.kv.length ≤ 90000) (hi : i < T.length) :
    EvN G (tLc (iList G.K (tCB rSortedDT (tCons te tNil))) (gName i) tYes (tCB (rListQ G.K) (tCons (tVar i) tNil)) [i]) T (@rpList Int rpInt) ((d.kv.map fun p => p.1).mergeSort (@leA (List Int) (@rpList Int rpInt) _)) := fun B H σ fr Q q => by
  refine h B H σ fr _ fun u B1 H1 S x1 hS ho => ?_
  obtain ⟨p, kvs, rfl, hSp, b0, hH, z⟩ := ho
  refine ⟨p, kvs, d.kv.map fun p => p.1, rfl, .inl hH, ?_, fun k hm => ?_, by rw [List.length_map]; exact hn, fun bs l hb1 hb2 hl => ?_⟩
  · exact pt_keys z
  · obtain ⟨p, hp, rfl⟩ := List.mem_map.mp hm
    exact hk p hp
  have es : ((bs.mergeSort (PySem.W.dataLe false encT)).map (·.1)) = (d.kv.map fun p => p.1).mergeSort (@leA (List Int) (@rpList Int rpInt) _) := by
    rw [← hb1, PySem.W.dataLe_eq]
    refine List.map_mergeSort fun a _ b _ => ?_
    show (!PySem.W.dataLt (encT b) (encT a)) = leA a.1 b.1
    unfold leA PySem.W.dataLt encT
    rw [toks_tl, toks_tl]
  have hm : ∀ b, b ∈ bs.mergeSort (PySem.W.dataLe false encT) → H1 b.2 = some (.tup (b.1.map V.int)) := fun b hb => hb2 b ((List.mergeSort_perm _ _).mem_iff.mp hb)
  have hlen : (bs.mergeSort (PySem.W.dataLe false encT)).length ≤ 90000 := by
    rw [List.length_mergeSort, ← List.length_map (f := (·.1)), hb1, List.length_map]
    exact hn
  rw [← es] at q
  generalize bs.mergeSort (PySem.W.dataLe false encT) = cs at hm hlen q
  have x2 := upd_extN (o := .lst (cs.map fun b => V.ref b.2)) x1.s hl
  have x12 := x1.trans x2
  refine ⟨l, rfl, ⟨_, .inl (.inl upd_same)⟩, fun Dl nD => ?_⟩
  generalize hH2 : upd H1 l (.lst (cs.map fun b => V.ref b.2)) = H2 at x2 x12 nD
  have hl2 : H2 l = some (.lst (cs.map fun b => V.ref b.2)) := by rw [← hH2]; exact upd_same
  have hm2 : ∀ b, b ∈ cs → H2 b.2 = some (.tup (b.1.map V.int)) := fun b hb => x2.h _ _ (hm b hb)
  have x3 := upd_extN (o := .lst []) x12.s nD
  have x13 := x12.trans x3
  have nB : B1 Dl = none := x12.s.free nD
  have nH : H Dl = none := x12.h.free nD
  refine ⟨fun i' m H' => m = cs.length - i' ∧ i' ≤ cs.length ∧ ∃ B' ws, Ext B H B' H' ∧ Same H2 H' ∧ B' Dl = none ∧ H' Dl = some (.lst ws) ∧ Paired ((@rpList Int rpInt).rp G.K B') ((cs.take i').map (·.1)) ws,
    ⟨cs.length, rfl, Nat.zero_le _, B1, [], x13, x3.h, nB, upd_same, by rw [List.take_zero]; exact .nil⟩, ?_⟩
  rintro i' m H' ⟨rfl, hle, B', ws, x', sH, nB', hDl, pw⟩
  have hl' : H' l = some (.lst (cs.map fun b => V.ref b.2)) := sH _ _ hl2
  by_cases hlt : i' < cs.length
  · have ex : cs[i']? = some cs[i'] := List.getElem?_eq_getElem hlt
    have etk : cs.take (i' + 1) = cs.take i' ++ [cs[i']] := by rw [List.take_add_one, ex] <;> rfl
    have exV : (cs.map fun b => V.ref b.2)[i']? = some (.ref cs[i'].2) := by rw [List.getElem?_map, ex]; rfl
    refine .inr ⟨⟨_, _, .inl (.inl hl'), exV⟩, fun H3 => ∃ B3 ws3, Ext B H B3 H3 ∧ Same H2 H3 ∧ B3 Dl = none ∧ H3 Dl = some (.lst ws3) ∧ Paired ((@rpList Int rpInt).rp G.K B3) ((cs.take (i' + 1)).map (·.1)) ws3, fun H3 h3 => ⟨cs.length - (i' + 1), by omega, rfl, hlt, h3⟩, fun v H3 y => ?_⟩
    obtain ⟨rfl, hv⟩ := y
    have hv := hv _ (.inl (.inl hl'))
    rw [exV] at hv
    cases hv
    have hil : i < (L2.wipe σ [i]).length := by rw [wipe_len, fr.len]; exact hi
    refine ⟨wipe_set (List.mem_singleton.mpr rfl) |>.trans wipe_wipe, ?_⟩
    have hg : ((L2.wipe σ [i]).set i (some (V.ref cs[i'].2)))[i]? = some (some (V.ref cs[i'].2)) := List.getElem?_set_self hil
    unfold tYes
    dsimp only
    rw [if_pos rfl]
    refine ⟨_, hg, cs[i'].2, cs[i'].1.map V.int, rfl, .inr (.inl (.inl (sH _ _ (hm2 _ (List.getElem_mem hlt))))), fun l2 n2 => ?_⟩
    have n2B : B' l2 = none := x'.s.free n2
    have n2H : H l2 = none := x'.h.free n2
    have hDl2 : Dl ≠ l2 := fun e => by rw [e, n2] at hDl; cases hDl
    have hD5 : upd H3 l2 (.lst (cs[i'].1.map V.int)) Dl = some (.lst ws) := (upd_ne hDl2).trans hDl
    have hwl : ws.length < 100000 := by
      rw [← Paired.length pw, List.length_map]
      have h2 := List.length_take_le i' cs
      omega
    refine ⟨ws, hD5, sz_lt hwl, upd B' l2 (.lst (cs[i'].1.map V.int)), ws ++ [.ref l2], ⟨fun y o hy => ?_, fun y o hy => ?_, fun y o hy => ?_, fun y hy => ?_⟩, fun y o hy => ?_, (upd_ne hDl2).trans nB', upd_same, ?_⟩
    · rw [upd_ne (ne_of_none hy (x'.b.free n2B))]
      exact x'.b y o hy
    · rw [upd_ne (ne_of_none hy nH), upd_ne (ne_of_none hy n2H)]
      exact x'.h y o hy
    · by_cases e : y = l2
      · subst e
        rw [upd_same] at hy
        rw [upd_ne (Ne.symm hDl2), upd_same]
        exact hy
      · rw [upd_ne e] at hy
        rw [upd_ne (ne_of_none hy nB'), upd_ne e]
        exact x'.s y o hy
    · have e : y ≠ l2 := fun e => hy (by rw [e]; exact n2H)
      rw [upd_ne e]
      exact x'.n y hy
    · have e1 : y ≠ Dl := fun e => by rw [e, nD] at hy; cases hy
      have e2 : y ≠ l2 := fun e => by
        have := sH y o hy
        rw [e, n2] at this
        cases this
      rw [upd_ne e1, upd_ne e2]
      exact sH y o hy
    · rw [etk, List.map_append]
      refine paired_append (paired_mono (fun y o hy => ?_) pw) (.cons ⟨l2, _, rfl, upd_same, of_ints⟩ .nil)
      rw [upd_ne (ne_of_none hy n2B)]
      exact hy
  · have e : i' = cs.length := by omega
    subst e
    rw [List.take_length] at pw
    exact .inl ⟨⟨_, .inl (.inl hl'), by rw [List.length_map]; exact Nat.le_refl _⟩, q Dl ws B' H' x' nH nB' hDl pw⟩
end
end DL

set_option Elab.async false
set_option linter.all false
set_option maxRecDepth 100000
set_option maxHeartbeats 4000000
/-! a law's own layer, forty-second part: an exception that leaves a comprehension's block -/
namespace DL
open PySem PySem.Spec PyProof.Rows L2
/-- noting depends on the frame alone -/
theorem note_frame {e : Value} {env env' : Env} (h : env.frame = env'.frame) : noteFrame e env = noteFrame e env' := by
  unfold noteFrame PySem.frameOf
  rw [h]
/-- what flies out of a call within the block -/
def Xf (X blk : Cx) (E : XK) : Value → Shared → Prop := fun u s' => ∃ (pins : List (Addr × Obj)) (σ : L2.St) (H : Hp) (s : Shared), Inv blk pins σ H s ∧ L2.CX X.prog X.w X.stack H s E u s'
theorem comp_raise {X : Cx} {pins : List (Addr × Obj)} {σ : L2.St} {H3 : Hp} {s3 s' : Shared} {scope : Scope} {ce : Env} {fp : List Addr} {E : XK} {u : Value}
    (hs : X.stack = X.env :: X.outer) (hf : X.env.frame = some X.env.locals) (hcf : ce.frame = X.env.frame) (cL : ce.locals = s3.heap.objs.size) (I3 : Inv X pins σ H3 s3) (f3 : ∀ b ∈ fp, FpOk X pins H3 b)
    (tk : Takes X fun cls d _ H => E cls d H) (x : Xf X (X.blk s3 H3 scope ce fp) E u s') :
    notedBy (model X.prog X.w) X.A ce (fun e s'' => CompFails (model X.prog X.w) X.A X.xe ce e s'') u s' := by
  obtain ⟨pins', σ', H, s, I, c⟩ := x
  have nC : H ce.locals = none := I.free
  have IX : Inv X pins σ H s := I3.call' (ch := fp) I.os I.base I.hok I.bare fun b hb => ⟨(f3 b hb).2.2.2.1, (f3 b hb).2.1, (f3 b hb).2.2.2.2.1, (f3 b hb).2.2.2.2.2⟩
  have fC : FpOk X pins H ce.locals := by rw [cL] at nC ⊢; exact I3.fpOk (Nat.le_refl _) nC
  obtain ⟨m, hn, _⟩ := I.loc
  have hn : s.heap.Ns ce.locals m := hn
  generalize hC : ce.locals = C at nC fC hn cL
  obtain ⟨f0, f1, f2, f3', f4, f5⟩ := fC
  have hCf : C ∉ frs X.stack := fun z => (List.mem_cons.mp (I3.stkSub C z)).elim f1 f2
  obtain ⟨a, B, H', cls, d, rfl, fl, hok, ub, na, os, ag, hE⟩ := c
  obtain ⟨st, hBa, hFF, hTr⟩ := fl
  obtain ⟨oC, es, ep, hoC, r⟩ := hn
  have hBC : B.get? C = some oC := ub.keep C oC hoC nC hCf
  have nC' : H' C = none := ub.free C oC hoC nC
  show wpAny _ _ (noteFrame (.ref a) ce) _ _ s'
  rw [note_frame hcf]
  refine HandSPX.looks_onZ (L := X.env.locals) Zc.steady (by rw [IX.ok.frames, hs]) hf ⟨st, hBa, hs ▸ hFF, hTr⟩ fun h1 hh1 up1 => ?_
  obtain ⟨st1, _, ff1, tr1⟩ := hh1
  refine ⟨m, ?_, fun h2 m' hn2 sb => ?_⟩
  · rw [hC]
    exact ⟨oC, es, ep, st1 C oC hBC, r⟩
  rw [hC] at sb
  -- the ground without the block's names
  have b1 : ∀ b o, (PySem.W.hideAll B [C]).get? b = some o → B.get? b = some o ∧ b ≠ C := fun b o e => ⟨PySem.W.of_hideAll _ e, fun z => by
    rw [z, PySem.W.hideAll_none [C] (List.mem_singleton.mpr rfl)] at e
    cases e⟩
  have b2 : ∀ b o, b ≠ C → B.get? b = some o → (PySem.W.hideAll B [C]).get? b = some o := fun b o hb e => PySem.W.hideAll_get _ e fun z => hb (List.mem_singleton.mp z)
  have b3 : ∀ b, B.get? b = none → (PySem.W.hideAll B [C]).get? b = none := fun b e => by
    cases q : (PySem.W.hideAll B [C]).get? b with
    | none => rfl
    | some o => rw [(b1 b o q).1] at e; cases e
  generalize PySem.W.hideAll B [C] = B' at b1 b2 b3
  have st2 : B'.StaysIn h2 := fun b o e => by
    obtain ⟨e1, e2⟩ := b1 b o e
    exact (sb.2 b e2).trans (st1 b o e1)
  have frB : ∀ b ∈ frs X.stack, B.get? b = none := fun b hb => (hFF.mem hb).1
  have frC : ∀ b ∈ frs X.stack, b ≠ C := fun b hb z => hCf (by rw [← z]; exact hb)
  have ff1' : h1.FunFrames B X.stack := by rw [hs]; exact ff1
  have ff2 : h2.FunFrames B' X.stack := by
    have key : ∀ (l : List Env), (∀ b ∈ frs l, b ≠ C) → h1.FunFrames B l → h2.FunFrames B' l := by
      intro l
      induction l with
      | nil => intro _ _; trivial
      | cons env l ih =>
        intro hl ⟨hk, ⟨L, o, hfr, hn', ho, hd⟩, hr⟩
        refine ⟨hk, ⟨L, o, hfr, b3 L hn', (sb.2 L (hl L (List.mem_filterMap.mpr ⟨env, List.mem_cons_self, hfr⟩))).trans ho, hd⟩, ih (fun b hb => hl b ?_) hr⟩
        obtain ⟨e, he, q⟩ := List.mem_filterMap.mp hb
        exact List.mem_filterMap.mpr ⟨e, List.mem_cons_of_mem _ he, q⟩
    exact key X.stack frC ff1'
  have haC : a ≠ C := fun z => by rw [z, hBC] at hBa; cases hBa
  have tr2 : HandSPX.TracedZ h2 B' a (Zc cls d) (rawInt X.env.locals) := by
    obtain ⟨oe, vs, T, oT, ts, he, hz, hd, h1', hnT, hTe, hT, hdT, h3⟩ := tr1
    have hTC : T ≠ C := fun z => by rw [z, hBC] at hnT; cases hnT
    exact ⟨oe, vs, T, oT, ts, (sb.2 a haC).trans he, hz, hd, h1', b3 T hnT, hTe, (sb.2 T hTC).trans hT, hdT, h3⟩
  obtain ⟨oe, vs, T, oT, ts, he, hz, hd, h1', hnT, hTe, hT, hdT, h3⟩ := id tr2
  have fin : wpAny (model X.prog X.w) X.A (setFlight (.ref a) ce.frame) (fun _ s₂ => wpAny (model X.prog X.w) X.A (throw (.ref a) : Sem Value) (fun _ _ => False) X.xe s₂) X.xe { s' with heap := h2 } := by
    rw [hcf, hf]
    refine HandSPX.setFlight_onZ (s := { s' with heap := h2 }) (base := B') (l := X.stack) (Z := Zc cls d) ⟨st2, b3 a hBa, ff2, tr2⟩ fun h' hh' up' => ?_
    refine wpAny_throw (tk _ _ ?_)
    obtain ⟨st', _, ff', tr'⟩ := id hh'
    -- the ground with the frames
    obtain ⟨Gr, g1, g2⟩ := restrict h' fun b => (B'.get? b).isSome || decide (b ∈ frs X.stack)
    have gB : ∀ b o, B'.get? b = some o → Gr.get? b = some o := fun b o e => by
      rw [g1 b (by simp [e])]
      exact st' b o e
    have gF : ∀ b, b ∈ frs X.stack → Gr.get? b = h'.get? b := fun b hb => g1 b (by simp [hb])
    have og : ∀ b o, Gr.get? b = some o → h'.get? b = some o ∧ ((B'.get? b).isSome = true ∨ b ∈ frs X.stack) := fun b o e => by
      cases q : ((B'.get? b).isSome || decide (b ∈ frs X.stack)) with
      | false => rw [g2 b q] at e; cases e
      | true =>
        rw [g1 b q] at e
        exact ⟨e, by simpa [Bool.or_eq_true] using q⟩
    have slots : ∀ b o, s.heap.get? b = some o → b ∈ frs X.stack → ∃ sl, h'.get? b = some { o with slots := sl } := fun b o e hb => by
      obtain ⟨_, o', e', hnf⟩ := IX.stack.mem hb
      rw [e] at e'; cases e'
      obtain ⟨sl1, q1⟩ := ub.slot b o e hb
      obtain ⟨sl2, q2⟩ := up1 b _ q1 hnf
      have q3 : h2.get? b = some { o with slots := sl2 } := (sb.2 b (frC b hb)).trans q2
      obtain ⟨sl3, q4⟩ := up' b _ q3 hnf
      exact ⟨sl3, q4⟩
    refine ⟨a, B', { s with heap := Gr, gens := s'.gens, drawn := s'.drawn, toks := s'.toks }, pins, σ, H', cls, d, rfl, ?_, fun b o e hb => ?_, Heap.UpToSlots.of_keeps fun b o e => (og b o e).1, .inr (.inr hh'), na, os, ag, hE⟩
    · refine IX.call (ch := [C]) ⟨fun b o e n hb hc => gB b o (b2 b o (fun z => hc (List.mem_singleton.mpr z)) (ub.keep b o e n hb)), fun b o e n hb _ => ?_, fun b o e n _ => ub.free b o e n, fun b o e hc => ?_, ub.tups, ub.frzs, ub.tbls⟩ ?_ ag fun b hb => ?_
      · obtain ⟨sl, q⟩ := slots b o e hb
        exact ⟨sl, by rw [gF b hb]; exact q⟩
      · have hc' : b ≠ C := fun z => hc (List.mem_singleton.mpr z)
        by_cases hb : b ∈ frs X.stack
        · obtain ⟨sl, q⟩ := slots b o e hb
          exact ⟨_, by rw [gF b hb]; exact q⟩
        · obtain ⟨o', q⟩ := ub.there b o e hb
          exact ⟨o', gB b o' (b2 b o' hc' q)⟩
      · intro b o q
        refine (hok b o q).stay (fun c u hc e => gB c u (b2 c u (fun z => ?_) e)) (fun _ r => r) fun _ _ r => r
        rcases hc with hc | hc
        · rw [← hc, z, nC'] at q; cases q
        · rw [z, nC'] at hc; cases hc
      · rw [List.mem_singleton.mp hb]
        exact ⟨f3', f1, f4, f5⟩
    · obtain ⟨e', h⟩ := og b o e
      rcases h with h | h
      · obtain ⟨o', q⟩ := Option.isSome_iff_exists.mp h
        have z := st' b o' q
        rw [e'] at z; cases z
        exact q
      · exact absurd h hb
  unfold PySem.passOn
  refine wpAny_bind (wpAny_field he hd h1' ?_)
  rw [if_neg (show ¬ ((Value.ref T == Value.none) = true) from by simp)]
  first
    | exact wpAny_bind (wpAny_pure (wpAny_bind fin))
    | exact wpAny_bind fin
end DL

set_option Elab.async false
set_option linter.all false
set_option maxRecDepth 100000
set_option maxHeartbeats 4000000
/-! a law's own layer, forty-third part: comprehensions whose element may raise -/
namespace DL
open PySem PySem.Spec PyProof.Rows L2
/-- the block's context, where calls may raise -/
abbrev blkX (X : Cx) (E : XK) (s : Shared) (H : Hp) (scope : Scope) (ce : Env) (fp : List Addr) : Cx := (X.blk s H scope ce fp).wish (Xf X (X.blk s H scope ce fp) E)
theorem passB {X : Cx} {E : XK} {s : Shared} {H : Hp} {scope : Scope} {ce : Env} {fp : List Addr} : Passes (L2.CX X.prog X.w) (blkX X E s H scope ce fp) E := fun pins σ H' s0 e s' I c => ⟨pins, σ, H', s0, I.unwish, c⟩
section
variable {X : Cx}
theorem lcX_core {E : XK} {pins : List (Addr × Obj)} {s : Shared} {σ : L2.St} {H : Hp} {Q : VK} {elt tg iter : Expr} {ifs : List Expr} {scope : Scope} {own : List (Str × Nat)} {pos pos' : Pos} {wi : TI} {g : TG} {tt : TT} {te : TE} {use : Option (Value → Sem Unit)} {Qf : Value → Shared → Prop}
    (hst : X.stack = X.env :: X.outer) (hfr : X.env.frame = some X.env.locals) (tk : Takes X fun cls d _ H => E cls d H)
    (hc : X.calm = true) (hN : X.N.Nodup) (I : Inv X pins σ H s) (hi : PI X tg iter wi) (ok : BlkOk X.N X.env.scope scope own)
    (hg : ∀ (s : Shared) (H : Hp) (C : Addr) (cl : List (Str × Addr)) (fp : List Addr), PG (X.blk s H scope (compEnvC scope cl C X.env) fp) tg g) (ht : ∀ (s : Shared) (H : Hp) (C : Addr) (cl : List (Str × Addr)) (fp : List Addr), PTs (X.blk s H scope (compEnvC scope cl C X.env) fp) ifs tt)
    (he : ∀ (s : Shared) (H : Hp) (C : Addr) (cl : List (Str × Addr)) (fp : List Addr), PE (blkX X E s H scope (compEnvC scope cl C X.env) fp) elt te) (hs : ∀ x, foldedSetIterable iter X.env x = pure x)
    (h : tLc wi g tt te (own.map (·.2)) σ H Q)
    (hRR : ∀ D ce s' m H', Inv X pins σ H' s' → Q (.ref D) H' → s'.heap.Ns ce.locals m → FpOk X pins H' ce.locals → compEnds (model X.prog X.w) X.A X.xe use Qf (.ref D) ce (.ok .next) s') :
    wpAny (model X.prog X.w) X.A (comprehension (.ListComp elt [⟨tg, iter, ifs, 0⟩] scope pos) scope X.env pos' (newList []) false (eval iter X.env) use) Qf X.xe s := by
  have hfree : ∀ y ∈ scope.names, y.2 = .free → ∃ c, X.env.cells.lookup y.1 = some c := fun y hy e => by
    rcases ok.free y hy e with k | k
    · exact I.ok.has _ (.inl k)
    · exact I.ok.has _ (.inr k)
  refine comprehension_at (use := use) rfl hs (closure_ok hfree) ok.kind (fun y hy e => by rw [ok.uniq y hy, e])
    (thn (hi.run pins s σ H _ I h) fun xv s1 hx => thn hx fun itv s2 h2 => ?_)
  obtain ⟨it, fp, tn, J, H2, e, I2, T, st2, f2, q⟩ := h2
  subst e
  refine wpAny_newObj_type (newEnv_comp ?_) (by show 0 ≤ sizeLine; decide)
  generalize hD : s2.heap.objs.size = D
  have hDn : H2 D = none := I2.hok.fresh (Nat.le_of_eq hD)
  obtain ⟨W, ⟨m0, w0⟩, turn⟩ := q D hDn
  generalize hs3 : ({ s2 with heap := s2.heap.push { cls := .type "list", data := .seq ([] : List Value).toArray } } : Shared) = s3
  have I3 : Inv X pins σ (upd H2 D (.lst [])) s3 := by
    rw [← hs3]
    refine I2.laid (t' := s2.toks) (fun b o e => Heap.get?_push_of_some _ e) (Nat.le_of_eq hD) ⟨Nat.zero_le _, [], 0, .nil, ?_⟩
    rw [← hD]
    exact Heap.get?_push_size _ rfl
  have h3 : s3.heap = s2.heap.push { cls := .type "list", data := .seq ([] : List Value).toArray } := by rw [← hs3]
  have sz : ∀ b ∈ fp, b < s2.heap.objs.size := fun b hb => by
    obtain ⟨o, e, _⟩ := T.obj _ _ st2 b hb
    exact Heap.lt_size e
  have f3 : ∀ b ∈ fp, FpOk X pins (upd H2 D (.lst [])) b ∧ b < s3.heap.objs.size := fun b hb => by
    have hlt := sz b hb
    refine ⟨⟨?_, (f2 b hb).2⟩, by rw [h3, Heap.size_push]; exact Nat.lt_succ_of_lt hlt⟩
    rw [upd_ne (by rw [← hD]; exact Nat.ne_of_lt hlt)]
    exact (f2 b hb).1
  have st3 : tn 0 s3.heap := T.keep _ _ _ st2 fun b _ o e => by rw [h3]; exact Heap.get?_push_of_some _ e
  have I4 := block_start I3 ok hN f3
  have pg := hg s3 (upd H2 D (.lst [])) s3.heap.objs.size (cellsFrom (s3.heap.objs.size + 1) scope.names (cloFrom X.env.cells scope.names [])) fp
  have pt := ht s3 (upd H2 D (.lst [])) s3.heap.objs.size (cellsFrom (s3.heap.objs.size + 1) scope.names (cloFrom X.env.cells scope.names [])) fp
  have pe := he s3 (upd H2 D (.lst [])) s3.heap.objs.size (cellsFrom (s3.heap.objs.size + 1) scope.names (cloFrom X.env.cells scope.names [])) fp
  show codeAny _ _ (.compStart (.ListComp elt [⟨tg, iter, ifs, 0⟩] scope pos) 0 (.ref it) (.ref D) (compEnvC scope (cellsFrom (s3.heap.objs.size + 1) scope.names (cloFrom X.env.cells scope.names [])) s3.heap.objs.size X.env)) (compEnds (model X.prog X.w) X.A X.xe use Qf (.ref D) (compEnvC scope (cellsFrom (s3.heap.objs.size + 1) scope.names (cloFrom X.env.cells scope.names [])) s3.heap.objs.size X.env)) { s3 with heap := pushCells (s3.heap.push { cls := .type "dict", data := .dict #[] }) scope.names }
  have nfp : ∀ b ∈ fp, (upd H2 D (.lst [])) b = none := fun b hb => (f3 b hb).1.1
  generalize hce : compEnvC scope (cellsFrom (s3.heap.objs.size + 1) scope.names (cloFrom X.env.cells scope.names [])) s3.heap.objs.size X.env = ce at I4 pg pt pe ⊢
  have cL : ce.locals = s3.heap.objs.size := by subst hce; rfl
  have cF : ce.frame = X.env.frame := by subst hce; rfl
  generalize hH3 : upd H2 D (.lst []) = H3 at I3 I4 pg pt pe w0 nfp f3
  generalize hs4 : ({ s3 with heap := pushCells (s3.heap.push { cls := .type "dict", data := .dict #[] }) scope.names } : Shared) = s4 at I4 ⊢
  have st4 : tn 0 s4.heap := T.keep _ _ _ st3 fun b _ o e => by rw [← hs4]; exact pushCells_keeps _ _ _ _ (Heap.get?_push_of_some _ e)
  have stat : ∀ {σ' : L2.St} {H' : Hp} {s' : Shared}, Inv (X.blk s3 H3 scope ce fp) [] σ' H' s' → (∀ b ∈ fp, H' b = none) → ∀ b ∈ fp, FpOk (X.blk s3 H3 scope ce fp) [] H' b := fun {σ' H' s'} I' hn b hb =>
    ⟨hn b hb, (I'.ok.exf b hb).1, I'.ok.exfs b hb, .inl hb, fun x c e => (I'.ok.exf b hb).2 x c e, fun p hp => absurd (show p ∈ ([] : List (Addr × Obj)) ++ [] from hp) (by simp)⟩
  have rais : ∀ {u : Value} {s' : Shared}, Xf X (X.blk s3 H3 scope ce fp) E u s' → notedBy (model X.prog X.w) X.A ce (fun e s'' => compEnds (model X.prog X.w) X.A X.xe use Qf (.ref D) ce (.error e) s'') u s' := fun {u s'} x => by
    have z := comp_raise hst hfr cF cL I3 (fun b hb => (f3 b hb).1) tk x
    refine wpAny_mono z (fun _ s'' k => ?_) fun _ _ k => ?_
    · cases use <;> exact k
    · cases use <;> exact k
  have loop : codeAny (model X.prog X.w) X.A (.compLoop (.ListComp elt [⟨tg, iter, ifs, 0⟩] scope pos) 0 (.ref it) (.ref D) ce) (compEnds (model X.prog X.w) X.A X.xe use Qf (.ref D) ce) s4 := by
    refine compLoop_any (fun n s' => ∃ i H', Inv (X.blk s3 H3 scope ce fp) [] (wipe σ (own.map (·.2))) H' s' ∧ tn i s'.heap ∧ (∀ b ∈ fp, H' b = none) ∧ W i n H') ?_ m0 ⟨0, H3, I4, st4, nfp, w0⟩
    rintro n s5 ⟨i, H5, I5, st5, n5, w5⟩
    rcases turn i n H5 w5 with ⟨stop, qq⟩ | ⟨go, Nx, hNx, step⟩
    · have td := T.done (X.blk s3 H3 scope ce fp) rfl rfl rfl hc i [] s5 _ H5 (fun _ _ => False) I5 (stat I5 n5) st5 stop
      refine thnF td fun r s6 ⟨hr, I6⟩ => ?_
      subst hr
      have I7 : Inv X pins σ H5 s6 := I3.call' (ch := fp) I6.os I6.base I6.hok I6.bare fun b hb => ⟨(f3 b hb).1.2.2.2.1, (f3 b hb).1.2.1, (f3 b hb).1.2.2.2.2.1, (f3 b hb).1.2.2.2.2.2⟩
      have nC : H5 ce.locals = none := I6.free
      obtain ⟨m, hn, _⟩ := I6.loc
      have hn : s6.heap.Ns ce.locals m := hn
      exact hRR D ce s6 m H5 I7 qq hn (by rw [cL] at nC ⊢; exact I3.fpOk (Nat.le_refl _) nC)
    · have ti := T.item (X.blk s3 H3 scope ce fp) rfl rfl rfl hc i [] s5 _ H5 (fun _ _ => False) I5 (stat I5 n5) st5 go
      refine thnF ti fun r s6 ⟨u, hr, h6⟩ => ?_
      subst hr
      refine thnF h6 fun _ s7 ⟨x, H7, I7, r7, y7, st7, n7⟩ => ?_
      have I7' := I7.pinned (stat I7 n7) (T.obj _ _ st7)
      refine thnF (pg.run _ s7 _ H7 x u _ I7' r7 (step x H7 y7)) fun _ s8 ⟨σ8, H8, I8, hw8, q8⟩ => ?_
      refine thnF (pt.run _ s8 σ8 H8 _ I8 q8) fun b s9 ⟨H9, I9, q9⟩ => ?_
      have fin : ∀ {s' : Shared} {H' : Hp}, Inv (X.blk s3 H3 scope ce fp) ([] ++ pinsAt fp s7.heap) σ8 H' s' → Nx H' → ∃ m, m < n ∧ ∃ i H', Inv (X.blk s3 H3 scope ce fp) [] (wipe σ (own.map (·.2))) H' s' ∧ tn i s'.heap ∧ (∀ b ∈ fp, H' b = none) ∧ W i m H' := fun {s' H'} I' nx => by
        obtain ⟨m', hm, w'⟩ := hNx H' nx
        have pin' : ∀ b ∈ fp, ∀ o, s7.heap.get? b = some o → s'.heap.get? b = some o ∧ H' b = none := fun b hb o e =>
          let z := I'.pin (b, o) (List.mem_append_right _ (List.mem_append_right _ (mem_pinsAt hb e)))
          ⟨z.1, z.2.1⟩
        have hl : (wipe σ (own.map (·.2))).length = σ8.length := by rw [← hw8, wipe_length]
        refine ⟨m', hm, i + 1, H', (I'.unpinned (pins := [])).weak hl (fun j v e => ?_), T.keep _ _ _ st7 fun b hb o e => (pin' b hb o e).1, fun b hb => ?_, w'⟩
        · rw [← hw8] at e
          exact (wipe_some e).1
        · obtain ⟨o, e, _⟩ := T.obj _ _ st7 b hb
          exact (pin' b hb o e).2
      cases b with
      | false =>
        simp only [Bool.false_eq_true, if_false] at q9 ⊢
        exact fin I9 q9
      | true =>
        simp only [if_true] at q9 ⊢
        refine wpAny_mono (pe.run _ s9 σ8 H9 _ (I9.wish _) q9) (fun z s10 ⟨yv, H10, I10, r10, acc, hD10, hz10, nx⟩ => ?_) fun _ _ x => rais x
        exact app_ok (X := X.blk s3 H3 scope ce fp) I10.unwish hD10 hz10 r10 fun s11 I11 => fin I11 nx
  exact codeAny_compStart_list loop (T.self X.A 0 _ _ _ st4 loop)
theorem pe_lcX {E : XK} {elt tg iter : Expr} {ifs : List Expr} {scope : Scope} {own : List (Str × Nat)} {pos : Pos} {wi : TI} {g : TG} {tt : TT} {te : TE} (hst : X.stack = X.env :: X.outer) (hfr : X.env.frame = some X.env.locals) (tk : Takes X fun cls d _ H => E cls d H) (hc : X.calm = true) (hN : X.N.Nodup) (hi : PI X tg iter wi) (ok : BlkOk X.N X.env.scope scope own)
    (hg : ∀ (s : Shared) (H : Hp) (C : Addr) (cl : List (Str × Addr)) (fp : List Addr), PG (X.blk s H scope (compEnvC scope cl C X.env) fp) tg g) (ht : ∀ (s : Shared) (H : Hp) (C : Addr) (cl : List (Str × Addr)) (fp : List Addr), PTs (X.blk s H scope (compEnvC scope cl C X.env) fp) ifs tt)
    (he : ∀ (s : Shared) (H : Hp) (C : Addr) (cl : List (Str × Addr)) (fp : List Addr), PE (blkX X E s H scope (compEnvC scope cl C X.env) fp) elt te) (hs : ∀ x, foldedSetIterable iter X.env x = pure x := by intro _; rfl) :
    PE X (.ListComp elt [⟨tg, iter, ifs, 0⟩] scope pos) (tLc wi g tt te (own.map (·.2))) := by
  refine ⟨fun pins s σ H Q I h => ?_⟩
  rw [eval_ListComp]
  refine lcX_core hst hfr tk hc hN I hi ok hg ht he hs h fun D ce s' m H' I' q hn f => ⟨m, hn, fun h'' sb => ?_⟩
  obtain ⟨f0, f1, f2, f3, f4, f5⟩ := f
  exact ⟨.ref D, H', I'.turned (t' := s'.toks) (fun b o hb e => (sb.2 b hb).trans e) f0 f1 f3 f4 f5, rfl, q⟩
theorem ps_setLcX {E : XK} {i : Nat} {y : Str} {py : Pos} {elt tg iter : Expr} {ifs : List Expr} {scope : Scope} {own : List (Str × Nat)} {pos spos : Pos} {wi : TI} {g : TG} {tt : TT} {te : TE} (hst : X.stack = X.env :: X.outer) (hfr : X.env.frame = some X.env.locals) (tk : Takes X fun cls d _ H => E cls d H) (hc : X.calm = true) (hN : X.N.Nodup) (hy : X.N[i]? = some y) (hyl : X.env.scope.names.lookup y = some .local)
    (hsw : swapsWith (.ListComp elt [⟨tg, iter, ifs, 0⟩] scope pos) (some (.Name y py)) spos.line X.env = pure true) (hi : PI X tg iter wi) (ok : BlkOk X.N X.env.scope scope own)
    (hg : ∀ (s : Shared) (H : Hp) (C : Addr) (cl : List (Str × Addr)) (fp : List Addr), PG (X.blk s H scope (compEnvC scope cl C X.env) fp) tg g) (ht : ∀ (s : Shared) (H : Hp) (C : Addr) (cl : List (Str × Addr)) (fp : List Addr), PTs (X.blk s H scope (compEnvC scope cl C X.env) fp) ifs tt)
    (he : ∀ (s : Shared) (H : Hp) (C : Addr) (cl : List (Str × Addr)) (fp : List Addr), PE (blkX X E s H scope (compEnvC scope cl C X.env) fp) elt te) (hs : ∀ x, foldedSetIterable iter X.env x = pure x := by intro _; rfl) :
    PS X (.Assign [.Name y py] (.ListComp elt [⟨tg, iter, ifs, 0⟩] scope pos) spos) (tAsg (tLc wi g tt te (own.map (·.2))) (gName i)) := by
  refine ⟨fun pins s σ H D I h => ?_⟩
  rw [exec_Assign_Name_used _ _ _ _ hsw]
  refine wpAny_bind (wpAny_standAt (wpAny_bind ?_))
  show wpAny _ X.A (do let _ ← comprehension (.ListComp elt [⟨tg, iter, ifs, 0⟩] scope pos) scope X.env (firstIterPos [⟨tg, iter, ifs, 0⟩] pos) (newList []) false (eval iter X.env) (some (assign (.Name y py) X.env))) _ _ s
  have h : tLc wi g tt te (own.map (·.2)) σ H (fun x H1 => gName i x σ H1 D.nx) := h
  refine wpAny_bind (thn (lcX_core (Qf := fun _ s' => SP X pins D .next s') hst hfr tk hc hN I hi ok hg ht he hs h fun L ce s' m H' I' q hn f => ?_) fun _ s' hq => wpAny_pure (wpAny_pure hq))
  show wpAny _ _ (assign (.Name y py) X.env (.ref L)) _ _ _
  refine wpAny_assign_Name (store_ok2 (v := V.ref L) I' hN hy (.inl hyl) rfl (fun s2 I2 ⟨a, sb, ha⟩ => ?_) (.inr hyl))
  obtain ⟨f0, f1, f2, f3, f4, f5⟩ := f
  have haC : ce.locals ≠ a := by
    rcases ha with z | z
    · rw [z]; exact f1
    · exact fun e => f4 y a z e.symm
  refine ⟨m, hn.sameBut sb haC, fun h3 sb3 => ?_⟩
  exact ⟨_, H', I2.turned (t' := s2.toks) (fun b o hb e => (sb3.2 b hb).trans e) f0 f1 f3 f4 f5, q⟩
end
end DL

set_option Elab.async false
set_option linter.all false
set_option maxRecDepth 100000
set_option maxHeartbeats 4000000
/-! a law's own layer, forty-fourth part: comprehensions that raise, plainly; a def of an owned answer that raises within a try -/
namespace DL
open PySem PySem.Spec PyProof.Rows L2
section
variable {G : Cn} {T : List Ty} {D : Ends} {te ta tb : TE} {α β : Type} {r : Rp α}
/-- [e for .. in xs]: the element at k raises, none ahead of it -/
theorem ex_lcA {δ : Type} [r2 : Rp δ] {wi : TI} {g : TG} {vs : List Nat} {xs : List α} {x : α} {W : Hp → Prop} (f : α → δ) (k : Nat) (hi : EvI G wi T r xs) (ho : Own g vs)
    (hs : ∀ y, y ∈ xs.take k → ∃ T2, EvG G g (wipeT T vs) r y T2 ∧ EvD G te T2 r2 (f y)) (hk : xs[k]? = some x) (hx : ∃ T2, EvG G g (wipeT T vs) r x T2 ∧ EvX G te T2 W) (hz : xs.length ≤ 90000) :
    EvX G (tLc wi g tYes te vs) T W := fun B H σ fr hw Q => hi B H σ fr _ fun J B1 H1 x1 ok => by
  refine fun Dl hD => ?_
  have nD : H Dl = none := x1.h.free hD
  have nB : B1 Dl = none := x1.s.free hD
  have x1' : Ext B H B1 (upd H1 Dl (.lst [])) := x1.trans (upd_extN x1.s hD)
  have hkl := (List.getElem?_eq_some_iff.mp hk).1
  refine ⟨fun i m H' => m = k - i ∧ i ≤ k ∧ ∃ B' ws, Ext B H B' H' ∧ Same B1 B' ∧ B' Dl = none ∧ H' Dl = some (.lst ws) ∧ Paired (r2.rp G.K B') ((xs.take i).map f) ws,
    ⟨k, rfl, Nat.zero_le _, B1, [], x1', Same.refl _, nB, upd_same, by rw [List.take_zero]; exact .nil⟩, ?_⟩
  rintro i m H' ⟨rfl, hle, B', ws, x', s1, nB', hDl, pw⟩
  have hlt : i < xs.length := by omega
  have ex : xs[i]? = some xs[i] := List.getElem?_eq_getElem hlt
  refine .inr ⟨ok.go B' H' i _ s1 x'.s ex, fun H3 => i < k ∧ ∃ B3 ws3, Ext B H B3 H3 ∧ Same B1 B3 ∧ B3 Dl = none ∧ H3 Dl = some (.lst ws3) ∧ Paired (r2.rp G.K B3) ((xs.take (i + 1)).map f) ws3, fun H3 h3 => ⟨k - (i + 1), by omega, rfl, by omega, h3.2⟩, fun v H2 y => ?_⟩
  obtain ⟨B2, x2, rv⟩ := ok.yld B' H' i _ v H2 s1 x'.s ex y
  have fr2 : Fr G B2 H2 (L2.wipe σ vs) (wipeT T vs) := ((fr.ext x').ext x2).wipe vs
  by_cases hik : i = k
  · subst hik
    rw [ex] at hk
    cases hk
    obtain ⟨T2, hg, he⟩ := hx
    refine ho v _ H2 (fun σ2 H4 => H4 = H2 ∧ Fr G B2 H2 σ2 T2) _ (fun σ2 hw2 hq => ?_) (hg B2 H2 _ v fr2 rv _ fun σ2 f2 => ⟨rfl, f2⟩)
    obtain ⟨_, f2⟩ := hq
    exact ⟨by rw [hw2, wipe_wipe], et_yes B2 H2 σ2 f2 _ fun B5 H5 x5 => iteT (he B5 H5 σ2 (f2.ext x5) hw _)⟩
  · obtain ⟨T2, hg, he⟩ := hs xs[i] (by
      rw [List.mem_take_iff_getElem]
      exact ⟨i, by omega, rfl⟩)
    have etk : xs.take (i + 1) = xs.take i ++ [xs[i]] := by rw [List.take_add_one, ex] <;> rfl
    refine ho v _ H2 (fun σ2 H4 => H4 = H2 ∧ Fr G B2 H2 σ2 T2) _ (fun σ2 hw2 hq => ?_) (hg B2 H2 _ v fr2 rv _ fun σ2 f2 => ⟨rfl, f2⟩)
    obtain ⟨_, f2⟩ := hq
    refine ⟨by rw [hw2, wipe_wipe], et_yes B2 H2 σ2 f2 _ fun B5 H5 x5 => ?_⟩
    have hD5 : H5 Dl = some (.lst ws) := x5.h _ _ (x2.h _ _ hDl)
    have x25 := x2.trans x5
    have nB5 : B5 Dl = none := x25.none hDl nB'
    refine iteT (he B5 H5 σ2 (f2.ext x5) _ fun w B6 H6 x6 rw6 => ?_)
    have x26 := x25.trans x6
    have nB6 : B6 Dl = none := x26.none hDl nB'
    have hl : ws.length < 100000 := by
      rw [← Paired.length pw, List.length_map]
      have h2 := List.length_take_le i xs
      omega
    refine ⟨ws, x6.h _ _ hD5, sz_lt hl, by omega, B6, ws ++ [w], ⟨(x'.trans x26).b, fun b o e => ?_, fun b o e => ?_, (x'.trans x26).n⟩, s1.trans x26.b, nB6, upd_same, ?_⟩
    · rw [upd_ne (ne_of_none e nD)]; exact (x'.trans x26).h b o e
    · rw [upd_ne (ne_of_none e nB6)]; exact x26.s b o e
    · rw [etk, List.map_append]
      exact paired_append (paired_mono x26.b pw) (.cons rw6 .nil)
/-- the iterator's list raises -/
theorem ex_lcI {W : Hp → Prop} {g : TG} {tt : TT} {tel : TE} {vs : List Nat} {rr : List V → Hp → VK → Prop} (h : EvX G te T W) : EvX G (tLc (iList G.K (tCB rr (tCons te tNil))) g tt tel vs) T W := fun B H σ fr w Q => h B H σ fr w _
theorem ex_callTW {ι : Type} {As : ι → List Ty} {pre : ι → Prop} [ra : Rp α] {w : Ox α} {f : ι → Except Addr α} {E : L2.St → XK} {tr : TA} {x : ι} {C : Addr} (ha : EvAH G tr T (As x)) (hp : pre x) (hf : f x = .error C) : EvXT G (tCallS (SpW G.K As pre w f) E tr) T (fun σ H => E σ (.ref C) none H) := fun k B H σ fr Q => ha B H σ fr _ fun vs B1 H1 x1 ok =>
  ⟨H1, x, Same.refl _, hp, ok, fun b' e => (by rw [hf] at e; cases e), fun C' e H' s => by rw [hf] at e; cases e; exact k B1 H' σ ((fr.ext x1).ext (Ext.raise x1.s s))⟩
/-- a datum of a told form -/
theorem g_ofDA [ra : Rp α] [t : ToD α] {i : Nat} {a : α} {k : L2.St → Hp → Prop} (hi : T[i]? = some (.im rpD (ToD.d a))) (q : Goes G (T.set i (.im ra a)) k) : Goes G T k := g_as (r := rpD) (r' := ra) (b := a) hi (fun h => ToD.pr h) q
end
end DL
set_option Elab.async false
set_option linter.all false
set_option maxRecDepth 100000
set_option maxHeartbeats 4000000
namespace Law
open PySem PySem.Spec PyProof.Rows L2 DL
def topS (i : Nat) : Stmt := PySem.Challenge.pw_switchhall_k28_no_orders_for_words.main.body.getD i (.Pass ⟨0, 0, 0, 0⟩)
abbrev s_is_within : Stmt := topS 4
theorem sc_is_within : FnScope ["thing", "low", "high"] ["thing", "low", "high"] (defScope s_is_within) := ⟨rfl, rfl, rfl, by decide +kernel, rfl, by decide +kernel, by decide +kernel⟩
abbrev s_l_cell : Stmt := topS 15
theorem sc_l_cell : FnScope ["_law_script", "_law_k"] ["_law_script", "_law_k"] (defScope s_l_cell) := ⟨rfl, rfl, rfl, by decide +kernel, rfl, by decide +kernel, by decide +kernel⟩
abbrev s_l_mix : Stmt := topS 16
theorem sc_l_mix : FnScope ["_law_cell_here", "_law_prime", "_law_many"] ["_law_cell_here", "_law_prime", "_law_many"] (defScope s_l_mix) := ⟨rfl, rfl, rfl, by decide +kernel, rfl, by decide +kernel, by decide +kernel⟩
abbrev s_checked_order : Stmt := topS 6
theorem sc_checked_order : FnScope ["order", "number"] ["order"] (defScope s_checked_order) := ⟨rfl, rfl, rfl, by decide +kernel, rfl, by decide +kernel, by decide +kernel⟩
abbrev s_l_order : Stmt := topS 18
theorem sc_l_order : FnScope ["_law_script", "_law_at", "_law_many", "_law_k", "_law_keys", "_law_key"] ["_law_script", "_law_at", "_law_many"] (defScope s_l_order) := ⟨rfl, rfl, rfl, by decide +kernel, rfl, by decide +kernel, by decide +kernel⟩
abbrev s_l_large : Stmt := topS 17
theorem sc_l_large : FnScope ["_law_script"] ["_law_script"] (defScope s_l_large) := ⟨rfl, rfl, rfl, by decide +kernel, rfl, by decide +kernel, by decide +kernel⟩
abbrev s_after : Stmt := topS 7
theorem sc_after : FnScope ["order", "other", "first", "second", "place"] ["order", "other"] (defScope s_after) := ⟨rfl, rfl, rfl, by decide +kernel, rfl, by decide +kernel, by decide +kernel⟩
abbrev s_checked_orders : Stmt := topS 9
theorem sc_checked_orders : FnScope ["orders", "order", "found"] ["orders"] (defScope s_checked_orders) := ⟨rfl, rfl, rfl, by decide +kernel, rfl, by decide +kernel, by decide +kernel⟩
abbrev s_words : Stmt := topS 10
theorem sc_words : FnScope ["orders", "some", "here", "found", "todo", "at", "order", "come"] ["orders"] (defScope s_words) := ⟨rfl, rfl, rfl, by decide +kernel, rfl, by decide +kernel, by decide +kernel⟩
abbrev s_made : Stmt := topS 11
theorem sc_made : FnScope ["orders", "order"] ["orders"] (defScope s_made) := ⟨rfl, rfl, rfl, by decide +kernel, rfl, by decide +kernel, by decide +kernel⟩
abbrev s_word : Stmt := topS 12
theorem sc_word : FnScope ["orders", "goal", "found", "some"] ["orders", "goal"] (defScope s_word) := ⟨rfl, rfl, rfl, by decide +kernel, rfl, by decide +kernel, by decide +kernel⟩
abbrev s_makes : Stmt := topS 13
theorem sc_makes : FnScope ["orders", "some", "all_of_them", "found", "at"] ["orders", "some"] (defScope s_makes) := ⟨rfl, rfl, rfl, by decide +kernel, rfl, by decide +kernel, by decide +kernel⟩
abbrev s_l_orders : Stmt := topS 19
theorem sc_l_orders : FnScope ["_law_script", "_law_many", "_law_count", "_law_k"] ["_law_script"] (defScope s_l_orders) := ⟨rfl, rfl, rfl, by decide +kernel, rfl, by decide +kernel, by decide +kernel⟩
abbrev s_l_refused : Stmt := topS 20
theorem sc_l_refused : FnScope ["_law_orders_here", "_law_goal", "_law_way"] ["_law_orders_here", "_law_goal", "_law_way"] (defScope s_l_refused) := ⟨rfl, rfl, rfl, by decide +kernel, rfl, by decide +kernel, by decide +kernel⟩
abbrev s_l_by_base : Stmt := topS 21
theorem sc_l_by_base : FnScope ["_law_orders_here", "e"] ["_law_orders_here"] (defScope s_l_by_base) := ⟨rfl, rfl, rfl, by decide +kernel, rfl, by decide +kernel, by decide +kernel⟩
abbrev s_law : Stmt := topS 22
theorem sc_law : FnScope ["_law_script", "_law_orders_here", "_law_goal", "_law_odd", "_law_at", "_law_bad", "_law_way", "_law_none"] ["_law_script"] (defScope s_law) := ⟨rfl, rfl, rfl, by decide +kernel, rfl, by decide +kernel, by decide +kernel⟩
section
variable {P : Program} {w : World} {K : PySem.W.Frag} {mg : Str → Option Value} {base : Heap}
/-! ### is_within -/
abbrev SpWithin (K : PySem.W.Frag) : Sp := SpX K (fun x : D × Int × Int => [.im rpD x.1, .im rpInt x.2.1, .im rpInt x.2.2]) (fun _ => True) rpBool fun x => .ok (within x.1 x.2.1 x.2.2)
theorem ok_is_within (F : DefT K mg "is_within" s_is_within ["thing", "low", "high"]) (bl : Blt mg) : Def P w K mg base 1 "is_within" ["thing", "low", "high"] (SpWithin K) :=
  F.to fun f fd F => def_ok F sc_is_within (fun _ => rfl) fun cdv A outer s H E hr => ⟨_, (pss_one (ps_ret (pe_and (pe_callB (kr_isi K rfl) (by rfl) bl.isinstance (by decide +kernel) (pa_cons (pv 0) (pa_cons (pe_bltn (v := .ty "int") (by rfl) bl.int (by decide +kernel) rfl) pa_nil))) (pe_and (pe_not (pe_callB (kr_isi K rfl) (by rfl) bl.isinstance (by decide +kernel) (pa_cons (pv 0) (pa_cons (pe_bltn (v := .ty "bool") (by rfl) bl.bool (by decide +kernel) rfl) pa_nil)))) (pe_one (pe_chain op_le op_le (pv 1) (pv 0) (pv 2))))))), fun B x Q hp h1 h2 => by
    obtain ⟨d, lo, hi⟩ := x
    cases d with
    | int i => exact g_ret (EvD.is (ev_andV (ev_isi (b := true) (EvD.h (ev_var rfl)) fun _ => rfl) fun _ => ev_andV (ev_notV (ev_isi (b := false) (EvD.h (ev_var rfl)) fun _ => rfl)) fun _ => ev_chain (ev_var rfl) (EvD.ofD (a := i) (ev_var rfl)) (ev_var rfl)) rfl) (h1 _ rfl)
    | bl b => exact g_ret (EvD.is (ev_andV (b := false) (ev_isi (b := true) (EvD.h (ev_var rfl)) fun _ => rfl) fun _ => ev_andV (b := false) (ev_notV (ev_isi (b := true) (EvD.h (ev_var rfl)) fun _ => rfl)) fun h => Bool.noConfusion h) rfl) (h1 _ rfl)
    | _ => exact g_ret (EvD.is (ev_andV (b := false) (ev_isi (b := false) (EvD.h (ev_var rfl)) fun _ => rfl) fun h => Bool.noConfusion h) rfl) (h1 _ rfl)⟩
/-! ### cell -/
abbrev SpCell (K : PySem.W.Frag) : Sp := SpX K (fun x : Scr × Int => [.im rpScr x.1, .im rpInt x.2]) (fun x => 0 ≤ x.2) rpInt fun x => .ok (cell x.1 x.2)
theorem ok_cell (F : DefT K mg "_law_cell" s_l_cell ["_law_script", "_law_k"]) (bl : Blt mg) : Def P w K mg base 1 "_law_cell" ["_law_script", "_law_k"] (SpCell K) :=
  F.to fun f fd F => def_ok F sc_l_cell (fun _ => rfl) fun cdv A outer s H E hr => ⟨_, (pss_cons (ps_if (pt_cmpR op_lt (pv 1) (pe_callB (kr_len K rfl) (by rfl) bl.len PySem.boot_len (pa_cons (pv 0) pa_nil)) (nomark _)) (pss_one (ps_ret (pe_ix (kx_list K rfl) (pv 0) (pv 1) (fun _ _ => rfl)))) pss_nil)
    (pss_one (ps_ret pe_int))), fun B x Q hp h1 h2 => by
    obtain ⟨s, k⟩ := x
    have hp : 0 ≤ k := hp
    refine q_when (et_test (ev_opB (ev_var rfl) (ev_len (EvD.cs (ev_var rfl))))) (fun hb => ?_) (fun hb => ?_)
    · have hb : k < (s.cells.length : Int) := of_decide_eq_true hb
      have hk : k.toNat < s.cells.length := by omega
      have ek : (k.toNat : Int) = k := by omega
      have ea : atI s.cells k = some s.cells[k.toNat] := by
        have := atI_nat (List.getElem?_eq_getElem hk)
        rw [ek] at this
        exact this
      have e : cell s k = s.cells[k.toNat] := by unfold cell; rw [if_pos hb, ea] <;> rfl
      exact g_ret (EvD.is (ev_ix (EvD.cs (ev_var rfl)) (ev_var rfl) ea) e.symm) (h1 _ rfl)
    · have hb : ¬ k < (s.cells.length : Int) := of_decide_eq_false hb
      have e : cell s k = 0 := by unfold cell; rw [if_neg hb]
      exact g_ret (EvD.is ev_int e.symm) (h1 _ rfl)⟩
/-! ### mix -/
abbrev SpMix (K : PySem.W.Frag) : Sp := SpX K (fun x : Int × Int × Int => [.im rpInt x.1, .im rpInt x.2.1, .im rpInt x.2.2]) (fun x => 0 < x.2.1 ∧ 0 < x.2.2) rpInt fun x => .ok (mix x.1 x.2.1 x.2.2)
theorem ok_mix (F : DefT K mg "_law_mix" s_l_mix ["_law_cell_here", "_law_prime", "_law_many"]) : Def P w K mg base 1 "_law_mix" ["_law_cell_here", "_law_prime", "_law_many"] (SpMix K) :=
  F.to fun f fd F => def_ok F sc_l_mix (fun _ => rfl) fun cdv A outer s H E hr => ⟨_, (pss_one (ps_ret (pe_op op_mod (pe_op op_mod (pe_op op_mul (pv 0) pe_int) (pv 1)) (pv 2)))), fun B x Q hp h1 h2 => by
    obtain ⟨c, p, m⟩ := x
    exact g_ret (ev_opC (ev_opC (ev_opC (ev_var rfl) ev_int (.inr (by decide))) (ev_var rfl) hp.1) (ev_var rfl) hp.2) (h1 _ rfl)⟩
/-! ### checked_order -/
abbrev SpOrder (K : PySem.W.Frag) (C : Addr) : Sp := SpN K (fun d : D => [.im rpD d]) (fun _ => True) rpInt (ordE C)
theorem ok_checked_order {C : Addr} (F : DefT K mg "checked_order" s_checked_order ["order"]) (bl : Blt mg) (c_BadOrder : ECls K mg "BadOrder" C) (d_is_within : Def P w K mg base 1 "is_within" ["thing", "low", "high"] (SpWithin K)) :
    Def P w K mg base 2 "checked_order" ["order"] (SpOrder K C) :=
  F.to fun f fd F => def_okN F sc_checked_order (fun _ => rfl) fun cdv A outer s H E hr => ⟨_, (pss_cons (ps_if (PW.pt (pw_or (pt_not (pt_val (pe_callB (kr_isi K rfl) (by rfl) bl.isinstance (by decide +kernel) (pa_cons (pv 0) (pa_cons (pe_bltn (v := .ty "list") (by rfl) bl.list (by decide +kernel) rfl) pa_nil))))) (pw_or1 (pt_not (pt_chain op_le op_le pe_int (pe_callB (kr_len K rfl) (by rfl) bl.len PySem.boot_len (pa_cons (pv 0) pa_nil)) pe_int))))) (pss_one (ps_raise rfl (takes_of rfl rfl rfl rfl) c_BadOrder.pmk)) pss_nil)
    (pss_cons (ps_for (passes_of rfl) rfl (kp_list K rfl (pv 0)) (pg_name (i := 1) sc_checked_order.nd rfl (Or.inl rfl))
    (pss_one (ps_if (pt_not (pt_val (pe_callD d_is_within hr (by rfl) (passes_call (takes_of rfl rfl rfl rfl) (fun _ _ _ _ h => h)) (pa_cons (pv 1) (pa_cons pe_int (pa_cons (pe_op op_sub (pe_callB (kr_len K rfl) (by rfl) bl.len PySem.boot_len (pa_cons (pv 0) pa_nil)) pe_int) pa_nil)))))) (pss_one (ps_raise rfl (takes_of rfl rfl rfl rfl) c_BadOrder.pmk)) pss_nil)))
    (pss_cons (ps_if (pt_cmpR op_ne (ke_lenSet K rfl rfl (by rfl) bl.len (by rfl) bl.set (pv 0)) (pe_callB (kr_len K rfl) (by rfl) bl.len PySem.boot_len (pa_cons (pv 0) pa_nil)) (nomark _)) (pss_one (ps_raise rfl (takes_of rfl rfl rfl rfl) c_BadOrder.pmk)) pss_nil)
    (pss_one (ps_ret (pe_callTy (kr_list K rfl) (by rfl) bl.list (by decide +kernel) (pa_cons (pv 0) pa_nil))))))), fun B d Q hp h1 h2 => by
    have bad : ordOf d = none → ∀ H', Same H H' → E (.ref C) none H' := fun h => h2 C (by show (match ordOf d with | some xs => _ | none => _) = _; rw [h])
    refine g_any 1 ?_
    -- a list?
    by_cases hl : ∃ l, d = .lst l
    · obtain ⟨l, rfl⟩ := hl
      have eo : EvD ⟨K, B, H⟩ (tVar 0) [.im rpD (.lst l), .any] (@rpList D rpD) l := EvD.dl (ev_var rfl)
      show Goes ⟨K, B, H⟩ [.im rpD (.lst l), .any] _
      refine q_when (et_or (et_not (et_B (ev_isi (b := true) (EvD.h (ev_var rfl)) fun _ => rfl))) fun _ => et_not (et_test (ev_chain ev_int (ev_len (EvD.c eo)) ev_int))) (fun hb => ?_) (fun hb => ?_)
      · refine g_rs (bad ?_)
        show (if ordOk l = true then _ else none) = none
        refine if_neg fun z => ?_
        unfold ordOk at z
        rw [Bool.and_eq_true, decide_eq_true_eq] at z
        simp at hb
        omega
      · have hlen : 1 ≤ l.length ∧ l.length ≤ 16 := by
          simp at hb
          omega
        refine q_for (fun i T => T = [.im rpD (.lst l), .any] ∧ ∀ j x, j < i → l[j]? = some x → within x 0 ((l.length : Int) - 1) = true) (ei_list eo) ⟨rfl, fun j x h => absurd h (Nat.not_lt_zero _)⟩ (fun B1 u i x T hx hI => ?_) (fun T hI => ?_)
        · obtain ⟨rfl, hI⟩ := hI
          refine ⟨_, eg_name, ?_⟩
          refine g_when (et_not (et_B (ev_call (x := (x, 0, (l.length : Int) - 1)) (ea_cons (ev_var rfl) (ea_cons ev_int (ea_cons (ev_opI (ev_len (EvD.c (EvD.dl (ev_var rfl)))) ev_int) ea_nil))) trivial rfl))) (fun hb => ?_) (fun hb => ?_)
          · refine g_rs (bad ?_)
            show (if ordOk l = true then _ else none) = none
            refine if_neg fun z => ?_
            unfold ordOk at z
            rw [Bool.and_eq_true, Bool.and_eq_true, List.all_eq_true] at z
            have := z.2.1 x (List.mem_of_getElem? hx)
            simp only [this] at hb
            cases hb
          · refine g_any 1 (g_at ⟨rfl, fun j y hj hy => ?_⟩)
            by_cases e : j = i
            · subst e
              rw [hx] at hy
              cases hy
              simpa using hb
            · exact hI j y (by omega) hy
        · obtain ⟨rfl, hI⟩ := hI
          have hall : ∀ x ∈ l, within x 0 ((l.length : Int) - 1) = true := fun x hx => by
            obtain ⟨j, hj, e⟩ := List.getElem_of_mem hx
            exact hI j x hj (by rw [List.getElem?_eq_getElem hj, e])
          have el := all_int hall
          have ei : EvD ⟨K, B, H⟩ (tVar 0) [.im rpD (.lst l), .any] (@rpList Int rpInt) (l.map D.toI) := EvD.ofD (EvD.is (ev_var rfl) (by show D.lst l = D.lst ((l.map D.toI).map D.int); rw [← el]))
          refine q_when (et_test (ev_neI (ev_lenSet (EvD.c ei) (by rw [List.length_map]; omega)) (ev_len (EvD.c ei)))) (fun hb => ?_) (fun hb => ?_)
          · refine g_rs (bad ?_)
            show (if ordOk l = true then _ else none) = none
            refine if_neg fun z => ?_
            unfold ordOk at z
            rw [Bool.and_eq_true, Bool.and_eq_true, decide_eq_true_eq, decide_eq_true_eq] at z
            have := z.2.2
            rw [List.length_map, this] at hb
            simp at hb
          · refine g_retN (ev_list (EvD.c ei)) (h1 _ ?_)
            have z : ordOk l = true := by
              unfold ordOk
              rw [Bool.and_eq_true, Bool.and_eq_true, decide_eq_true_eq, decide_eq_true_eq, List.all_eq_true]
              refine ⟨hlen, hall, ?_⟩
              rw [List.length_map] at hb
              simp at hb
              omega
            show (match (if ordOk l = true then some (l.map D.toI) else none) with | some xs => Except.ok xs | none => Except.error C) = _
            rw [if_pos z]
    · have hn : ordOf d = none := by
        cases d with
        | lst l => exact absurd ⟨l, rfl⟩ hl
        | _ => rfl
      refine q_when (b := true) (EvT.is (et_or (b := false) (et_not (et_B (ev_isi (b := false) (EvD.h (ev_var rfl)) fun K => ?_))) fun h => Bool.noConfusion h) rfl) (fun hb => g_rs (bad hn)) (fun hb => Bool.noConfusion hb)
      · cases d with
        | lst l => exact absurd ⟨l, rfl⟩ hl
        | _ => rfl⟩
/-! ### order -/
abbrev SpLorder (K : PySem.W.Frag) : Sp := SpN K (fun x : Scr × Int × Int => [.im rpScr x.1, .im rpInt x.2.1, .im rpInt x.2.2]) (fun x => 0 ≤ x.2.1 ∧ 0 ≤ x.2.2 ∧ x.2.2 ≤ 1000) rpInt fun x => .ok (orderL x.1 x.2.1 x.2.2)
theorem ok_order (F : DefT K mg "_law_order" s_l_order ["_law_script", "_law_at", "_law_many"]) (bl : Blt mg) (d_l_cell : Def P w K mg base 1 "_law_cell" ["_law_script", "_law_k"] (SpCell K)) (d_l_mix : Def P w K mg base 1 "_law_mix" ["_law_cell_here", "_law_prime", "_law_many"] (SpMix K)) :
    Def P w K mg base 2 "_law_order" ["_law_script", "_law_at", "_law_many"] (SpLorder K) :=
  F.to fun f fd F => def_okN F sc_l_order (fun _ => rfl) fun cdv A outer s H E hr => ⟨_, (pss_cons (ps_setLc (i := 4) (own := [("_law_k", 3)]) (g := gName 3) (tt := tYes) rfl sc_l_order.nd rfl rfl (sw_true rfl rfl rfl (by decide +kernel)) (pi_range1 (by rfl) bl.range (pa_cons (pv 2) pa_nil)) (blkOk_by (own := [("_law_k", 3)]) (N := ["_law_script", "_law_at", "_law_many", "_law_k", "_law_keys", "_law_key"]) (sc := defScope s_l_order) (by decide +kernel)) (fun _ _ _ _ _ => (pg_name (i := 3) sc_l_order.nd rfl (Or.inl rfl))) (fun _ _ _ _ _ => pts_nil) (fun _ _ _ _ _ => (pe_tup (pa_cons (pe_callD d_l_mix hr (by rfl) passL (pa_cons (pe_op op_add (pe_callD d_l_cell hr (by rfl) passL (pa_cons (pv 0) (pa_cons (pe_op op_add (pv 1) (pv 3)) pa_nil))) (pe_op op_mul (pe_op op_mul pe_int (pv 3)) (pv 3))) (pa_cons pe_int (pa_cons pe_int pa_nil)))) (pa_cons (pv 3) pa_nil)))))
    (pss_one (ps_ret (pe_lc (own := [("_law_key", 5)]) (g := gName 5) (tt := tYes) rfl sc_l_order.nd (kp_list K rfl (pe_callB (kr_sortedP K rfl) (by rfl) bl.sorted (by decide +kernel) (pa_cons (pv 4) pa_nil))) (blkOk_by (own := [("_law_key", 5)]) (N := ["_law_script", "_law_at", "_law_many", "_law_k", "_law_keys", "_law_key"]) (sc := defScope s_l_order) (by decide +kernel)) (fun _ _ _ _ _ => (pg_name (i := 5) sc_l_order.nd rfl (Or.inl rfl))) (fun _ _ _ _ _ => pts_nil) (fun _ _ _ _ _ => (pe_ix (kx_tup K rfl) (pv 5) pe_int (fun _ _ => rfl))))))), fun B x Q hp h1 h2 => by
    obtain ⟨s, at_, m⟩ := x
    obtain ⟨h0, hm0, hm⟩ : 0 ≤ at_ ∧ 0 ≤ m ∧ m ≤ 1000 := hp
    show Goes ⟨K, B, H⟩ [.im rpScr s, .im rpInt at_, .im rpInt m, .un, .un, .un] _
    refine q_asgN (ev_lcA (fun k => (mix (cell s (at_ + k) + 29 * k * k) 9931 997, k)) (ei_rng1 (ev_var rfl) (by omega) (by omega)) (own_name (by decide)) (fun k hk => ⟨_, eg_name, ?_⟩) (by rw [rng_len]; omega)) ?_
    · have hk0 : 0 ≤ k ∧ k ≤ 1000 := by
        obtain ⟨j, hj, e⟩ := List.getElem_of_mem hk
        have := rng_get (List.getElem?_eq_getElem hj ▸ congrArg some e : (rng 0 m.toNat)[j]? = some k)
        omega
      exact ev_pair (ev_call (x := (cell s (at_ + k) + 29 * k * k, 9931, 997)) (ea_cons (ev_opI (ev_call (x := (s, at_ + k)) (ea_cons (ev_var rfl) (ea_cons (ev_opI (ev_var rfl) (ev_var rfl)) ea_nil)) (show 0 ≤ at_ + k by omega) rfl) (ev_opC (ev_opC ev_int (ev_var rfl) (.inl (by decide))) (ev_var rfl) (.inr (by constructor <;> omega)))) (ea_cons ev_int (ea_cons ev_int ea_nil))) ⟨show (0 : Int) < 9931 by decide, show (0 : Int) < 997 by decide⟩ rfl) (ev_var rfl)
    · refine g_retN (ev_lcA (fun p => p.2) (ei_list (EvN.d (ev_sortedP (ys := sort2 (orderKeys s at_ m)) (ev_varM rfl) (sort2_perm _) (sort2_le _)))) (own_name (by decide)) (fun x hx => ⟨_, eg_name, ev_snd (ev_var rfl)⟩) ?_) (h1 _ rfl)
      rw [sort2_len]
      show (List.map _ _).length ≤ _
      rw [List.length_map, rng_len]
      omega⟩
/-! ### large -/
def slarge (s : Scr) : Bool := decide (mix (cell s 0 + 7 * s.cells.length) 9871 8 = 3)
abbrev SpLarge (K : PySem.W.Frag) : Sp := SpX K (fun s : Scr => [.im rpScr s]) (fun s => s.cells.length ≤ 63) rpBool fun s => .ok (slarge s)
theorem ok_large (F : DefT K mg "_law_large" s_l_large ["_law_script"]) (bl : Blt mg) (d_l_cell : Def P w K mg base 1 "_law_cell" ["_law_script", "_law_k"] (SpCell K)) (d_l_mix : Def P w K mg base 1 "_law_mix" ["_law_cell_here", "_law_prime", "_law_many"] (SpMix K)) : Def P w K mg base 2 "_law_large" ["_law_script"] (SpLarge K) :=
  F.to fun f fd F => def_ok F sc_l_large (fun _ => rfl) fun cdv A outer s H E hr => ⟨_, (pss_one (ps_ret (pe_cmpR op_eq (pe_callD d_l_mix hr (by rfl) (passes_call (takes_of rfl rfl rfl rfl) (fun _ _ _ _ h => h)) (pa_cons (pe_op op_add (pe_callD d_l_cell hr (by rfl) (passes_call (takes_of rfl rfl rfl rfl) (fun _ _ _ _ h => h)) (pa_cons (pv 0) (pa_cons pe_int pa_nil))) (pe_op op_mul pe_int (pe_callB (kr_len K rfl) (by rfl) bl.len PySem.boot_len (pa_cons (pv 0) pa_nil)))) (pa_cons pe_int (pa_cons pe_int pa_nil)))) pe_int (nomark _)))), fun B s Q hp h1 h2 => by
    have hp : s.cells.length ≤ 63 := hp
    show Goes ⟨K, B, H⟩ [.im rpScr s] _
    exact g_ret (ev_eqI (ev_call (x := (cell s 0 + 7 * s.cells.length, 9871, 8)) (ea_cons (ev_opI (ev_call (x := (s, 0)) (ea_cons (ev_var rfl) (ea_cons ev_int ea_nil)) (Int.le_refl 0) rfl) (ev_opC ev_int (ev_len (EvD.cs (ev_var rfl))) (.inr (by constructor <;> omega)))) (ea_cons ev_int (ea_cons ev_int ea_nil))) ⟨show (0 : Int) < 9871 by decide, show (0 : Int) < 8 by decide⟩ rfl) ev_int) (h1 _ rfl)⟩
/-! ### after -/
/-- first the one, then the other -/
def aft (xs ys : List Int) : List Int := xs.map fun p => ys.getD p.toNat 0
def aftE (C : Addr) (x : D × D) : Except Addr (List Int) := match ordOf x.1, ordOf x.2 with
  | some xs, some ys => if xs.length = ys.length then .ok (aft xs ys) else .error C
  | _, _ => .error C
theorem aftE_ok {C : Addr} {xs ys : List Int} (h1 : IsOrd xs) (h2 : IsOrd ys) (h : xs.length = ys.length) : aftE C (ToD.d xs, ToD.d ys) = .ok (aft xs ys) := by
  unfold aftE
  rw [show ordOf (ToD.d xs, ToD.d ys).1 = some xs from ordOf_ord h1, show ordOf (ToD.d xs, ToD.d ys).2 = some ys from ordOf_ord h2]
  exact if_pos h
abbrev SpAfter (K : PySem.W.Frag) (C : Addr) : Sp := SpN K (fun x : D × D => [.im rpD x.1, .im rpD x.2]) (fun _ => True) rpInt (aftE C)
theorem ok_after {C : Addr} (F : DefT K mg "after" s_after ["order", "other"]) (bl : Blt mg) (c_BadOrder : ECls K mg "BadOrder" C) (d_checked_order : Def P w K mg base 2 "checked_order" ["order"] (SpOrder K C)) :
    Def P w K mg base 3 "after" ["order", "other"] (SpAfter K C) :=
  F.to fun f fd F => def_okN F sc_after (fun _ => rfl) fun cdv A outer s H E hr => ⟨_, (pss_cons (ps_set (i := 2) sc_after.nd rfl (Or.inl rfl) (pe_callD d_checked_order hr (by rfl) (passes_call (takes_of rfl rfl rfl rfl) (fun _ _ _ _ h => h)) (pa_cons (pv 0) pa_nil)))
    (pss_cons (ps_set (i := 3) sc_after.nd rfl (Or.inr rfl) (pe_callD d_checked_order hr (by rfl) (passes_call (takes_of rfl rfl rfl rfl) (fun _ _ _ _ h => h)) (pa_cons (pv 1) pa_nil)))
    (pss_cons (ps_if (pt_cmpR op_ne (pe_callB (kr_len K rfl) (by rfl) bl.len PySem.boot_len (pa_cons (pv 2) pa_nil)) (pe_callB (kr_len K rfl) (by rfl) bl.len PySem.boot_len (pa_cons (pv 3) pa_nil)) (nomark _)) (pss_one (ps_raise rfl (takes_of rfl rfl rfl rfl) c_BadOrder.pmk)) pss_nil)
    (pss_one (ps_ret (pe_lc (own := [("place", 4)]) (g := gName 4) (tt := tYes) rfl sc_after.nd (kp_list K rfl (pv 2)) (blkOk_by (own := [("place", 4)]) (N := ["order", "other", "first", "second", "place"]) (sc := defScope s_after) (by decide +kernel)) (fun _ _ _ _ _ => (pg_name (i := 4) sc_after.nd rfl (Or.inl rfl))) (fun _ _ _ _ _ => pts_nil) (fun _ _ _ _ _ => (pe_ix (kx_list K rfl) (pv 3) (pv 4) (fun _ _ => rfl))))))))), fun B x Q hp h1 h2 => by
    obtain ⟨d, d'⟩ := x
    show Goes ⟨K, B, H⟩ [.im rpD d, .im rpD d', .un, .un, .un] _
    cases ho : ordOf d with
    | none => exact gx_asg (ex_callN (x := d) (eah_cons (EvD.h (ev_var rfl)) eah_nil) trivial (by unfold ordE; rw [ho])) (h2 C (by unfold aftE; rw [ho]))
    | some xs =>
      have hx := (ordOf_is ho).1
      refine q_asg (EvN.d (ev_callN (x := d) (b := xs) (ea_cons (ev_var rfl) ea_nil) trivial (by unfold ordE; rw [ho]))) ?_
      cases ho' : ordOf d' with
      | none => exact gx_asg (ex_callN (x := d') (eah_cons (EvD.h (ev_var rfl)) eah_nil) trivial (by unfold ordE; rw [ho'])) (h2 C (by unfold aftE; rw [ho, ho']))
      | some ys =>
        have hy := (ordOf_is ho').1
        refine q_asg (EvN.d (ev_callN (x := d') (b := ys) (ea_cons (ev_var rfl) ea_nil) trivial (by unfold ordE; rw [ho']))) ?_
        refine q_when (et_test (ev_neI (ev_len (EvD.c (ev_var rfl))) (ev_len (EvD.c (ev_var rfl))))) (fun hb => ?_) (fun hb => ?_)
        · refine g_rs (h2 C ?_)
          unfold aftE
          rw [ho, ho']
          refine if_neg fun z => ?_
          rw [z] at hb
          simp at hb
        · have hl : xs.length = ys.length := by simp at hb; omega
          refine g_retN (ev_lcA (fun p => ys.getD p.toNat 0) (ei_list (ev_var rfl)) (own_name (by decide)) (fun p hp => ⟨_, eg_name, ev_ix (EvD.c (ev_var rfl)) (ev_var rfl) (atI_toNat (hx.2.2.1 p hp).1 (getD_int (by have := hx.2.2.1 p hp; omega)))⟩) (by have := hx.2.1; omega)) (h1 _ ?_)
          unfold aftE
          rw [ho, ho']
          exact if_pos hl⟩
/-! ### dictmath -/
theorem sub_len2 : ∀ (xs ys : List Int), xs.Nodup → (∀ x ∈ xs, x ∈ ys) → xs.length ≤ ys.length
  | [], _, _, _ => Nat.zero_le _
  | x :: xs, ys, h, hs => by
    obtain ⟨h1, h2⟩ := List.nodup_cons.mp h
    have hx := hs x List.mem_cons_self
    have := sub_len2 xs (ys.erase x) h2 fun y hy => (List.mem_erase_of_ne fun z => h1 (by rw [← z]; exact hy)).mpr (hs y (List.mem_cons_of_mem _ hy))
    rw [List.length_erase_of_mem hx] at this
    have hp := List.length_pos_of_mem hx
    rw [List.length_cons]
    omega
theorem look_put {β : Type} {i k : Int} {b : β} : ∀ {kv : List (Int × β)}, lookI k (putI i b kv) = if k = i then some b else lookI k kv := by
  have app : ∀ kv : List (Int × β), (kv.any fun p => decide (p.1 = i)) = false → lookI k (kv ++ [(i, b)]) = if k = i then some b else lookI k kv := fun kv => by
    induction kv with
    | nil =>
      intro _
      show (if i = k then some b else none) = if k = i then some b else none
      by_cases e : i = k
      · rw [if_pos e, if_pos e.symm]
      · rw [if_neg e, if_neg fun z => e z.symm]
    | cons p r ih =>
      intro h
      obtain ⟨j, c⟩ := p
      rw [List.any_cons, Bool.or_eq_false_iff] at h
      show (if j = k then some c else lookI k (r ++ [(i, b)])) = if k = i then some b else if j = k then some c else lookI k r
      by_cases e : j = k
      · rw [if_pos e, if_pos e, if_neg fun z => by rw [decide_eq_true (e.trans z)] at h; cases h.1]
      · rw [if_neg e, if_neg e, ih h.2]
  have mp : ∀ kv : List (Int × β), (kv.any fun p => decide (p.1 = i)) = true → lookI k (kv.map fun p => if p.1 = i then (p.1, b) else p) = if k = i then some b else lookI k kv := fun kv => by
    induction kv with
    | nil => intro h; cases h
    | cons p r ih =>
      intro h
      obtain ⟨j, c⟩ := p
      have same : (r.any fun p => decide (p.1 = i)) = false → lookI k (r.map fun p => if p.1 = i then (p.1, b) else p) = lookI k r := fun hr => by
        congr 1
        conv => rhs; rw [← List.map_id r]
        refine List.map_congr_left fun q hq => ?_
        rw [List.any_eq_false] at hr
        have := hr q hq
        rw [if_neg (by simpa using this)]
        rfl
      rw [List.map_cons]
      by_cases e : j = i
      · subst e
        dsimp only
        rw [if_pos rfl]
        show (if j = k then some b else lookI k _) = if k = j then some b else if j = k then some c else lookI k r
        by_cases e2 : j = k
        · rw [if_pos e2, if_pos e2.symm]
        · rw [if_neg e2, if_neg (fun z => e2 z.symm), if_neg e2]
          cases hr : r.any fun p => decide (p.1 = j) with
          | true =>
            rw [ih hr, if_neg fun z => e2 z.symm]
          | false => exact same hr
      · dsimp only
        rw [if_neg e]
        rw [List.any_cons, show decide ((j, c).1 = i) = false from decide_eq_false e, Bool.false_or] at h
        show (if j = k then some c else lookI k _) = if k = i then some b else if j = k then some c else lookI k r
        by_cases e2 : j = k
        · rw [if_pos e2, if_pos e2, if_neg fun z => e (e2.trans z)]
        · rw [if_neg e2, if_neg e2, ih h]
  intro kv
  unfold putI
  split
  · exact mp kv (by assumption)
  · rename_i h
    exact app kv (Bool.eq_false_iff.mpr h)
theorem look_key {β : Type} {n : Int} : ∀ {kv : List (Int × β)} {b : β}, lookI n kv = some b → n ∈ kv.map (fun p => p.1)
  | [], _, h => by cases h
  | (k, c) :: r, b, h => by
    by_cases e : k = n
    · rw [List.map_cons, e]; exact List.mem_cons_self
    · have h : lookI n r = some b := (if_neg e).symm.trans h
      exact List.mem_cons_of_mem _ (look_key h)
theorem put_keys {β : Type} {i : Int} {b : β} {kv : List (Int × β)} : (putI i b kv).map (fun p => p.1) = if i ∈ kv.map (fun p => p.1) then kv.map (fun p => p.1) else kv.map (fun p => p.1) ++ [i] := by
  have hm : ((kv.any fun p => decide (p.1 = i)) = true) ↔ i ∈ kv.map (fun p => p.1) := by
    rw [List.any_eq_true, List.mem_map]
    exact ⟨fun ⟨p, a, e⟩ => ⟨p, a, of_decide_eq_true e⟩, fun ⟨p, a, e⟩ => ⟨p, a, decide_eq_true e⟩⟩
  unfold putI
  by_cases h : i ∈ kv.map (fun p => p.1)
  · rw [if_pos h, if_pos (hm.mpr h), List.map_map]
    refine List.map_congr_left fun p _ => ?_
    show (if p.1 = i then (p.1, b) else p).1 = p.1
    split <;> rfl
  · rw [if_neg h, if_neg fun z => h (hm.mp z), List.map_append]
    rfl
theorem look_mem {β : Type} {n : Int} : ∀ {kv : List (Int × β)}, n ∈ kv.map (fun p => p.1) → ∃ b, lookI n kv = some b
  | [], h => by cases h
  | (k, c) :: r, h => by
    by_cases e : k = n
    · exact ⟨c, if_pos e⟩
    · rw [List.map_cons] at h
      rcases List.mem_cons.mp h with h | h
      · exact absurd h.symm e
      · obtain ⟨b, hb⟩ := look_mem h
        exact ⟨b, (if_neg e).trans hb⟩
theorem no_key {β : Type} {n : Int} {kv : List (Int × β)} (h : lookI n kv = none) : n ∉ kv.map fun p => p.1 := fun z => by
  obtain ⟨b, hb⟩ := look_mem z
  rw [h] at hb
  cases hb
theorem no_look {β : Type} {n : Int} {kv : List (Int × β)} (h : n ∉ kv.map fun p => p.1) : lookI n kv = none := by
  cases e : lookI n kv with
  | none => rfl
  | some b => exact absurd (look_key e) h
/-! ### wordmath -/
theorem wenum_at {α : Type} {xs : List α} {k : Nat} {x : α} (h : xs[k]? = some x) : (enumI xs)[k]? = some ((k : Int), x) := by
  have hk := (List.getElem?_eq_some_iff.mp h).1
  obtain ⟨y, hy⟩ : ∃ y, (enumI xs)[k]? = some y := ⟨_, List.getElem?_eq_getElem (by rw [enumI_len]; exact hk)⟩
  obtain ⟨e1, e2⟩ := enumI_get hy
  rw [hy, h] at *
  rw [show y = ((k : Int), x) from Prod.ext e2 (Option.some.inj e1).symm]
theorem waft_len (xs ys : List Int) : (aft xs ys).length = xs.length := by unfold aft; rw [List.length_map]
theorem waft_getD {xs ys : List Int} {i : Nat} (h : i < xs.length) : (aft xs ys).getD i 0 = ys.getD (xs.getD i 0).toNat 0 := by
  have e : xs.getD i 0 = xs[i] := by rw [List.getD_eq_getElem?_getD, List.getElem?_eq_getElem h]; rfl
  unfold aft
  rw [e, List.getD_eq_getElem?_getD, List.getElem?_map, List.getElem?_eq_getElem h]
  rfl
theorem word_aft {xs ys : List Int} (hx : IsOrd xs) (hy : IsOrd ys) (hl : xs.length = ys.length) : IsOrd (aft xs ys) := by
  refine ord_of_get (by rw [waft_len]; exact hx.1) (by rw [waft_len]; exact hx.2.1) (fun i hi => ?_) (fun i j hi hj e => ?_)
  · rw [waft_len] at hi ⊢
    rw [waft_getD hi]
    have h1 := ord_getD hx hi
    have h2 := ord_getD hy (i := (xs.getD i 0).toNat) (by omega)
    omega
  · rw [waft_len] at hi hj
    rw [waft_getD hi, waft_getD hj] at e
    have h1 := ord_getD hx hi
    have h2 := ord_getD hx hj
    have h3 := ord_inj hy (by omega) (by omega) e
    exact ord_inj hx hi hj (by omega)
/-- shorter, or as long and ahead -/
def lxl : List Int → List Int → Prop
  | x :: xs, y :: ys => x < y ∨ (x = y ∧ lxl xs ys)
  | _, _ => False
def slt (u v : List Int) : Prop := u.length < v.length ∨ (u.length = v.length ∧ lxl u v)
def sle (u v : List Int) : Prop := u = v ∨ slt u v
theorem lxl_snoc {a b : Int} : ∀ {u v : List Int}, lxl u v → lxl (u ++ [a]) (v ++ [b])
  | [], _, h => by unfold lxl at h; exact h.elim
  | _ :: _, [], h => by unfold lxl at h; exact h.elim
  | x :: u, y :: v, h => by
    rcases h with h | ⟨h1, h2⟩
    · exact .inl h
    · exact .inr ⟨h1, lxl_snoc h2⟩
theorem lxl_last {a b : Int} (h : a < b) : ∀ u : List Int, lxl (u ++ [a]) (u ++ [b])
  | [] => .inl h
  | x :: u => .inr ⟨rfl, lxl_last h u⟩
theorem lxl_trans : ∀ {u v w : List Int}, lxl u v → lxl v w → lxl u w
  | [], _, _, h, _ => by unfold lxl at h; exact h.elim
  | _ :: _, [], _, h, _ => by unfold lxl at h; exact h.elim
  | _ :: _, _ :: _, [], _, h => by unfold lxl at h; exact h.elim
  | x :: u, y :: v, z :: w, h1, h2 => by
    rcases h1 with h1 | ⟨h1, k1⟩ <;> rcases h2 with h2 | ⟨h2, k2⟩
    · exact .inl (by omega)
    · exact .inl (by omega)
    · exact .inl (by omega)
    · exact .inr ⟨by omega, lxl_trans k1 k2⟩
theorem slt_snoc {a b : Int} {u v : List Int} (h : slt u v) : slt (u ++ [a]) (v ++ [b]) := by
  rcases h with h | ⟨h1, h2⟩
  · exact .inl (by rw [List.length_append, List.length_append]; simp; omega)
  · exact .inr ⟨by rw [List.length_append, List.length_append, h1]; rfl, lxl_snoc h2⟩
theorem slt_last {a b : Int} (h : a < b) (u : List Int) : slt (u ++ [a]) (u ++ [b]) := .inr ⟨by rw [List.length_append, List.length_append]; rfl, lxl_last h u⟩
theorem slt_trans {u v w : List Int} (h1 : slt u v) (h2 : slt v w) : slt u w := by
  rcases h1 with h1 | ⟨h1, k1⟩ <;> rcases h2 with h2 | ⟨h2, k2⟩
  · exact .inl (by omega)
  · exact .inl (by omega)
  · exact .inl (by omega)
  · exact .inr ⟨by omega, lxl_trans k1 k2⟩
theorem slt_nil (u : List Int) (a : Int) : slt [] (u ++ [a]) := .inl (by rw [List.length_append]; simp)
theorem sle_trans {u v w : List Int} (h1 : sle u v) (h2 : sle v w) : sle u w := by
  rcases h1 with rfl | h1
  · exact h2
  · rcases h2 with rfl | h2
    · exact .inr h1
    · exact .inr (slt_trans h1 h2)
theorem sle_snoc {a : Int} {u v : List Int} (h : sle u v) : sle (u ++ [a]) (v ++ [a]) := by
  rcases h with rfl | h
  · exact .inl rfl
  · exact .inr (slt_snoc h)
abbrev Ords := List (List Int)
structure OsOk (os : Ords) (n : Nat) : Prop where
  c1 : 1 ≤ os.length
  c4 : os.length ≤ 4
  n5 : n ≤ 5
  n1 : 1 ≤ n
  ord : ∀ o ∈ os, IsOrd o ∧ o.length = n
def idn (n : Nat) : List Int := rng 0 n
def byL (os : Ords) (n : Nat) (w : List Int) : List Int := w.foldl (fun row a => aft row (os.getD a.toNat [])) (idn n)
theorem byL_snoc (os : Ords) (n : Nat) (w : List Int) (a : Int) : byL os n (w ++ [a]) = aft (byL os n w) (os.getD a.toNat []) := by
  unfold byL
  rw [List.foldl_append]
  rfl
abbrev Fnd := List (List Int × List Int)
def keysT (F : Fnd) : List (List Int) := F.map fun p => p.1
theorem lookT_none {F : Fnd} {c : List Int} (h : lookT c F = none) : c ∉ keysT F := by
  induction F with
  | nil => intro z; cases z
  | cons p F ih =>
    unfold lookT at h
    split at h
    · cases h
    · rename_i e
      intro z
      rcases List.mem_cons.mp z with z | z
      · exact e z.symm
      · exact ih h z
theorem lookT_some {F : Fnd} {c w : List Int} (h : lookT c F = some w) : (c, w) ∈ F := by
  induction F with
  | nil => cases h
  | cons p F ih =>
    unfold lookT at h
    split at h
    · rename_i e
      cases h
      rw [← e]
      exact List.mem_cons_self
    · exact List.mem_cons_of_mem _ (ih h)
theorem lookT_mem {F : Fnd} (hn : (keysT F).Nodup) {p : List Int × List Int} (h : p ∈ F) : lookT p.1 F = some p.2 := by
  induction F with
  | nil => cases h
  | cons q F ih =>
    obtain ⟨h1, h2⟩ := List.nodup_cons.mp hn
    unfold lookT
    rcases List.mem_cons.mp h with rfl | h
    · exact if_pos rfl
    · have hne : q.1 ≠ p.1 := fun z => h1 (List.mem_map.mpr ⟨p, h, z.symm⟩)
      rw [if_neg hne]
      exact ih h2 h
def stepW (h : List Int × List Int) (F : Fnd) (p : Int × List Int) : Fnd := if lookT (aft h.1 p.2) F = none then F ++ [(aft h.1 p.2, h.2 ++ [p.1])] else F
def expW (os : Ords) (h : List Int × List Int) (F : Fnd) (j : Nat) : Fnd := ((enumI os).take j).foldl (stepW h) F
def bfsF (os : Ords) (n : Nat) : Nat → Fnd
  | 0 => [(idn n, [])]
  | k + 1 => match (bfsF os n k)[k]? with
    | some h => expW os h (bfsF os n k) os.length
    | none => bfsF os n k
@[irreducible] def wordsF (os : Ords) (n : Nat) : Fnd := bfsF os n 4000
theorem wordsF_is (os : Ords) (n : Nat) : wordsF os n = bfsF os n 4000 := by unfold wordsF; rfl
structure WB (os : Ords) (n : Nat) (F : Fnd) : Prop where
  nd : (keysT F).Nodup
  ord : ∀ p ∈ F, IsOrd p.1 ∧ p.1.length = n
  inc : F.Pairwise fun p q => slt p.2 q.2
  snd : ∀ p ∈ F, (∀ a ∈ p.2, 0 ≤ a ∧ a < (os.length : Int)) ∧ byL os n p.2 = p.1
  root : (idn n, []) ∈ F
  wl : ∀ p ∈ F, p.2.length < F.length
structure WI (os : Ords) (n k : Nat) (F : Fnd) : Prop where
  b : WB os n F
  len : k ≤ F.length
  bd : ∀ q ∈ F, ∀ p ∈ F.drop k, slt q.2 (p.2 ++ [0])
  cl : ∀ p ∈ F.take k, ∀ (a : Nat) o, os[a]? = some o → ∃ q ∈ F, q.1 = aft p.1 o ∧ sle q.2 (p.2 ++ [(a : Int)])
structure WJ (os : Ords) (n : Nat) (F0 : Fnd) (h : List Int × List Int) (j : Nat) (F : Fnd) : Prop where
  b : WB os n F
  ext : ∃ R, F = F0 ++ R
  bd : ∀ q ∈ F, slt q.2 (h.2 ++ [(j : Int)])
  cl : ∀ (a : Nat) o, a < j → os[a]? = some o → ∃ q ∈ F, q.1 = aft h.1 o ∧ sle q.2 (h.2 ++ [(a : Int)])
theorem idn_ord {n : Nat} (h1 : 1 ≤ n) (h5 : n ≤ 5) : IsOrd (idn n) := by
  have hg : ∀ i, i < n → (idn n).getD i 0 = i := fun i hi => by
    unfold idn rng
    rw [List.getD_eq_getElem?_getD, List.getElem?_map, List.getElem?_range hi]
    show (0 : Int) + i = i
    omega
  have hl : (idn n).length = n := rng_len
  refine ord_of_get (by rw [hl]; exact h1) (by rw [hl]; omega) (fun i hi => ?_) (fun i j hi hj e => ?_)
  · rw [hl] at hi ⊢
    rw [hg i hi]
    omega
  · rw [hl] at hi hj
    rw [hg i hi, hg j hj] at e
    omega
theorem WI.zero {os : Ords} {n : Nat} (ho : OsOk os n) : WI os n 0 [(idn n, [])] where
  b := {
    nd := List.nodup_cons.mpr ⟨fun z => (by cases z), List.nodup_nil⟩
    ord := fun p hp => by
      rw [List.mem_singleton.mp hp]
      exact ⟨idn_ord ho.n1 ho.n5, rng_len⟩
    inc := List.pairwise_singleton _ _
    snd := fun p hp => by
      rw [List.mem_singleton.mp hp]
      exact ⟨fun a ha => (by cases ha), rfl⟩
    root := List.mem_singleton.mpr rfl
    wl := fun p hp => by
      rw [List.mem_singleton.mp hp]
      exact Nat.zero_lt_one }
  len := Nat.zero_le _
  bd := fun q hq p hp => by
    rw [List.mem_singleton.mp hq]
    exact slt_nil _ _
  cl := fun p hp => by cases hp
theorem WI.jzero {os : Ords} {n k : Nat} {F : Fnd} (w : WI os n k F) {h : List Int × List Int} (hk : F[k]? = some h) : WJ os n F h 0 F where
  b := w.b
  ext := ⟨[], by rw [List.append_nil]⟩
  bd := fun q hq => w.bd q hq h (by
    obtain ⟨h1, h2⟩ := List.getElem?_eq_some_iff.mp hk
    rw [List.drop_eq_getElem_cons h1, h2]
    exact List.mem_cons_self)
  cl := fun a o ha => by omega
theorem WJ.step {os : Ords} {n : Nat} {F0 F : Fnd} {h : List Int × List Int} {j : Nat} (ho : OsOk os n) (w : WJ os n F0 h j F) (hh : h ∈ F0) {o : List Int} (hj : os[j]? = some o) : WJ os n F0 h (j + 1) (stepW h F ((j : Int), o)) := by
  obtain ⟨R, hR⟩ := w.ext
  have hF : h ∈ F := by rw [hR]; exact List.mem_append_left _ hh
  have hoo := ho.ord o (List.mem_of_getElem? hj)
  have hjl := (List.getElem?_eq_some_iff.mp hj).1
  have hho := w.b.ord h hF
  have up : ∀ q ∈ F, slt q.2 (h.2 ++ [((j + 1 : Nat) : Int)]) := fun q hq => slt_trans (w.bd q hq) (slt_last (by omega) _)
  unfold stepW
  by_cases hc : lookT (aft h.1 o) F = none
  · rw [if_pos hc]
    have hnm := lookT_none hc
    refine ⟨⟨?_, fun p hp => ?_, ?_, fun p hp => ?_, List.mem_append_left _ w.b.root, fun p hp => ?_⟩, ⟨R ++ [(aft h.1 o, h.2 ++ [(j : Int)])], by rw [hR, List.append_assoc]⟩, fun q hq => ?_, fun a o' ha hao => ?_⟩
    · unfold keysT
      rw [List.map_append]
      exact List.nodup_append.mpr ⟨w.b.nd, by simp, fun a ha b hb e => hnm (by have hb : b = aft h.1 o := List.mem_singleton.mp hb; rw [hb] at e; rw [← e]; exact ha)⟩
    · rcases List.mem_append.mp hp with hp | hp
      · exact w.b.ord p hp
      · rw [List.mem_singleton.mp hp]
        exact ⟨word_aft hho.1 hoo.1 (by rw [hho.2, hoo.2]), by rw [waft_len]; exact hho.2⟩
    · refine List.pairwise_append.mpr ⟨w.b.inc, List.pairwise_singleton _ _, fun p hp q hq => ?_⟩
      rw [List.mem_singleton.mp hq]
      exact w.bd p hp
    · rcases List.mem_append.mp hp with hp | hp
      · exact w.b.snd p hp
      · rw [List.mem_singleton.mp hp]
        obtain ⟨s1, s2⟩ := w.b.snd h hF
        refine ⟨fun a ha => ?_, ?_⟩
        · rcases List.mem_append.mp ha with ha | ha
          · exact s1 a ha
          · rw [List.mem_singleton.mp ha]
            omega
        · show byL os n (h.2 ++ [(j : Int)]) = aft h.1 o
          rw [byL_snoc, s2, Int.toNat_natCast, List.getD_eq_getElem?_getD, hj]
          rfl
    · rw [List.length_append, List.length_singleton]
      rcases List.mem_append.mp hp with hp | hp
      · have := w.b.wl p hp
        omega
      · rw [List.mem_singleton.mp hp]
        have := w.b.wl h hF
        show (h.2 ++ [(j : Int)]).length < _
        rw [List.length_append, List.length_singleton]
        omega
    · rcases List.mem_append.mp hq with hq | hq
      · exact up q hq
      · rw [List.mem_singleton.mp hq]
        exact slt_last (by omega) _
    · by_cases e : a = j
      · subst e
        rw [hj] at hao
        cases hao
        exact ⟨_, List.mem_append_right _ (List.mem_singleton.mpr rfl), rfl, .inl rfl⟩
      · obtain ⟨q, hq, q1, q2⟩ := w.cl a o' (by omega) hao
        exact ⟨q, List.mem_append_left _ hq, q1, q2⟩
  · rw [if_neg hc]
    refine ⟨w.b, w.ext, up, fun a o' ha hao => ?_⟩
    by_cases e : a = j
    · subst e
      rw [hj] at hao
      cases hao
      cases hl : lookT (aft h.1 o) F with
      | none => exact absurd hl hc
      | some x =>
        have hm := lookT_some hl
        exact ⟨_, hm, rfl, .inr (w.bd _ hm)⟩
    · exact w.cl a o' (by omega) hao
theorem expW_ok {os : Ords} {n k : Nat} {F : Fnd} (ho : OsOk os n) (w : WI os n k F) {h : List Int × List Int} (hk : F[k]? = some h) : ∀ j, j ≤ os.length → WJ os n F h j (expW os h F j) := by
  intro j
  induction j with
  | zero => intro _; exact w.jzero hk
  | succ j ih =>
    intro hj
    have h1 : os[j]? = some os[j] := List.getElem?_eq_getElem (by omega)
    have h2 : expW os h F (j + 1) = stepW h (expW os h F j) ((j : Int), os[j]) := by
      have he : (enumI os)[j]? = some ((j : Int), os[j]) := wenum_at h1
      exact foldl_take (f := stepW h) he
    rw [h2]
    exact (ih (by omega)).step ho (List.mem_of_getElem? hk) h1
theorem WI.next {os : Ords} {n k : Nat} {F : Fnd} (ho : OsOk os n) (w : WI os n k F) {h : List Int × List Int} (hk : F[k]? = some h) : WI os n (k + 1) (expW os h F os.length) := by
  have j := expW_ok ho w hk os.length (Nat.le_refl _)
  generalize expW os h F os.length = F' at j
  obtain ⟨R, rfl⟩ := j.ext
  have hkl := (List.getElem?_eq_some_iff.mp hk).1
  have hk' : (F ++ R)[k]? = some h := by rw [List.getElem?_append_left hkl]; exact hk
  have htk : (F ++ R).take (k + 1) = F.take k ++ [h] := by
    rw [List.take_append_of_le_length (by omega), List.take_add_one, hk]
    rfl
  refine ⟨j.b, by rw [List.length_append]; omega, fun q hq p hp => ?_, fun p hp a o hao => ?_⟩
  · have hlt : slt h.2 p.2 := by
      obtain ⟨i, hi, ei⟩ := List.mem_iff_getElem.mp hp
      rw [List.getElem_drop] at ei
      rw [List.length_drop] at hi
      have := List.pairwise_iff_getElem.mp j.b.inc k (k + 1 + i) (by rw [List.length_append]; omega) (by omega) (by omega)
      rw [ei, (List.getElem?_eq_some_iff.mp hk').2] at this
      exact this
    exact slt_trans (j.bd q hq) (slt_snoc hlt)
  · rw [htk] at hp
    rcases List.mem_append.mp hp with hp | hp
    · obtain ⟨q, hq, q1, q2⟩ := w.cl p hp a o hao
      exact ⟨q, List.mem_append_left _ hq, q1, q2⟩
    · rw [List.mem_singleton.mp hp]
      exact j.cl a o (List.getElem?_eq_some_iff.mp hao).1 hao
/-! how many orders there can be -/
def code5 : List Int → Int
  | [] => 0
  | x :: xs => x + 5 * code5 xs
theorem code5_inj : ∀ {u v : List Int}, u.length = v.length → (∀ x ∈ u, 0 ≤ x ∧ x < 5) → (∀ x ∈ v, 0 ≤ x ∧ x < 5) → code5 u = code5 v → u = v
  | [], [], _, _, _, _ => rfl
  | [], _ :: _, h, _, _, _ => by cases h
  | _ :: _, [], h, _, _, _ => by cases h
  | x :: u, y :: v, h, hu, hv, e => by
    have h1 := hu x List.mem_cons_self
    have h2 := hv y List.mem_cons_self
    have e : x + 5 * code5 u = y + 5 * code5 v := e
    have e1 : x = y := by omega
    have e2 : code5 u = code5 v := by omega
    rw [e1, code5_inj (by rw [List.length_cons, List.length_cons] at h; omega) (fun z hz => hu z (List.mem_cons_of_mem _ hz)) (fun z hz => hv z (List.mem_cons_of_mem _ hz)) e2]
theorem code5_nn : ∀ {u : List Int}, (∀ x ∈ u, 0 ≤ x ∧ x < 5) → 0 ≤ code5 u ∧ code5 u < (5 ^ u.length : Nat)
  | [], _ => by decide
  | x :: u, h => by
    have h1 := h x List.mem_cons_self
    have h2 := code5_nn (u := u) fun z hz => h z (List.mem_cons_of_mem _ hz)
    have e : (5 ^ (x :: u).length : Nat) = 5 ^ u.length * 5 := by rw [List.length_cons, Nat.pow_succ]
    rw [e]
    show 0 ≤ x + 5 * code5 u ∧ x + 5 * code5 u < _
    omega
theorem WB.size {os : Ords} {n : Nat} {F : Fnd} (w : WB os n F) (h5 : n ≤ 5) : F.length ≤ 3125 := by
  have dig : ∀ p ∈ F, ∀ x ∈ p.1, 0 ≤ x ∧ x < 5 := fun p hp x hx => by
    obtain ⟨h1, h2⟩ := w.ord p hp
    have := h1.2.2.1 x hx
    omega
  have := sub_len2 (F.map fun p => code5 p.1) (rng 0 3125) (by
    have nd := w.nd
    unfold keysT at nd
    refine List.pairwise_map.mpr (List.Pairwise.imp_of_mem (fun {a b} ha hb hab e => hab ?_) (List.pairwise_map.mp nd))
    exact code5_inj (by rw [(w.ord a ha).2, (w.ord b hb).2]) (dig a ha) (dig b hb) e) fun x hx => by
    obtain ⟨p, hp, rfl⟩ := List.mem_map.mp hx
    have h1 := code5_nn (dig p hp)
    have h2 : (5 ^ p.1.length : Nat) ≤ 3125 := by
      rw [(w.ord p hp).2]
      exact Nat.le_trans (Nat.pow_le_pow_right (by decide) h5) (by decide)
    unfold rng
    refine List.mem_map.mpr ⟨(code5 p.1).toNat, List.mem_range.mpr (by omega), by omega⟩
  rw [List.length_map, rng_len] at this
  exact this
theorem bfs_ok {os : Ords} {n : Nat} (ho : OsOk os n) : ∀ k, ∃ m, m ≤ k ∧ WI os n m (bfsF os n k) ∧ (m = k ∨ (bfsF os n k).length ≤ m) := by
  intro k
  induction k with
  | zero => exact ⟨0, Nat.le_refl _, WI.zero ho, .inl rfl⟩
  | succ k ih =>
    obtain ⟨m, hm, w, hor⟩ := ih
    show ∃ m, m ≤ k + 1 ∧ WI os n m (match (bfsF os n k)[k]? with | some h => expW os h (bfsF os n k) os.length | none => bfsF os n k) ∧ _
    show ∃ m, m ≤ k + 1 ∧ WI os n m (match (bfsF os n k)[k]? with | some h => expW os h (bfsF os n k) os.length | none => bfsF os n k) ∧ (m = k + 1 ∨ (match (bfsF os n k)[k]? with | some h => expW os h (bfsF os n k) os.length | none => bfsF os n k).length ≤ m)
    cases hk : (bfsF os n k)[k]? with
    | none => exact ⟨m, by omega, w, .inr (by rcases hor with rfl | h; exact List.getElem?_eq_none_iff.mp hk; exact h)⟩
    | some h =>
      have hlt := (List.getElem?_eq_some_iff.mp hk).1
      obtain rfl : m = k := by omega
      exact ⟨m + 1, Nat.le_refl _, w.next ho hk, .inl rfl⟩
theorem bfs_stop {os : Ords} {n k : Nat} (h : (bfsF os n k).length ≤ k) : ∀ m, bfsF os n (k + m) = bfsF os n k
  | 0 => rfl
  | m + 1 => by
    have ih := bfs_stop h m
    show (match (bfsF os n (k + m))[k + m]? with | some h => expW os h (bfsF os n (k + m)) os.length | none => bfsF os n (k + m)) = _
    rw [ih, List.getElem?_eq_none_iff.mpr (by omega)]
structure WF (os : Ords) (n : Nat) (F : Fnd) : Prop where
  b : WB os n F
  cl : ∀ p ∈ F, ∀ (a : Nat) o, os[a]? = some o → ∃ q ∈ F, q.1 = aft p.1 o ∧ sle q.2 (p.2 ++ [(a : Int)])
  size : F.length ≤ 3125
theorem words_ok {os : Ords} {n : Nat} (ho : OsOk os n) : WF os n (wordsF os n) := by
  obtain ⟨m, _, w, hor⟩ := bfs_ok ho 4000
  have hs := w.b.size ho.n5
  have hl := w.len
  rw [wordsF_is]
  have hm : (bfsF os n 4000).length ≤ m := by
    rcases hor with rfl | h
    · exact absurd hl (by omega)
    · exact h
  refine ⟨w.b, fun p hp => ?_, hs⟩
  have : (bfsF os n 4000).take m = bfsF os n 4000 := List.take_of_length_le hm
  exact w.cl p (by rw [this]; exact hp)
/-- all words: none is ahead of the one that is told -/
theorem WF.least {os : Ords} {n : Nat} {F : Fnd} (w : WF os n F) : ∀ (l : Nat) (v : List Int), v.length = l → (∀ a ∈ v, 0 ≤ a ∧ a < (os.length : Int)) → ∃ q ∈ F, q.1 = byL os n v ∧ sle q.2 v := by
  intro l
  induction l with
  | zero =>
    intro v hv _
    rw [List.length_eq_zero_iff.mp hv]
    exact ⟨_, w.b.root, rfl, .inl rfl⟩
  | succ l ih =>
    intro v hv ha
    have hne : v ≠ [] := fun z => by rw [z] at hv; cases hv
    have e : v = v.dropLast ++ [v.getLast hne] := (List.dropLast_concat_getLast hne).symm
    have hal := ha (v.getLast hne) (List.getLast_mem hne)
    generalize hb : v.getLast hne = b at e hal
    generalize hd : v.dropLast = u at e
    have hul : u.length = l := by rw [← hd, List.length_dropLast]; omega
    rw [e]
    obtain ⟨q, hq, q1, q2⟩ := ih u hul fun a hau => ha a (by rw [e]; exact List.mem_append_left _ hau)
    have hbl : b.toNat < os.length := by omega
    have ho : os[b.toNat]? = some os[b.toNat] := List.getElem?_eq_getElem hbl
    obtain ⟨q', hq', q1', q2'⟩ := w.cl q hq b.toNat _ ho
    refine ⟨q', hq', ?_, ?_⟩
    · rw [byL_snoc, q1', q1, List.getD_eq_getElem?_getD, ho]
      rfl
    · rw [Int.toNat_of_nonneg hal.1] at q2'
      exact sle_trans q2' (sle_snoc q2)
/-! ### ordsmath -/
abbrev rpLI : Rp (List Int) := @rpList Int rpInt
abbrev rpLL : Rp (List (List Int)) := @rpList (List Int) rpLI
theorem ordE_ok {C : Addr} {o : List Int} (h : IsOrd o) : ordE C (ToD.d o) = .ok o := by
  unfold ordE
  rw [ordOf_ord h]
theorem ordE_no {C : Addr} {d : D} (h : ordOf d = none) : ordE C d = .error C := by
  unfold ordE
  rw [h]
def ordAll : List D → Option Ords
  | [] => some []
  | d :: ds => match ordOf d, ordAll ds with
    | some o, some os => some (o :: os)
    | _, _ => none
def nOf (os : Ords) : Nat := (os.headD []).length
def sizeB (os : Ords) : Bool := os.all fun o => decide (o.length ≤ 5 ∧ o.length = nOf os)
def ordsOf : D → Option Ords
  | .lst ds => if 1 ≤ ds.length ∧ ds.length ≤ 4 then match ordAll ds with
      | some os => if sizeB os = true then some os else none
      | none => none
    else none
  | _ => none
theorem ordAll_is : ∀ {ds : List D} {os : Ords}, ordAll ds = some os → ds = os.map ToD.d ∧ ∀ o ∈ os, IsOrd o
  | [], os, h => by
    cases h
    exact ⟨rfl, fun _ h => by cases h⟩
  | d :: ds, os, h => by
    unfold ordAll at h
    cases h1 : ordOf d with
    | none => rw [h1] at h; cases h
    | some o =>
      cases h2 : ordAll ds with
      | none => rw [h1, h2] at h; cases h
      | some os' =>
        rw [h1, h2] at h
        cases h
        obtain ⟨e1, e2⟩ := ordAll_is h2
        obtain ⟨g1, g2⟩ := ordOf_is h1
        refine ⟨by rw [List.map_cons, ← g2, ← e1], fun x hx => ?_⟩
        rcases List.mem_cons.mp hx with rfl | hx
        · exact g1
        · exact e2 x hx
theorem ordAll_ok : ∀ {os : Ords}, (∀ o ∈ os, IsOrd o) → ordAll (os.map ToD.d) = some os
  | [], _ => rfl
  | o :: os, h => by
    rw [List.map_cons]
    unfold ordAll
    rw [ordOf_ord (h o List.mem_cons_self), ordAll_ok fun x hx => h x (List.mem_cons_of_mem _ hx)]
/-- the first that is none -/
theorem ordAll_no : ∀ {ds : List D}, ordAll ds = none → ∃ (k : Nat) (d : D), ds[k]? = some d ∧ ordOf d = none ∧ ∀ x ∈ ds.take k, ∃ o, ordOf x = some o
  | [], h => by cases h
  | d :: ds, h => by
    unfold ordAll at h
    cases h1 : ordOf d with
    | none => exact ⟨0, d, rfl, h1, fun x hx => by cases hx⟩
    | some o =>
      cases h2 : ordAll ds with
      | none =>
        obtain ⟨k, x, e1, e2, e3⟩ := ordAll_no h2
        refine ⟨k + 1, x, by rw [List.getElem?_cons_succ]; exact e1, e2, fun y hy => ?_⟩
        rw [List.take_succ_cons] at hy
        rcases List.mem_cons.mp hy with rfl | hy
        · exact ⟨o, h1⟩
        · exact e3 y hy
      | some os => rw [h1, h2] at h; cases h
theorem ordsOf_is {d : D} {os : Ords} (h : ordsOf d = some os) : OsOk os (nOf os) ∧ d = ToD.d os := by
  cases d with
  | lst ds =>
    have h : (if 1 ≤ ds.length ∧ ds.length ≤ 4 then match ordAll ds with | some os => if sizeB os = true then some os else none | none => none else none) = some os := h
    split at h
    · rename_i hl
      split at h
      · rename_i os' ha
        split at h
        · rename_i hs
          cases h
          obtain ⟨e1, e2⟩ := ordAll_is ha
          have hlen : ds.length = os.length := by rw [e1, List.length_map]
          have hz : ∀ o ∈ os, o.length ≤ 5 ∧ o.length = nOf os := fun o ho => of_decide_eq_true (List.all_eq_true.mp hs o ho)
          obtain ⟨o0, r0, e0⟩ : ∃ o r, os = o :: r := by
            cases os with
            | nil => exact absurd hl.1 (by rw [hlen]; decide)
            | cons o r => exact ⟨o, r, rfl⟩
          have h0 : o0 ∈ os := by rw [e0]; exact List.mem_cons_self
          refine ⟨⟨by omega, by omega, ?_, ?_, fun o ho => ⟨e2 o ho, (hz o ho).2⟩⟩, by rw [e1]; rfl⟩
          · have := hz o0 h0
            omega
          · have := hz o0 h0
            have := (e2 o0 h0).1
            omega
        · cases h
      · cases h
    · cases h
  | _ => cases h
theorem ordsOf_ok {os : Ords} {n : Nat} (h : OsOk os n) : ordsOf (ToD.d os) = some os ∧ nOf os = n := by
  have hn : nOf os = n := by
    obtain ⟨o0, r0, e0⟩ : ∃ o r, os = o :: r := by
      cases os with
      | nil => exact absurd h.c1 (by decide)
      | cons o r => exact ⟨o, r, rfl⟩
    subst e0
    exact (h.ord o0 List.mem_cons_self).2
  refine ⟨?_, hn⟩
  show (if 1 ≤ (os.map ToD.d).length ∧ (os.map ToD.d).length ≤ 4 then match ordAll (os.map ToD.d) with | some os => if sizeB os = true then some os else none | none => none else none) = some os
  have h5 := h.n5
  rw [List.length_map, if_pos ⟨h.c1, h.c4⟩, ordAll_ok fun o ho => (h.ord o ho).1]
  dsimp only
  refine if_pos (List.all_eq_true.mpr fun o ho => decide_eq_true ?_)
  rw [hn, (h.ord o ho).2]
  exact ⟨h5, rfl⟩
def ordsE (C : Addr) (d : D) : Except Addr Ords := match ordsOf d with
  | some os => .ok os
  | none => .error C
theorem ordsE_no {C : Addr} {d : D} (h : ordsOf d = none) : ordsE C d = .error C := by
  unfold ordsE
  rw [h]
theorem ordsE_ok {C : Addr} {os : Ords} {n : Nat} (h : OsOk os n) : ordsE C (ToD.d os) = .ok os := by
  unfold ordsE
  rw [(ordsOf_ok h).1]
abbrev SpCosD (K : PySem.W.Frag) (C : Addr) : Sp := @SpW K D (List (List Int)) rpLL (fun d : D => [.im rpD d]) (fun _ => True) (oxIm rpLL) (ordsE C)
/-! ### wordsx1 -/
theorem ok_checked_orders {C : Addr} (F : DefT K mg "checked_orders" s_checked_orders ["orders"]) (bl : Blt mg) (c_BadOrder : ECls K mg "BadOrder" C) (d_checked_order : Def P w K mg base 2 "checked_order" ["order"] (SpOrder K C)) : Def P w K mg base 3 "checked_orders" ["orders"] (SpCosD K C) :=
  F.to fun f fd F => def_okW F sc_checked_orders (fun _ => rfl) fun cdv A outer s H E hr => ⟨_, (pss_cons (ps_if (PW.pt (pw_or (pt_not (pt_val (pe_callB (kr_isi K rfl) (by rfl) bl.isinstance (by decide +kernel) (pa_cons (pv 0) (pa_cons (pe_bltn (v := .ty "list") (by rfl) bl.list (by decide +kernel) rfl) pa_nil))))) (pw_or1 (pt_not (pt_chain op_le op_le pe_int (pe_callB (kr_len K rfl) (by rfl) bl.len PySem.boot_len (pa_cons (pv 0) pa_nil)) pe_int))))) (pss_one (ps_raise rfl (takes_of rfl rfl rfl rfl) c_BadOrder.pmk)) pss_nil)
    (pss_cons (ps_setLcX (i := 2) (own := [("order", 1)]) (g := gName 1) (tt := tYes) rfl rfl (takes_of rfl rfl rfl rfl) rfl sc_checked_orders.nd rfl rfl (sw_true rfl rfl rfl (by decide +kernel)) (kp_list K rfl (pv 0)) (blkOk_by (own := [("order", 1)]) (N := ["orders", "order", "found"]) (sc := defScope s_checked_orders) (by decide +kernel)) (fun _ _ _ _ _ => (pg_name (i := 1) sc_checked_orders.nd rfl (Or.inl rfl))) (fun _ _ _ _ _ => pts_nil) (fun _ _ _ _ _ => (pe_callD d_checked_order hr (by rfl) passB (pa_cons (pv 1) pa_nil))))
    (pss_cons (ps_for (passes_of rfl) rfl (kp_list K rfl (pv 2)) (pg_name (i := 1) sc_checked_orders.nd rfl (Or.inl rfl))
    (pss_one (ps_if (PW.pt (pw_or (pt_cmpR op_gt (pe_callB (kr_len K rfl) (by rfl) bl.len PySem.boot_len (pa_cons (pv 1) pa_nil)) pe_int (nomark _)) (pw_or1 (pt_cmpR op_ne (pe_callB (kr_len K rfl) (by rfl) bl.len PySem.boot_len (pa_cons (pv 1) pa_nil)) (pe_callB (kr_len K rfl) (by rfl) bl.len PySem.boot_len (pa_cons (pe_ix (kx_list K rfl) (pv 2) pe_int (fun _ _ => rfl)) pa_nil)) (nomark _))))) (pss_one (ps_raise rfl (takes_of rfl rfl rfl rfl) c_BadOrder.pmk)) pss_nil)))
    (pss_one (ps_ret (pv 2)))))), fun B d Q hp h1 h2 => by
    have bad : ordsOf d = none → ∀ H', Same H H' → E (.ref C) none H' := fun h => h2 C (ordsE_no h)
    refine g_any 1 ?_
    by_cases hl : ∃ l, d = .lst l
    · obtain ⟨l, rfl⟩ := hl
      show Goes ⟨K, B, H⟩ [.im rpD (.lst l), .any, .un] _
      have eo : EvD ⟨K, B, H⟩ (tVar 0) [.im rpD (.lst l), .any, .un] (@rpList D rpD) l := EvD.dl (ev_var rfl)
      by_cases hlen : 1 ≤ l.length ∧ l.length ≤ 4
      · refine q_when (b := false) (EvT.is (et_or (et_not (et_B (ev_isi (b := true) (EvD.h (ev_var rfl)) fun _ => rfl))) fun _ => (et_not (et_test (ev_chain ev_int (ev_len (EvD.c eo)) ev_int)))) ?_) (fun z => by cases z) (fun _ => ?_)
        · rw [decide_eq_true (show (1 : Int) ≤ l.length by omega), decide_eq_true (show (l.length : Int) ≤ 4 by omega)]
          rfl
        cases ha : ordAll l with
        | none =>
          obtain ⟨k, x, hk, hx, hb⟩ := ordAll_no ha
          have ho : ordsOf (.lst l) = none := by
            show (if 1 ≤ l.length ∧ l.length ≤ 4 then match ordAll l with | some os => if sizeB os = true then some os else none | none => none else none) = none
            rw [if_pos hlen, ha]
          refine gx_asg (ex_lcA (r := rpD) (r2 := rpLI) (fun y : D => (ordOf y).getD []) k (ei_list eo) (own_name (by decide)) (fun y hy => ?_) hk ⟨_, eg_name, ex_callN (x := x) (eah_cons (EvD.h (ev_var rfl)) eah_nil) trivial (ordE_no hx)⟩ (by omega)) (bad ho)
          obtain ⟨o, ho⟩ := hb y hy
          refine ⟨_, eg_name, EvN.d (ev_callN (x := y) (b := (ordOf y).getD []) (ea_cons (ev_var rfl) ea_nil) trivial ?_)⟩
          unfold ordE
          rw [ho]
          rfl
        | some os =>
          obtain ⟨e1, e2⟩ := ordAll_is ha
          have hol : os.length = l.length := by rw [e1, List.length_map]
          refine q_asg (r := rpLL) (a := os) (EvN.d (EvN.is (ev_lcA (r := rpD) (r2 := rpLI) (fun y : D => (ordOf y).getD []) (ei_list eo) (own_name (by decide)) (fun y hy => ?_) (by omega)) ?_)) ?_
          · rw [e1] at hy
            obtain ⟨o, ho, rfl⟩ := List.mem_map.mp hy
            refine ⟨_, eg_name, EvN.d (ev_callN (x := ToD.d o) (b := (ordOf (ToD.d o)).getD []) (ea_cons (ev_var rfl) ea_nil) trivial ?_)⟩
            rw [ordE_ok (e2 o ho), ordOf_ord (e2 o ho)]
            rfl
          · rw [e1, List.map_map]
            have : ∀ o ∈ os, ((fun y : D => (ordOf y).getD []) ∘ ToD.d) o = o := fun o ho => by
              show (ordOf (ToD.d o)).getD [] = o
              rw [ordOf_ord (e2 o ho)]
              rfl
            rw [List.map_congr_left this]
            exact List.map_id' os
          have h0 : os[0]? = some os[0] := List.getElem?_eq_getElem (by omega)
          have hn0 : os[0].length = nOf os := by
            cases os with
            | nil => exact absurd hlen.1 (by rw [← hol]; decide)
            | cons o r => rfl
          have hon : ∀ o ∈ os, 1 ≤ o.length ∧ o.length ≤ 16 := fun o ho => ⟨(e2 o ho).1, (e2 o ho).2.1⟩
          have oe : ordsOf (.lst l) = if sizeB os = true then some os else none := by
            show (if 1 ≤ l.length ∧ l.length ≤ 4 then match ordAll l with | some os => if sizeB os = true then some os else none | none => none else none) = _
            rw [if_pos hlen, ha]
          refine q_for (xs := os) (fun k T' => (∀ o ∈ os.take k, o.length ≤ 5 ∧ o.length = nOf os) ∧ T' = [.im rpD (.lst l), .any, .im rpLL os]) (ei_list (ev_var rfl)) ⟨fun o ho => (by cases ho), rfl⟩ (fun B1 up k o T' hk hI => ?_) (fun T' hI => ?_)
          · obtain ⟨hI, rfl⟩ := hI
            refine ⟨_, eg_name, ?_⟩
            refine g_when (b := decide ((o.length : Int) > 5) || !decide ((o.length : Int) = os[0].length)) (et_or (et_test (ev_opB (ev_len (EvD.c (ev_var rfl))) ev_int)) fun _ => et_test (ev_neI (ev_len (EvD.c (ev_var rfl))) (ev_len (EvD.c (ev_ix (xs := os) (EvD.c (ev_var rfl)) ev_int (atI_toNat (Int.le_refl 0) h0)))))) (fun hb => ?_) (fun hb => ?_)
            · refine g_rs (bad ?_)
              rw [oe]
              refine if_neg fun z => ?_
              have := of_decide_eq_true (List.all_eq_true.mp z o (List.mem_of_getElem? hk))
              rw [decide_eq_false (show ¬ (o.length : Int) > 5 by omega), decide_eq_true (show (o.length : Int) = os[0].length by omega)] at hb
              cases hb
            · rw [Bool.or_eq_false_iff] at hb
              obtain ⟨b1, b2⟩ := hb
              have b1 := of_decide_eq_false b1
              rw [Bool.not_eq_false'] at b2
              have b2 := of_decide_eq_true b2
              refine g_any 1 (g_at ⟨fun y hy => ?_, rfl⟩)
              rw [List.take_add_one, hk] at hy
              rcases List.mem_append.mp hy with hy | hy
              · exact hI y hy
              · rw [List.mem_singleton.mp (show y ∈ [o] from hy)]
                omega
          · obtain ⟨hI, rfl⟩ := hI
            rw [List.take_length] at hI
            refine g_ret (ev_var rfl) (RetO.d (h1 os ?_))
            unfold ordsE
            have hsz : sizeB os = true := List.all_eq_true.mpr fun o ho => decide_eq_true (hI o ho)
            rw [oe, if_pos hsz]
      · refine q_when (b := true) (EvT.is (et_or (et_not (et_B (ev_isi (b := true) (EvD.h (ev_var rfl)) fun _ => rfl))) fun _ => (et_not (et_test (ev_chain ev_int (ev_len (EvD.c eo)) ev_int)))) ?_) (fun _ => g_rs (bad (if_neg hlen))) (fun z => by cases z)
        have : (decide ((1 : Int) ≤ l.length) && decide ((l.length : Int) ≤ 4)) = false := by
          rw [Bool.and_eq_false_iff, decide_eq_false_iff_not, decide_eq_false_iff_not]
          omega
        rw [this]
        rfl
    · have hn : ordsOf d = none := by
        cases d with
        | lst l => exact absurd ⟨l, rfl⟩ hl
        | _ => rfl
      show Goes ⟨K, B, H⟩ [.im rpD d, .any, .un] _
      refine q_when (b := true) (EvT.is (et_or (b := false) (et_not (et_B (ev_isi (b := false) (EvD.h (ev_var rfl)) fun K => ?_))) fun h => Bool.noConfusion h) rfl) (fun hb => g_rs (bad hn)) (fun hb => Bool.noConfusion hb)
      cases d with
      | lst l => exact absurd ⟨l, rfl⟩ hl
      | _ => rfl⟩
/-! ### wordsx2 -/
abbrev rpDTL : Rp (DT (List Int)) := @rpDT (List Int) rpLI
abbrev oxDTL : @Ox (DT (List Int)) rpDTL := @oxDT (List Int) rpLI
def wordsE (C : Addr) (d : D) : Except Addr (DT (List Int)) := match ordsOf d with
  | some os => .ok ⟨wordsF os (nOf os)⟩
  | none => .error C
theorem wordsE_no {C : Addr} {d : D} (h : ordsOf d = none) : wordsE C d = .error C := by
  unfold wordsE
  rw [h]
theorem wordsE_ok {C : Addr} {os : Ords} {n : Nat} (h : OsOk os n) : wordsE C (ToD.d os) = .ok ⟨wordsF os n⟩ := by
  unfold wordsE
  rw [(ordsOf_ok h).1]
  show Except.ok (DT.mk (wordsF os (nOf os))) = _
  rw [(ordsOf_ok h).2]
abbrev SpWsD (K : PySem.W.Frag) (C : Addr) : Sp := @SpW K D (DT (List Int)) rpDTL (fun d : D => [.im rpD d]) (fun _ => True) oxDTL (wordsE C)
theorem WI.key {os : Ords} {n k : Nat} {F : Fnd} (w : WI os n k F) {here : List Int} {q : List (List Int)} (e : (keysT F).drop k = here :: q) : ∃ h, F[k]? = some h ∧ h.1 = here := by
  have h1 : (keysT F)[k]? = some here := by
    have : ((keysT F).drop k)[0]? = some here := by rw [e]; rfl
    rw [List.getElem?_drop, Nat.add_zero] at this
    exact this
  unfold keysT at h1
  rw [List.getElem?_map] at h1
  cases hk : F[k]? with
  | none => rw [hk] at h1; cases h1
  | some h =>
    rw [hk] at h1
    exact ⟨h, rfl, Option.some.inj h1⟩
theorem ok_words {C : Addr} (F : DefT K mg "words" s_words ["orders"]) (bl : Blt mg) (d_checked_orders : Def P w K mg base 3 "checked_orders" ["orders"] (SpCosD K C)) (d_after : Def P w K mg base 3 "after" ["order", "other"] (SpAfter K C)) : Def P w K mg base 4 "words" ["orders"] (SpWsD K C) :=
  F.to fun f fd F => def_okW F sc_words (fun _ => rfl) fun cdv A outer s H E hr => ⟨_, (pss_cons (ps_set (i := 1) sc_words.nd rfl (Or.inl rfl) (pe_callD d_checked_orders hr (by rfl) (passes_call (takes_of rfl rfl rfl rfl) (fun _ _ _ _ h => h)) (pa_cons (pv 0) pa_nil)))
    (pss_cons (ps_set (i := 2) sc_words.nd rfl (Or.inl rfl) (ke_listR rfl (by rfl) bl.list (prg_1 (by rfl) bl.range (pe_callB (kr_len K rfl) (by rfl) bl.len PySem.boot_len (pa_cons (pe_ix (kx_list K rfl) (pv 1) pe_int (fun _ _ => rfl)) pa_nil)))))
    (pss_cons (ps_set (i := 3) sc_words.nd rfl (Or.inl rfl) (pe_dispT (hu_of hr) (pe_callTy (kr_tuple K rfl) (by rfl) bl.tuple (by decide +kernel) (pa_cons (pv 2) pa_nil)) (pe_lst pa_nil)))
    (pss_cons (ps_set (i := 4) sc_words.nd rfl (Or.inl rfl) (pe_lst (pa_cons (pv 2) pa_nil)))
    (pss_cons (ps_while (passes_of rfl) (kt_truth K rfl (pv 4) (by intro _; rfl))
    (pss_cons (ps_set (i := 2) sc_words.nd rfl (Or.inl rfl) (ke_bm K rfl (pe_bm PySem.F.plainAttrs_list PySem.F.slot_list_pop PySem.F.type_list_pop mt_popAt (pv 4) (pa_cons pe_int pa_nil))))
    (pss_one (ps_for (passes_of rfl) rfl (kp_enum K rfl (pi_enum (by rfl) bl.enumerate (pa_cons (pv 1) pa_nil))) (kg_tup K rfl (pg_tup (n := 2) (by rfl) (pgs_cons (pg_name (i := 5) sc_words.nd rfl (Or.inl rfl)) (pgs_cons (pg_name (i := 6) sc_words.nd rfl (Or.inl rfl)) pgs_nil))))
    (pss_cons (ps_set (i := 7) sc_words.nd rfl (Or.inl rfl) (pe_callD d_after hr (by rfl) (passes_call (takes_of rfl rfl rfl rfl) (fun _ _ _ _ h => h)) (pa_cons (pv 2) (pa_cons (pv 6) pa_nil))))
    (pss_one (ps_if (pt_cmp (pc_dnotin (hu_of hr) (pe_callTy (kr_tuple K rfl) (by rfl) bl.tuple (by decide +kernel) (pa_cons (pv 7) pa_nil)) (pv 3))) (pss_cons (ps_dput (hu_of hr) (pv 3) (pe_callTy (kr_tuple K rfl) (by rfl) bl.tuple (by decide +kernel) (pa_cons (pv 7) pa_nil)) (pe_op op_cat (pe_dget (hu_of hr) (pv 3) (pe_callTy (kr_tuple K rfl) (by rfl) bl.tuple (by decide +kernel) (pa_cons (pv 2) pa_nil)) (fun _ _ => rfl)) (pe_lst (pa_cons (pv 5) pa_nil))) rfl)
    (pss_one (ps_expr (ke_bm K rfl (pe_bm PySem.F.plainAttrs_list PySem.F.slot_list_append PySem.F.type_list_append mt_append (pv 4) (pa_cons (pv 7) pa_nil)))))) pss_nil)))))))
    (pss_one (ps_ret (pv 3)))))))), fun B x Q hp h1 h2 => by
    cases hod : ordsOf x with
    | none =>
      show Goes ⟨K, B, H⟩ [.im rpD x, .un, .un, .un, .un, .un, .un, .un] _
      exact gx_asg (ex_callO (x := x) (w := oxIm rpLL) (eah_cons (EvD.h (ev_var rfl)) eah_nil) trivial (ordsE_no hod)) (h2 C (wordsE_no hod))
    | some os =>
    obtain ⟨hp, hx⟩ := ordsOf_is hod
    subst hx
    obtain ⟨n, hnn⟩ : ∃ n, nOf os = n := ⟨_, rfl⟩
    rw [hnn] at hp
    have c1 := hp.c1
    have c4 := hp.c4
    have n5 := hp.n5
    have n1 := hp.n1
    show Goes ⟨K, B, H⟩ [.im rpD (ToD.d os), .un, .un, .un, .un, .un, .un, .un] _
    refine q_asg (r := rpLL) (a := os) (EvO.d (ev_callO (x := ToD.d os) (b := os) (w := oxIm rpLL) (ea_cons (ev_var rfl) ea_nil) trivial (ordsE_ok hp))) ?_
    refine g_ofDA (i := 0) (a := os) rfl ?_
    have h0 : os[0]? = some os[0] := List.getElem?_eq_getElem (by omega)
    have hn0 := (hp.ord os[0] (List.mem_of_getElem? h0)).2
    refine q_asg (r := rpLI) (a := idn n) (EvN.d (EvN.is (ev_listR1 (ev_len (EvD.c (ev_ix (xs := os) (EvD.c (ev_var rfl)) ev_int (atI_toNat (Int.le_refl 0) h0)))) (by omega) (by omega)) (by rw [Int.toNat_natCast, hn0]; rfl))) ?_
    refine q_asgO (α := DT (List Int)) (w := oxDTL) (a := ⟨[(idn n, [])]⟩) (ev_dispT (rv := rpLI) (ev_tuple (EvD.c (ev_var rfl))) (EvN.d (ev_lst el_nil (show (0 : Nat) ≤ 100000 by decide)))) fun v => ?_
    refine q_asgN (r := rpLI) (xs := [idn n]) (ev_lst (el_cons (ev_var rfl) el_nil) (show (1 : Nat) ≤ 100000 by decide)) ?_
    refine g_any 2 (g_any 5 (g_any 6 (g_any 7 ?_)))
    refine q_while (fun m T' => ∃ k, m = 4000 - k ∧ WI os n k (bfsF os n k) ∧ T' = [.im rpLL os, .im rpLL os, .any, .ow (owV v oxDTL) ⟨bfsF os n k⟩, .ow (@owML (List Int) rpLI) ⟨(keysT (bfsF os n k)).drop k⟩, .any, .any, .any]) 4000 ⟨0, rfl, WI.zero hp, rfl⟩ fun m T' hI => ?_
    obtain ⟨k, rfl, wi, rfl⟩ := hI
    have hsz := wi.b.size n5
    have hkl := wi.len
    refine ⟨_, et_truL (ev_varM rfl), fun hb => ?_, fun hb => ?_⟩
    · cases hq : (keysT (bfsF os n k)).drop k with
      | nil => rw [hq] at hb; cases hb
      | cons here q =>
        obtain ⟨h, hk, hh⟩ := wi.key hq
        obtain ⟨hk1, hk2⟩ := List.getElem?_eq_some_iff.mp hk
        have hkeyl : (keysT (bfsF os n k)).length = (bfsF os n k).length := List.length_map _
        have hql : (here :: q).length ≤ 3125 := by
          rw [← hq, List.length_drop, hkeyl]
          omega
        have hdrop : (keysT (bfsF os n k)).drop (k + 1) = q := by
          rw [← List.drop_drop, hq]
          rfl
        refine q_popAt (i := 4) (j := 0) (y := here) rfl ev_int (ixN_toNat (Int.le_refl 0) (by show (0 : Int) < ((here :: q).length : Int); rw [List.length_cons]; omega)) (by show (here :: q).length ≤ 100000; omega) rfl ?_
        have hord := (wi.b.ord h (List.mem_of_getElem? hk))
        rw [hh] at hord
        refine g_for (r := @rpPair Int (List Int) rpInt rpLI) (xs := enumI os) (fun j T' => j ≤ os.length ∧ T' = [.im rpLL os, .im rpLL os, .im rpLI here, .ow (owV v oxDTL) ⟨expW os h (bfsF os n k) j⟩, .ow (@owML (List Int) rpLI) ⟨(keysT (expW os h (bfsF os n k) j)).drop (k + 1)⟩, .any, .any, .any]) (ei_enum (ev_var rfl)) ⟨Nat.zero_le _, ?_⟩ (fun B2 up2 j p T' hj hI => ?_) (fun T' hI => ?_)
        · rw [show expW os h (bfsF os n k) 0 = bfsF os n k from rfl, hdrop]
          rfl
        · obtain ⟨hjl, rfl⟩ := hI
          obtain ⟨a, o⟩ := p
          obtain ⟨ho, ha⟩ := enumI_get hj
          have ha : a = (j : Int) := ha
          subst ha
          have ho : os[j]? = some o := ho
          have hj1 := (List.getElem?_eq_some_iff.mp ho).1
          obtain ⟨hoo, hon⟩ := hp.ord o (List.mem_of_getElem? ho)
          have wj := expW_ok hp wi hk j hjl
          have hstep : expW os h (bfsF os n k) (j + 1) = stepW h (expW os h (bfsF os n k) j) ((j : Int), o) := foldl_take (f := stepW h) hj
          rw [hstep]
          generalize expW os h (bfsF os n k) j = F' at wj
          obtain ⟨R, hR⟩ := wj.ext
          have hsz' := wj.b.size n5
          have hm : h ∈ F' := by rw [hR]; exact List.mem_append_left _ (List.mem_of_getElem? hk)
          have hlk : lookT here F' = some h.2 := by rw [← hh]; exact lookT_mem wj.b.nd hm
          have hw : h.2.length < 3125 := by
            have := wj.b.wl h hm
            omega
          have hFl : k + 1 ≤ F'.length := by rw [hR, List.length_append]; omega
          have hkl' : (keysT F').length = F'.length := List.length_map _
          refine ⟨_, eg_pair, ?_⟩
          refine q_asg (r := rpLI) (a := aft here o) (EvN.d (ev_callN (x := (ToD.d here, ToD.d o)) (b := aft here o) (ea_cons (EvD.toD (α := List Int) (a := here) (ev_var rfl)) (ea_cons (EvD.toD (α := List Int) (a := o) (ev_var rfl)) ea_nil)) trivial (aftE_ok hord.1 hoo (by rw [hord.2, hon])))) ?_
          refine g_when (b := !(lookT (aft here o) F').isSome) (et_B (ev_dninT (d := ⟨F'⟩) (ev_tuple (EvD.c (ev_var rfl))) (ev_varO (w := oxDTL) rfl))) (fun hb => ?_) (fun hb => ?_)
          · have hno : lookT (aft here o) F' = none := by cases hx : lookT (aft here o) F' with | none => rfl | some x => rw [hx] at hb; cases hb
            refine q_dputT (b := h.2 ++ [(j : Int)]) (has_var (j := 3) rfl) (EvN.d (ev_catK (EvD.k (ev_dgetT (has_var (w := oxDTL) (j := 3) rfl) (ev_tuple (EvD.c (ev_var rfl))) hlk)) (EvN.k (ev_lst (el_cons (ev_var rfl) el_nil) (show (1 : Nat) ≤ 100000 by decide))) (by rw [List.length_singleton]; omega))) (ev_tuple (EvD.c (ev_var rfl))) hno (by show F'.length < 100000; omega) ?_
            refine g_app (i := 4) (r := rpLI) (y := aft here o) rfl (ev_var rfl) (by show ((keysT F').drop (k + 1)).length < 100000; rw [List.length_drop]; omega) (g_any 5 (g_any 6 (g_any 7 (g_at ⟨by omega, ?_⟩))))
            have e1 : stepW h F' ((j : Int), o) = F' ++ [(aft here o, h.2 ++ [(j : Int)])] := by
              unfold stepW
              rw [hh]
              exact if_pos hno
            rw [e1]
            have e2 : (keysT (F' ++ [(aft here o, h.2 ++ [(j : Int)])])).drop (k + 1) = (keysT F').drop (k + 1) ++ [aft here o] := by
              unfold keysT at hkl' ⊢
              rw [List.map_append, List.drop_append_of_le_length (by omega)]
              rfl
            rw [e2]
            rfl
          · have hso : lookT (aft here o) F' ≠ none := fun z => by rw [z] at hb; cases hb
            have e1 : stepW h F' ((j : Int), o) = F' := by
              unfold stepW
              rw [hh]
              exact if_neg hso
            rw [e1]
            exact g_any 5 (g_any 6 (g_any 7 (g_at ⟨by omega, rfl⟩)))
        · obtain ⟨_, rfl⟩ := hI
          have e1 : bfsF os n (k + 1) = expW os h (bfsF os n k) os.length := by
            show (match (bfsF os n k)[k]? with | some h => expW os h (bfsF os n k) os.length | none => bfsF os n k) = _
            rw [hk]
          have wn := wi.next hp hk
          refine g_any 2 (g_at ⟨4000 - (k + 1), by omega, k + 1, rfl, ?_, ?_⟩)
          · rw [e1]
            exact wn
          · rw [e1, enumI_len]
            rfl
    · have hnil : (keysT (bfsF os n k)).drop k = [] := by
        cases hq : (keysT (bfsF os n k)).drop k with
        | nil => rfl
        | cons here q => rw [hq] at hb; cases hb
      have hle : (bfsF os n k).length ≤ k := by
        have := List.drop_eq_nil_iff.mp hnil
        unfold keysT at this
        rwa [List.length_map] at this
      have e1 : wordsF os n = bfsF os n k := by
        have := bfs_stop hle (4000 - k)
        rw [show k + (4000 - k) = 4000 by omega] at this
        rw [wordsF_is]
        exact this
      exact g_retO (i := 3) (w := oxDTL) rfl (h1 ⟨bfsF os n k⟩ (by rw [wordsE_ok hp, e1]))⟩
/-! ### makemath2 -/
theorem byL_ord {os : Ords} {n : Nat} (ho : OsOk os n) {v : List Int} (hv : ∀ a ∈ v, 0 ≤ a ∧ a < (os.length : Int)) : IsOrd (byL os n v) ∧ (byL os n v).length = n := by
  have key : ∀ (v : List Int) (row : List Int), (∀ a ∈ v, 0 ≤ a ∧ a < (os.length : Int)) → IsOrd row ∧ row.length = n → IsOrd (v.foldl (fun row a => aft row (os.getD a.toNat [])) row) ∧ (v.foldl (fun row a => aft row (os.getD a.toNat [])) row).length = n := by
    intro v
    induction v with
    | nil => intro row _ h; exact h
    | cons a v ih =>
      intro row hv h
      rw [List.foldl_cons]
      refine ih _ (fun b hb => hv b (List.mem_cons_of_mem _ hb)) ?_
      have ha := hv a List.mem_cons_self
      have ho1 : os[a.toNat]? = some os[a.toNat] := List.getElem?_eq_getElem (by omega)
      have ho2 := ho.ord _ (List.mem_of_getElem? ho1)
      have e : os.getD a.toNat [] = os[a.toNat] := by rw [List.getD_eq_getElem?_getD, ho1]; rfl
      rw [e]
      exact ⟨word_aft h.1 ho2.1 (by rw [h.2, ho2.2]), by rw [waft_len]; exact h.2⟩
  exact key v (idn n) hv ⟨idn_ord ho.n1 ho.n5, rng_len⟩
theorem byL_take {os : Ords} {n : Nat} {v : List Int} {k : Nat} {a : Int} (h : v[k]? = some a) : byL os n (v.take (k + 1)) = aft (byL os n (v.take k)) (os.getD a.toNat []) := by
  rw [List.take_add_one, h]
  exact byL_snoc os n _ a
/-! ### wordsx3 -/
def madeL (os : Ords) (n : Nat) : List (List Int) := (keysT (wordsF os n)).mergeSort (@leA (List Int) rpLI _)
def madeE (C : Addr) (d : D) : Except Addr (List (List Int)) := match ordsOf d with
  | some os => .ok (madeL os (nOf os))
  | none => .error C
theorem madeE_no {C : Addr} {d : D} (h : ordsOf d = none) : madeE C d = .error C := by
  unfold madeE
  rw [h]
abbrev SpMdD (K : PySem.W.Frag) (C : Addr) : Sp := SpN K (fun d : D => [.im rpD d]) (fun _ => True) rpLI (madeE C)
theorem ok_made {C : Addr} (F : DefT K mg "made" s_made ["orders"]) (bl : Blt mg) (d_words : Def P w K mg base 4 "words" ["orders"] (SpWsD K C)) : Def P w K mg base 5 "made" ["orders"] (SpMdD K C) :=
  F.to fun f fd F => def_okN F sc_made (fun _ => rfl) fun cdv A outer s H E hr => ⟨_, (pss_one (ps_ret (pe_lc (own := [("order", 1)]) (g := gName 1) (tt := tYes) rfl sc_made.nd (kp_list K rfl (pe_callB (call_sortedDT rfl (hu65 hr)) (by rfl) bl.sorted (by decide +kernel) (pa_cons (pe_callD d_words hr (by rfl) (passes_call (takes_of rfl rfl rfl rfl) (fun _ _ _ _ h => h)) (pa_cons (pv 0) pa_nil)) pa_nil))) (blkOk_by (own := [("order", 1)]) (N := ["orders", "order"]) (sc := defScope s_made) (by decide +kernel)) (fun _ _ _ _ _ => (pg_name (i := 1) sc_made.nd rfl (Or.inl rfl))) (fun _ _ _ _ _ => pts_nil) (fun _ _ _ _ _ => (pe_callTy (kr_list K rfl) (by rfl) bl.list (by decide +kernel) (pa_cons (pv 1) pa_nil)))))), fun B x Q hp h1 h2 => by
    show Goes ⟨K, B, H⟩ [.im rpD x, .un] _
    cases hod : ordsOf x with
    | none => exact gx_ret (ex_lcI (ex_callO (x := x) (w := oxDTL) (eah_cons (EvD.h (ev_var rfl)) eah_nil) trivial (wordsE_no hod))) (h2 C (madeE_no hod))
    | some os =>
      obtain ⟨ho, hx⟩ := ordsOf_is hod
      have wf := words_ok ho
      have sz := wf.size
      refine g_retN (ev_lcST (rv := rpLI) (d := ⟨wordsF os (nOf os)⟩) (ev_callO (x := x) (b := ⟨wordsF os (nOf os)⟩) (w := oxDTL) (ea_cons (ev_var rfl) ea_nil) trivial (by rw [hx]; exact wordsE_ok ho)) (fun p hm e => ?_) (by show (wordsF os (nOf os)).length ≤ 90000; omega) (show 1 < 2 by decide)) (h1 _ (by unfold madeE; rw [hod]; rfl))
      have := (wf.b.ord p hm).1.1
      rw [e] at this
      exact absurd this (by decide)⟩
abbrev rpOLI : Rp (Option (List Int)) := @rpOpt (List Int) rpLI
def wordE (C : Addr) (x : D × D) : Except Addr (Option (List Int)) := match ordsOf x.1 with
  | some os => match ordOf x.2 with
    | some g => .ok (lookT g (wordsF os (nOf os)))
    | none => .error C
  | none => .error C
theorem wordE_no {C : Addr} {x : D × D} (h : ordsOf x.1 = none ∨ ordOf x.2 = none) : wordE C x = .error C := by
  unfold wordE
  cases h1 : ordsOf x.1 with
  | none => rfl
  | some os =>
    rcases h with h | h
    · rw [h1] at h; cases h
    · rw [h]
abbrev SpWdD (K : PySem.W.Frag) (C : Addr) : Sp := @SpW K (D × D) (Option (List Int)) rpOLI (fun x : D × D => [.im rpD x.1, .im rpD x.2]) (fun _ => True) (oxIm rpOLI) (wordE C)
theorem ok_word {C : Addr} (F : DefT K mg "word" s_word ["orders", "goal"]) (bl : Blt mg) (d_words : Def P w K mg base 4 "words" ["orders"] (SpWsD K C)) (d_checked_order : Def P w K mg base 2 "checked_order" ["order"] (SpOrder K C)) : Def P w K mg base 5 "word" ["orders", "goal"] (SpWdD K C) :=
  F.to fun f fd F => def_okW F sc_word (fun _ => rfl) fun cdv A outer s H E hr => ⟨_, (pss_cons (ps_set (i := 2) sc_word.nd rfl (Or.inl rfl) (pe_callD d_words hr (by rfl) (passes_call (takes_of rfl rfl rfl rfl) (fun _ _ _ _ h => h)) (pa_cons (pv 0) pa_nil)))
    (pss_cons (ps_set (i := 1) sc_word.nd rfl (Or.inl rfl) (pe_callD d_checked_order hr (by rfl) (passes_call (takes_of rfl rfl rfl rfl) (fun _ _ _ _ h => h)) (pa_cons (pv 1) pa_nil)))
    (pss_cons (ps_set (i := 3) sc_word.nd rfl (Or.inl rfl) (pe_dget1 (hu_of hr) (pv 2) (pe_callTy (kr_tuple K rfl) (by rfl) bl.tuple (by decide +kernel) (pa_cons (pv 1) pa_nil)) ⟨by rfl, by rfl, by rfl, by rfl⟩))
    (pss_cons (ps_if (pt_cmp (pc_isN (pv 3))) (pss_one (ps_ret pe_non)) pss_nil)
    (pss_one (ps_ret (pe_callTy (kr_list K rfl) (by rfl) bl.list (by decide +kernel) (pa_cons (pv 3) pa_nil)))))))), fun B x Q hp h1 h2 => by
    obtain ⟨dd, d⟩ := x
    show Goes ⟨K, B, H⟩ [.im rpD dd, .im rpD d, .un, .un] _
    cases hod : ordsOf dd with
    | none => exact gx_asg (ex_callO (x := dd) (w := oxDTL) (eah_cons (EvD.h (ev_var rfl)) eah_nil) trivial (wordsE_no hod)) (h2 C (wordE_no (.inl hod)))
    | some os =>
      obtain ⟨hp, hx⟩ := ordsOf_is hod
      obtain ⟨n, hnn⟩ : ∃ n, nOf os = n := ⟨_, rfl⟩
      have e0 : wordsE C dd = .ok ⟨wordsF os (nOf os)⟩ := by unfold wordsE; rw [hod]
      rw [hnn] at hp e0
      refine q_asgO (α := DT (List Int)) (w := oxDTL) (a := ⟨wordsF os n⟩) (ev_callO (x := dd) (b := ⟨wordsF os n⟩) (w := oxDTL) (ea_cons (ev_var rfl) ea_nil) trivial e0) fun v => ?_
      cases ho : ordOf d with
      | none => exact gx_asg (ex_callN (x := d) (eah_cons (EvD.h (ev_var rfl)) eah_nil) trivial (by unfold ordE; rw [ho])) (h2 C (wordE_no (.inr ho)))
      | some g =>
        have e1 : wordE C (dd, d) = .ok (lookT g (wordsF os n)) := by
          unfold wordE
          rw [show ordsOf (dd, d).1 = some os from hod, show ordOf (dd, d).2 = some g from ho]
          show Except.ok (lookT g (wordsF os (nOf os))) = _
          rw [hnn]
        refine q_asg (r := rpLI) (a := g) (EvN.d (ev_callN (x := d) (b := g) (ea_cons (ev_var rfl) ea_nil) trivial (by unfold ordE; rw [ho]))) ?_
        refine q_asg (r := rpOLI) (a := lookT g (wordsF os n)) (ev_dget1T (rv := rpLI) (a := ⟨wordsF os n⟩) (has_var (w := oxDTL) (j := 2) rfl) (ev_tuple (EvD.c (ev_var rfl)))) ?_
        cases hl : lookT g (wordsF os n) with
        | none =>
          refine g_if (et_B (ev_isN (r := rpLI) (EvD.h (ev_var rfl)))) (fun _ => ?_) (fun hb => by cases hb)
          exact g_ret (ev_non (r := rpLI)) (RetO.d (h1 none (by rw [e1, hl])))
        | some s =>
          refine g_if (et_B (ev_isN (r := rpLI) (EvD.h (ev_var rfl)))) (fun hb => by cases hb) fun _ => ?_
          refine g_as (i := 3) (r' := rpLI) (b := s) rfl (fun h => h) ?_
          exact g_ret (EvN.d (ev_list (EvD.c (ev_var rfl)))) fun v B' H' x z => (RetO.d (h1 (some s) (by rw [e1, hl]))) v B' H' x z⟩
structure MkdP (x : D × List Int) : Prop where
  v : ∀ os, ordsOf x.1 = some os → ∀ a ∈ x.2, 0 ≤ a ∧ a < (os.length : Int)
  l : x.2.length ≤ 90000
def makesE (C : Addr) (x : D × List Int) : Except Addr (List Int) := match ordsOf x.1 with
  | some os => .ok (byL os (nOf os) x.2)
  | none => .error C
theorem makesE_no {C : Addr} {x : D × List Int} (h : ordsOf x.1 = none) : makesE C x = .error C := by
  unfold makesE
  rw [h]
abbrev SpMksD (K : PySem.W.Frag) (C : Addr) : Sp := @SpW K (D × List Int) (List Int) rpLI (fun x : D × List Int => [.im rpD x.1, .im rpLI x.2]) MkdP (oxIm rpLI) (makesE C)
theorem ok_makes {C : Addr} (F : DefT K mg "makes" s_makes ["orders", "some"]) (bl : Blt mg) (d_checked_orders : Def P w K mg base 3 "checked_orders" ["orders"] (SpCosD K C)) (d_after : Def P w K mg base 3 "after" ["order", "other"] (SpAfter K C)) : Def P w K mg base 4 "makes" ["orders", "some"] (SpMksD K C) :=
  F.to fun f fd F => def_okW F sc_makes (fun _ => rfl) fun cdv A outer s H E hr => ⟨_, (pss_cons (ps_set (i := 2) sc_makes.nd rfl (Or.inl rfl) (pe_callD d_checked_orders hr (by rfl) (passes_call (takes_of rfl rfl rfl rfl) (fun _ _ _ _ h => h)) (pa_cons (pv 0) pa_nil)))
    (pss_cons (ps_set (i := 3) sc_makes.nd rfl (Or.inl rfl) (ke_listR rfl (by rfl) bl.list (prg_1 (by rfl) bl.range (pe_callB (kr_len K rfl) (by rfl) bl.len PySem.boot_len (pa_cons (pe_ix (kx_list K rfl) (pv 2) pe_int (fun _ _ => rfl)) pa_nil)))))
    (pss_cons (ps_for (passes_of rfl) rfl (kp_list K rfl (pv 1)) (pg_name (i := 4) sc_makes.nd rfl (Or.inl rfl))
    (pss_one (ps_set (i := 3) sc_makes.nd rfl (Or.inl rfl) (pe_callD d_after hr (by rfl) (passes_call (takes_of rfl rfl rfl rfl) (fun _ _ _ _ h => h)) (pa_cons (pv 3) (pa_cons (pe_ix (kx_list K rfl) (pv 2) (pv 4) (fun _ _ => rfl)) pa_nil))))))
    (pss_one (ps_ret (pv 3)))))), fun B x Q hp h1 h2 => by
    obtain ⟨d, v⟩ := x
    have hvl : v.length ≤ 90000 := hp.l
    cases hod : ordsOf d with
    | none =>
      show Goes ⟨K, B, H⟩ [.im rpD d, .im rpLI v, .un, .un, .un] _
      exact gx_asg (ex_callO (x := d) (w := oxIm rpLL) (eah_cons (EvD.h (ev_var rfl)) eah_nil) trivial (ordsE_no hod)) (h2 C (makesE_no hod))
    | some os =>
    have hv : ∀ a ∈ v, 0 ≤ a ∧ a < (os.length : Int) := hp.v os hod
    obtain ⟨ho, hx⟩ := ordsOf_is hod
    obtain ⟨n, hnn⟩ : ∃ n, nOf os = n := ⟨_, rfl⟩
    have e1 : makesE C (d, v) = .ok (byL os n v) := by
      unfold makesE
      rw [show ordsOf (d, v).1 = some os from hod]
      show Except.ok (byL os (nOf os) v) = _
      rw [hnn]
    rw [hnn] at ho
    subst hx
    have c1 := ho.c1
    have n5 := ho.n5
    show Goes ⟨K, B, H⟩ [.im rpD (ToD.d os), .im rpLI v, .un, .un, .un] _
    refine q_asg (r := rpLL) (a := os) (EvO.d (ev_callO (x := ToD.d os) (b := os) (w := oxIm rpLL) (ea_cons (ev_var rfl) ea_nil) trivial (ordsE_ok ho))) ?_
    refine g_ofDA (i := 0) (a := os) rfl ?_
    have h0 : os[0]? = some os[0] := List.getElem?_eq_getElem (by omega)
    have hn0 := (ho.ord os[0] (List.mem_of_getElem? h0)).2
    refine q_asg (r := rpLI) (a := idn n) (EvN.d (EvN.is (ev_listR1 (ev_len (EvD.c (ev_ix (xs := os) (EvD.c (ev_var rfl)) ev_int (atI_toNat (Int.le_refl 0) h0)))) (by omega) (by omega)) (by rw [Int.toNat_natCast, hn0]; rfl))) ?_
    refine g_any 4 ?_
    refine q_for (xs := v) (fun k T' => T' = [.im rpLL os, .im rpLI v, .im rpLL os, .im rpLI (byL os n (v.take k)), .any]) (ei_list (ev_var rfl)) rfl (fun B1 up k a T' hk hI => ?_) (fun T' hI => ?_)
    · subst hI
      have ha := hv a (List.mem_of_getElem? hk)
      have ho1 : os[a.toNat]? = some os[a.toNat] := List.getElem?_eq_getElem (by omega)
      have ho2 := ho.ord _ (List.mem_of_getElem? ho1)
      have e : os.getD a.toNat [] = os[a.toNat] := by rw [List.getD_eq_getElem?_getD, ho1]; rfl
      have hb := byL_ord ho (v := v.take k) fun b hb => hv b (List.mem_of_mem_take hb)
      rw [byL_take hk, e]
      generalize byL os n (v.take k) = row at hb
      refine ⟨_, eg_name, ?_⟩
      exact g_asg (r := rpLI) (a := aft row os[a.toNat]) (EvN.d (ev_callN (x := (ToD.d row, ToD.d os[a.toNat])) (b := aft row os[a.toNat]) (ea_cons (EvD.toD (α := List Int) (a := row) (ev_var rfl)) (ea_cons (EvD.toD (α := List Int) (a := os[a.toNat]) (ev_ix (xs := os) (EvD.c (ev_var rfl)) (ev_var rfl) (atI_toNat ha.1 ho1))) ea_nil)) trivial (aftE_ok hb.1 ho2.1 (by rw [hb.2, ho2.2])))) (g_any 4 (g_at rfl))
    · subst hI
      rw [List.take_length]
      exact g_ret (ev_var rfl) (RetO.d (h1 _ e1))⟩
/-! ### l_orders28 -/
def osN (s : Scr) : Int := if slarge s = true then 1 + cell s 0 % 5 else 1 + cell s 0 % 4
def osM (s : Scr) : Int := 1 + cell s 1 % 4
def osS (s : Scr) : Ords := (rng 0 (osM s).toNat).map fun k => orderL s (2 + 4 * k) (osN s)
theorem osN_ok (s : Scr) : 1 ≤ osN s ∧ osN s ≤ 5 := by unfold osN; split <;> omega
theorem osS_ok (s : Scr) : OsOk (osS s) (osN s).toNat := by
  obtain ⟨h1, h2⟩ := osN_ok s
  have hm : 1 ≤ osM s ∧ osM s ≤ 4 := by unfold osM; omega
  have hl : (osS s).length = (osM s).toNat := by unfold osS; rw [List.length_map, rng_len]
  refine ⟨by omega, by omega, by omega, by omega, fun o ho => ?_⟩
  obtain ⟨k, _, rfl⟩ := List.mem_map.mp ho
  exact ⟨orderL_ord h1 (by omega), orderL_len⟩
abbrev SpLos (K : PySem.W.Frag) : Sp := SpN K (fun s : Scr => [.im rpScr s]) (fun s => s.cells.length ≤ 63) rpLI fun s => .ok (osS s)
theorem ok_orders (F : DefT K mg "_law_orders" s_l_orders ["_law_script"]) (bl : Blt mg) (d_l_large : Def P w K mg base 2 "_law_large" ["_law_script"] (SpLarge K)) (d_l_cell : Def P w K mg base 1 "_law_cell" ["_law_script", "_law_k"] (SpCell K)) (d_l_order : Def P w K mg base 2 "_law_order" ["_law_script", "_law_at", "_law_many"] (SpLorder K)) : Def P w K mg base 3 "_law_orders" ["_law_script"] (SpLos K) :=
  F.to fun f fd F => def_okN F sc_l_orders (fun _ => rfl) fun cdv A outer s H E hr => ⟨_, (pss_cons (ps_set (i := 1) sc_l_orders.nd rfl (Or.inr rfl) (pe_op op_add pe_int (pe_op op_mod (pe_callD d_l_cell hr (by rfl) (passes_call (takes_of rfl rfl rfl rfl) (fun _ _ _ _ h => h)) (pa_cons (pv 0) (pa_cons pe_int pa_nil))) pe_int)))
    (pss_cons (ps_if (pt_val (pe_callD d_l_large hr (by rfl) (passes_call (takes_of rfl rfl rfl rfl) (fun _ _ _ _ h => h)) (pa_cons (pv 0) pa_nil))) (pss_one (ps_set (i := 1) sc_l_orders.nd rfl (Or.inr rfl) (pe_op op_add pe_int (pe_op op_mod (pe_callD d_l_cell hr (by rfl) (passes_call (takes_of rfl rfl rfl rfl) (fun _ _ _ _ h => h)) (pa_cons (pv 0) (pa_cons pe_int pa_nil))) pe_int)))) pss_nil)
    (pss_cons (ps_if (pt_cmpR op_gt (pe_callB (kr_len K rfl) (by rfl) bl.len PySem.boot_len (pa_cons (pv 0) pa_nil)) pe_int (nomark _)) (pss_one (ps_set (i := 1) sc_l_orders.nd rfl (Or.inr rfl) (pe_op op_add pe_int (pe_op op_mod (pe_callD d_l_cell hr (by rfl) (passes_call (takes_of rfl rfl rfl rfl) (fun _ _ _ _ h => h)) (pa_cons (pv 0) (pa_cons pe_int pa_nil))) pe_int)))) pss_nil)
    (pss_cons (ps_set (i := 2) sc_l_orders.nd rfl (Or.inl rfl) (pe_op op_add pe_int (pe_op op_mod (pe_callD d_l_cell hr (by rfl) (passes_call (takes_of rfl rfl rfl rfl) (fun _ _ _ _ h => h)) (pa_cons (pv 0) (pa_cons pe_int pa_nil))) pe_int)))
    (pss_one (ps_ret (pe_lc (own := [("_law_k", 3)]) (g := gName 3) (tt := tYes) rfl sc_l_orders.nd (pi_range1 (by rfl) bl.range (pa_cons (pv 2) pa_nil)) (blkOk_by (own := [("_law_k", 3)]) (N := ["_law_script", "_law_many", "_law_count", "_law_k"]) (sc := defScope s_l_orders) (by decide +kernel)) (fun _ _ _ _ _ => (pg_name (i := 3) sc_l_orders.nd rfl (Or.inl rfl))) (fun _ _ _ _ _ => pts_nil) (fun _ _ _ _ _ => (pe_callD d_l_order hr (by rfl) passL (pa_cons (pv 0) (pa_cons (pe_op op_add pe_int (pe_op op_mul pe_int (pv 3))) (pa_cons (pv 1) pa_nil)))))))))))), fun B s Q hp h1 h2 => by
    have hp : s.cells.length ≤ 63 := hp
    show Goes ⟨K, B, H⟩ [.im rpScr s, .un, .un, .un] _
    have cl : ∀ {G : Cn} {T : List Ty} {E : XK} {te : TE} {i : Int}, G.K = K → T[0]? = some (.im rpScr s) → EvD G te T rpInt i → 0 ≤ i → EvD G (tCall (SpCell G.K) [] E (tCons (tVar 0) (tCons te tNil))) T rpInt (cell s i) := fun _ h h2 h3 => ev_call (x := (s, _)) (ea_cons (ev_var h) (ea_cons h2 ea_nil)) h3 rfl
    refine q_asg (a := 1 + cell s 0 % 4) (ev_opI ev_int (ev_opC (cl rfl rfl ev_int (Int.le_refl 0)) ev_int (by decide))) ?_
    obtain ⟨n1, n5⟩ := osN_ok s
    refine q_whenJ (T' := [.im rpScr s, .im rpInt (osN s), .un, .un]) (et_B (ev_call (x := s) (ea_cons (ev_var rfl) ea_nil) hp rfl)) (fun hb next => ?_) (fun hb next => ?_) ?_
    · unfold osN at next
      rw [if_pos hb] at next
      exact g_asg (ev_opI ev_int (ev_opC (cl rfl rfl ev_int (Int.le_refl 0)) ev_int (by decide))) next
    · unfold osN at next
      rw [if_neg (by rw [hb]; decide)] at next
      exact next
    · refine q_when (et_test (ev_opB (ev_len (EvD.cs (ev_var rfl))) ev_int)) (fun hb => ?_) (fun _ => ?_)
      · have := of_decide_eq_true hb
        omega
      · have hm : 1 ≤ osM s ∧ osM s ≤ 4 := by unfold osM; omega
        refine q_asg (a := osM s) (ev_opI ev_int (ev_opC (cl rfl rfl ev_int (by decide)) ev_int (by decide))) ?_
        refine g_retN (ev_lcA (fun k => orderL s (2 + 4 * k) (osN s)) (ei_rng1 (ev_var rfl) (by omega) (by omega)) (own_name (by decide)) (fun k hk => ⟨_, eg_name, ?_⟩) (by rw [rng_len]; omega)) (h1 _ rfl)
        have hk0 : 0 ≤ k ∧ k < 4 := by
          obtain ⟨j, hj⟩ := List.mem_iff_getElem?.mp hk
          obtain ⟨a, b⟩ := rng_get hj
          omega
        exact EvN.d (ev_callN (x := (s, 2 + 4 * k, osN s)) (ea_cons (ev_var rfl) (ea_cons (ev_opI ev_int (ev_opC ev_int (ev_var rfl) (.inl (by decide)))) (ea_cons (ev_var rfl) ea_nil))) ⟨show 0 ≤ 2 + 4 * k by omega, show 0 ≤ osN s by omega, show osN s ≤ 1000 by omega⟩ rfl)⟩
/-! ### k28 -/
abbrev SpRef28 (K : PySem.W.Frag) : Sp := SpX K (fun x : D × D × Int => [.im rpD x.1, .im rpD x.2.1, .im rpInt x.2.2]) (fun x => ordsOf x.1 = none ∨ (x.2.2 = 1 ∧ ordOf x.2.1 = none)) rpBool fun _ => .ok true
theorem ok_refused {C : Addr} (F : DefT K mg "_law_refused" s_l_refused ["_law_orders_here", "_law_goal", "_law_way"]) (bl : Blt mg) (c_BadOrder : ECls K mg "BadOrder" C) (d_made : Def P w K mg base 5 "made" ["orders"] (SpMdD K C)) (d_word : Def P w K mg base 5 "word" ["orders", "goal"] (SpWdD K C)) (d_makes : Def P w K mg base 4 "makes" ["orders", "some"] (SpMksD K C)) : Def P w K mg base 6 "_law_refused" ["_law_orders_here", "_law_goal", "_law_way"] (SpRef28 K) :=
  F.to fun f fd F => def_ok F sc_l_refused (fun _ => rfl) fun cdv A outer s H E hr => ⟨_, (pss_cons (ps_try_only rfl rfl ⟨rfl, by decide, .inl c_BadOrder.mg⟩ takes0 (fun W pn xe tk po => (pss_one (ps_if (pt_cmpR op_eq (pv 2) pe_int (nomark _)) (pss_one (ps_expr (pe_callDS d_made hr (by rfl) (fun σ => passAt tk σ) (pa_cons (pv 0) pa_nil)))) (pss_one (ps_if (pt_cmpR op_eq (pv 2) pe_int (nomark _)) (pss_one (ps_expr (pe_callDS d_word hr (by rfl) (fun σ => passAt tk σ) (pa_cons (pv 0) (pa_cons (pv 1) pa_nil))))) (pss_one (ps_expr (pe_callDS d_makes hr (by rfl) (fun σ => passAt tk σ) (pa_cons (pv 0) (pa_cons (pe_lst pa_nil) pa_nil)))))))))) (fun a oe cls d pn hz hf => (pss_one (ps_ret pe_bl))))
    (pss_one (ps_ret pe_bl))), fun B x Q hp h1 h2 => by
    obtain ⟨d, g, way⟩ := x
    have hp : ordsOf d = none ∨ (way = 1 ∧ ordOf g = none) := hp
    show Goes ⟨K, B, H⟩ [.im rpD d, .im rpD g, .im rpInt way] _
    refine q_try ?_
    refine g_if (et_test (ev_eqI (ev_var rfl) ev_int)) (fun hb => ?_) (fun hb0 => ?_)
    · have hb : way = 0 := of_decide_eq_true hb
      have hd : ordsOf d = none := hp.resolve_right fun z => by have := z.1; omega
      exact gt_drop (ex_callTN (x := d) (eah_cons (EvD.h (ev_var rfl)) eah_nil) trivial (madeE_no hd)) (g_only c_BadOrder.exms fun a => g_ret ev_bl (h1 true rfl))
    refine g_if (et_test (ev_eqI (ev_var rfl) ev_int)) (fun _ => ?_) (fun hb => ?_)
    · exact gt_drop (ex_callTW (x := (d, g)) (w := oxIm rpOLI) (eah_cons (EvD.h (ev_var rfl)) (eah_cons (EvD.h (ev_var rfl)) eah_nil)) trivial (wordE_no (hp.imp id fun z => z.2))) (g_only c_BadOrder.exms fun a => g_ret ev_bl (h1 true rfl))
    · have hb : ¬ way = 1 := of_decide_eq_false hb
      have hd : ordsOf d = none := hp.resolve_right fun z => hb z.1
      exact gt_drop (ex_callTW (x := (d, ([] : List Int))) (w := oxIm rpLI) (eah_cons (EvD.h (ev_var rfl)) (eah_cons (EvD.h (EvN.d (ev_lst (r := rpInt) el_nil (show (0 : Nat) ≤ 100000 by decide)))) eah_nil)) ⟨fun os ho => (by rw [show ordsOf (d, ([] : List Int)).1 = none from hd] at ho; cases ho), (show 0 ≤ 90000 by decide)⟩ (makesE_no hd)) (g_only c_BadOrder.exms fun a => g_ret ev_bl (h1 true rfl))⟩
abbrev SpBase28 (K : PySem.W.Frag) : Sp := SpX K (fun x : D => [.im rpD x]) (fun x => ordsOf x = none) rpBool fun _ => .ok true
theorem ok_by_base {C S : Addr} (F : DefT K mg "_law_by_base" s_l_by_base ["_law_orders_here"]) (bl : Blt mg) (b_SwitchError : EBase K mg "SwitchError" S) (u_BadOrder : EUp K C S) (d_made : Def P w K mg base 5 "made" ["orders"] (SpMdD K C)) :
    Def P w K mg base 6 "_law_by_base" ["_law_orders_here"] (SpBase28 K) :=
  F.to fun f fd F => def_ok F sc_l_by_base (fun _ => rfl) fun cdv A outer s H E hr => ⟨_, (pss_cons (ps_try_as (i := 1) rfl rfl sc_l_by_base.nd rfl rfl ⟨rfl, by decide, .inl b_SwitchError.mg⟩ takes0 (fun W pn xe tk po => (pss_one (ps_expr (pe_callDS d_made hr (by rfl) (fun σ => passAt tk σ) (pa_cons (pv 0) pa_nil))))) (fun a oe cls d pn hz hf => (pss_one (ps_ret (pe_callB (call_isEg hz hf) (by rfl) bl.isinstance (by decide +kernel) (pa_cons (pv 1) (pa_cons (pe_bltn (v := .ty "ValueError") (by rfl) bl.ValueError (by decide +kernel) rfl) pa_nil)))))))
    (pss_one (ps_ret pe_bl))), fun B d Q hp h1 h2 => by
    have hp : ordsOf d = none := hp
    show Goes ⟨K, B, H⟩ [.im rpD d, .un] _
    exact q_tryDropX (ex_callTN (x := d) (eah_cons (EvD.h (ev_var rfl)) eah_nil) trivial (madeE_no hp)) (g_asBase (show 1 < 2 by decide) (b_SwitchError.exm u_BadOrder) u_BadOrder.exc u_BadOrder.kit (h1 true rfl))⟩
theorem bad_of {ds : List D} (h : ¬ (1 ≤ ds.length ∧ ds.length ≤ 4) ∨ (∃ x ∈ ds, ordOf x = none) ∨ (∃ x ∈ ds, ∃ o, ordOf x = some o ∧ 5 < o.length) ∨ ∃ x ∈ ds, ∃ y ∈ ds, ∃ o o', ordOf x = some o ∧ ordOf y = some o' ∧ o.length ≠ o'.length) : ordsOf (.lst ds) = none := by
  cases h' : ordsOf (.lst ds) with
  | none => rfl
  | some os =>
    obtain ⟨ho, e⟩ := ordsOf_is h'
    have e : ds = os.map ToD.d := D.lst.inj e
    have key : ∀ x ∈ ds, ∃ o, ordOf x = some o ∧ o.length = nOf os := fun x hx => by
      rw [e] at hx
      obtain ⟨o, hm, rfl⟩ := List.mem_map.mp hx
      obtain ⟨h1, h2⟩ := ho.ord o hm
      exact ⟨o, ordOf_ord h1, h2⟩
    have n5 := ho.n5
    rcases h with h | ⟨x, hx, h⟩ | ⟨x, hx, o, h, hl⟩ | ⟨x, hx, y, hy, o, o', h, h', hl⟩
    · rw [e, List.length_map] at h
      exact (h ⟨ho.c1, ho.c4⟩).elim
    · obtain ⟨o, h1, _⟩ := key x hx
      rw [h] at h1
      cases h1
    · obtain ⟨o', h1, h2⟩ := key x hx
      rw [h] at h1
      cases h1
      omega
    · obtain ⟨p, h1, h2⟩ := key x hx
      obtain ⟨p', h3, h4⟩ := key y hy
      rw [h] at h1
      rw [h'] at h3
      cases h1
      cases h3
      omega
theorem toD_list (ds : List D) : ToD.d (α := List D) ds = .lst ds := by
  show D.lst (ds.map fun d => d) = _
  rw [List.map_id']
def odd28 (n : Nat) : List D := [.tup [.int 0, .int 1], .non, .lst [.int 0, .int 0], .lst [.int 1], .lst [.int 0, .int 1, .int 2, .int 3, .int 4, .int 5], .lst [.bl true], .str (Str.ofString "0"), ToD.d (idn n ++ [(n : Int)])]
theorem idn_succ (n : Nat) : idn n ++ [(n : Int)] = idn (n + 1) := by
  unfold idn rng
  rw [List.range_succ, List.map_append]
  show _ ++ [(n : Int)] = _ ++ [(0 : Int) + n]
  rw [Int.zero_add]
theorem odd_no {n : Nat} (h1 : 1 ≤ n) (h5 : n ≤ 5) : ∀ x ∈ odd28 n, ordOf x = none ∨ ∃ o, ordOf x = some o ∧ o.length ≠ n := by
  intro x hx
  unfold odd28 at hx
  simp only [List.mem_cons, List.not_mem_nil, or_false] at hx
  rcases hx with rfl | rfl | rfl | rfl | rfl | rfl | rfl | rfl
  · exact .inl rfl
  · exact .inl rfl
  · exact .inl (by decide)
  · exact .inl (by decide)
  · exact .inr ⟨[0, 1, 2, 3, 4, 5], by decide, by show 6 ≠ n; omega⟩
  · exact .inl (by decide)
  · exact .inl rfl
  · rw [idn_succ]
    exact .inr ⟨_, ordOf_ord (ord_rng (n := n + 1) (by omega) (by omega)), by show (rng 0 (n + 1)).length ≠ n; rw [rng_len]; omega⟩
def mid28 (os : Ords) (k : Nat) (x : D) : List D := ((os.map ToD.d).take k ++ [x]) ++ (os.map ToD.d).drop k
theorem mid_no {os : Ords} {n k : Nat} (ho : OsOk os n) {x : D} (hx : ordOf x = none ∨ ∃ o, ordOf x = some o ∧ o.length ≠ n) : ordsOf (.lst (mid28 os k x)) = none := by
  have c1 : 0 < os.length := ho.c1
  have hm : x ∈ mid28 os k x := List.mem_append_left _ (List.mem_append_right _ (List.mem_singleton.mpr rfl))
  have h0 : os[0]? = some os[0] := List.getElem?_eq_getElem ho.c1
  have hm0 : ToD.d os[0] ∈ mid28 os k x := by
    have h1 : ToD.d os[0] ∈ os.map ToD.d := List.mem_map.mpr ⟨_, List.mem_of_getElem? h0, rfl⟩
    rw [← List.take_append_drop k (os.map ToD.d)] at h1
    rcases List.mem_append.mp h1 with z | z
    · exact List.mem_append_left _ (List.mem_append_left _ z)
    · exact List.mem_append_right _ z
  have hord := ho.ord os[0] (List.mem_of_getElem? h0)
  refine bad_of ?_
  rcases hx with h | ⟨o, h, hl⟩
  · exact .inr (.inl ⟨x, hm, h⟩)
  · exact .inr (.inr (.inr ⟨x, hm, _, hm0, o, os[0], h, ordOf_ord hord.1, by rw [hord.2]; exact hl⟩))
def alt28 (os : Ords) (n : Nat) : List D := [.lst [], .non, ToD.d (⟨os⟩ : TL (List Int)), ToD.d (List.replicate (5 : Int).toNat [idn n]).flatten, .int 7, ToD.d [idn (6 : Int).toNat], ToD.d (List.replicate (2 : Int).toNat [idn (6 : Int).toNat]).flatten]
theorem six_ord : ordOf (ToD.d (idn 6)) = some (idn 6) := ordOf_ord (ord_rng (n := 6) (by decide) (by decide))
theorem alt_no {os : Ords} {n : Nat} : ∀ x ∈ alt28 os n, ordsOf x = none := by
  intro x hx
  unfold alt28 at hx
  simp only [List.mem_cons, List.not_mem_nil, or_false] at hx
  have h6 : 5 < (idn 6).length := by unfold idn; rw [rng_len]; decide
  rcases hx with rfl | rfl | rfl | rfl | rfl | rfl | rfl
  · rfl
  · rfl
  · rfl
  · exact bad_of (ds := [ToD.d (idn n), ToD.d (idn n), ToD.d (idn n), ToD.d (idn n), ToD.d (idn n)]) (.inl fun z => absurd z.2 (show ¬ 5 ≤ 4 by decide))
  · rfl
  · exact bad_of (ds := [ToD.d (idn 6)]) (.inr (.inr (.inl ⟨_, List.mem_cons_self, _, six_ord, h6⟩)))
  · exact bad_of (ds := [ToD.d (idn 6), ToD.d (idn 6)]) (.inr (.inr (.inl ⟨_, List.mem_cons_self, _, six_ord, h6⟩)))
def none28 : List D := [.non, .lst [.int 0, .int 0], .tup [.int 0], .lst [.int 1], .str (Str.ofString "0"), .lst [.bl true]]
theorem none_no : ∀ x ∈ none28, ordOf x = none := by
  intro x hx
  unfold none28 at hx
  simp only [List.mem_cons, List.not_mem_nil, or_false] at hx
  rcases hx with rfl | rfl | rfl | rfl | rfl | rfl
  · rfl
  · decide
  · rfl
  · decide
  · rfl
  · decide
theorem getD_mem2 {α : Type} {l : List α} {i : Nat} {d : α} (h : i < l.length) : l.getD i d ∈ l := by
  rw [List.getD_eq_getElem?_getD, List.getElem?_eq_getElem h]
  exact List.getElem_mem h
def bad28 (s : Scr) (os : Ords) (n : Nat) : D := if cell s 2 % 4 = 0 then (alt28 os n).getD (cell s 3 % 7).toNat .non else ToD.d (mid28 os (cell s 4 % ((os.length : Int) + 1)).toNat ((odd28 n).getD (cell s 3 % 8).toNat .non))
theorem bad28_no (s : Scr) {os : Ords} {n : Nat} (ho : OsOk os n) : ordsOf (bad28 s os n) = none := by
  unfold bad28
  split
  · exact alt_no _ (getD_mem2 (by show _ < 7; omega))
  · rw [toD_list]
    exact mid_no ho (odd_no ho.n1 ho.n5 _ (getD_mem2 (by show _ < 8; omega)))
theorem ok_law {f : Addr} {fd : FuncData} (F : Fun K "law" "law" s_law f fd) (bl : Blt mg) (d_l_orders : Def P w K mg base 3 "_law_orders" ["_law_script"] (SpLos K)) (d_l_cell : Def P w K mg base 1 "_law_cell" ["_law_script", "_law_k"] (SpCell K)) (d_l_refused : Def P w K mg base 6 "_law_refused" ["_law_orders_here", "_law_goal", "_law_way"] (SpRef28 K)) (d_l_by_base : Def P w K mg base 6 "_law_by_base" ["_law_orders_here"] (SpBase28 K)) : FnOk P w K mg base (L2.CX P w) 7 f fd ["_law_script"] (SpLaw K) :=
  def_ok F sc_law (fun _ => rfl) fun cdv A outer s H E hr => ⟨_, (pss_cons (ps_set (i := 1) sc_law.nd rfl (Or.inl rfl) (pe_callD d_l_orders hr (by rfl) (passes_call (takes_of rfl rfl rfl rfl) (fun _ _ _ _ h => h)) (pa_cons (pv 0) pa_nil)))
    (pss_cons (ps_set (i := 2) sc_law.nd rfl (Or.inl rfl) (ke_listR rfl (by rfl) bl.list (prg_1 (by rfl) bl.range (pe_callB (kr_len K rfl) (by rfl) bl.len PySem.boot_len (pa_cons (pe_ix (kx_list K rfl) (pv 1) pe_int (fun _ _ => rfl)) pa_nil)))))
    (pss_cons (ps_set (i := 3) sc_law.nd rfl (Or.inl rfl) (pe_ix (kx_list K rfl) (pe_lst (pa_cons (pe_tup (pa_cons pe_int (pa_cons pe_int pa_nil))) (pa_cons pe_non (pa_cons (pe_lst (pa_cons pe_int (pa_cons pe_int pa_nil))) (pa_cons (pe_lst (pa_cons pe_int pa_nil)) (pa_cons (pe_lst (pa_cons pe_int (pa_cons pe_int (pa_cons pe_int (pa_cons pe_int (pa_cons pe_int (pa_cons pe_int pa_nil))))))) (pa_cons (pe_lst (pa_cons pe_bl pa_nil)) (pa_cons pe_str (pa_cons (pe_op op_cat (pv 2) (pe_lst (pa_cons (pe_callB (kr_len K rfl) (by rfl) bl.len PySem.boot_len (pa_cons (pv 2) pa_nil)) pa_nil))) pa_nil))))))))) (pe_op op_mod (pe_callD d_l_cell hr (by rfl) (passes_call (takes_of rfl rfl rfl rfl) (fun _ _ _ _ h => h)) (pa_cons (pv 0) (pa_cons pe_int pa_nil))) pe_int) (fun _ _ => rfl)))
    (pss_cons (ps_set (i := 4) sc_law.nd rfl (Or.inl rfl) (pe_op op_mod (pe_callD d_l_cell hr (by rfl) (passes_call (takes_of rfl rfl rfl rfl) (fun _ _ _ _ h => h)) (pa_cons (pv 0) (pa_cons pe_int pa_nil))) (pe_op op_add (pe_callB (kr_len K rfl) (by rfl) bl.len PySem.boot_len (pa_cons (pv 1) pa_nil)) pe_int)))
    (pss_cons (ps_set (i := 5) sc_law.nd rfl (Or.inl rfl) (pe_op op_cat (pe_op op_cat (pe_slice (ks_list K rfl) (pv 1) po_none (po_some (pv 4))) (pe_lst (pa_cons (pv 3) pa_nil))) (pe_slice (ks_list K rfl) (pv 1) (po_some (pv 4)) po_none)))
    (pss_cons (ps_if (pt_cmpR op_eq (pe_op op_mod (pe_callD d_l_cell hr (by rfl) (passes_call (takes_of rfl rfl rfl rfl) (fun _ _ _ _ h => h)) (pa_cons (pv 0) (pa_cons pe_int pa_nil))) pe_int) pe_int (nomark _)) (pss_one (ps_set (i := 5) sc_law.nd rfl (Or.inl rfl) (pe_ix (kx_list K rfl) (pe_lst (pa_cons (pe_lst pa_nil) (pa_cons pe_non (pa_cons (pe_callTy (kr_tuple K rfl) (by rfl) bl.tuple (by decide +kernel) (pa_cons (pv 1) pa_nil)) (pa_cons (pe_op op_rep (pe_lst (pa_cons (pv 2) pa_nil)) pe_int) (pa_cons pe_int (pa_cons (pe_lst (pa_cons (ke_listR rfl (by rfl) bl.list (prg_1 (by rfl) bl.range pe_int)) pa_nil)) (pa_cons (pe_op op_rep (pe_lst (pa_cons (ke_listR rfl (by rfl) bl.list (prg_1 (by rfl) bl.range pe_int)) pa_nil)) pe_int) pa_nil)))))))) (pe_op op_mod (pe_callD d_l_cell hr (by rfl) (passes_call (takes_of rfl rfl rfl rfl) (fun _ _ _ _ h => h)) (pa_cons (pv 0) (pa_cons pe_int pa_nil))) pe_int) (fun _ _ => rfl)))) pss_nil)
    (pss_cons (ps_for (passes_of rfl) rfl (pi_range1 (by rfl) bl.range (pa_cons pe_int pa_nil)) (pg_name (i := 6) sc_law.nd rfl (Or.inl rfl))
    (pss_one (ps_if (pt_not (pt_val (pe_callD d_l_refused hr (by rfl) (passes_call (takes_of rfl rfl rfl rfl) (fun _ _ _ _ h => h)) (pa_cons (pv 5) (pa_cons (pv 2) (pa_cons (pv 6) pa_nil)))))) (pss_one (ps_ret pe_bl)) pss_nil)))
    (pss_cons (ps_set (i := 7) sc_law.nd rfl (Or.inl rfl) (pe_ix (kx_list K rfl) (pe_lst (pa_cons pe_non (pa_cons (pe_lst (pa_cons pe_int (pa_cons pe_int pa_nil))) (pa_cons (pe_tup (pa_cons pe_int pa_nil)) (pa_cons (pe_lst (pa_cons pe_int pa_nil)) (pa_cons pe_str (pa_cons (pe_lst (pa_cons pe_bl pa_nil)) pa_nil))))))) (pe_op op_mod (pe_callD d_l_cell hr (by rfl) (passes_call (takes_of rfl rfl rfl rfl) (fun _ _ _ _ h => h)) (pa_cons (pv 0) (pa_cons pe_int pa_nil))) pe_int) (fun _ _ => rfl)))
    (pss_one (ps_ret (pe_and (pe_callD d_l_by_base hr (by rfl) (passes_call (takes_of rfl rfl rfl rfl) (fun _ _ _ _ h => h)) (pa_cons (pv 5) pa_nil)) (pe_one (pe_callD d_l_refused hr (by rfl) (passes_call (takes_of rfl rfl rfl rfl) (fun _ _ _ _ h => h)) (pa_cons (pv 1) (pa_cons (pv 7) (pa_cons pe_int pa_nil)))))))))))))))), fun B s Q hp h1 h2 => by
    have hp : s.cells.length ≤ 63 := hp
    have cl : ∀ {G : Cn} {T : List Ty} {E : XK} {te : TE} {i : Int}, G.K = K → T[0]? = some (.im rpScr s) → EvD G te T rpInt i → 0 ≤ i → EvD G (tCall (SpCell G.K) [] E (tCons (tVar 0) (tCons te tNil))) T rpInt (cell s i) := fun _ h h2 h3 => ev_call (x := (s, _)) (ea_cons (ev_var h) (ea_cons h2 ea_nil)) h3 rfl
    show Goes ⟨K, B, H⟩ [.im rpScr s, .un, .un, .un, .un, .un, .un, .un] _
    refine q_asg (r := rpLL) (a := osS s) (EvN.d (ev_callN (x := s) (b := osS s) (ea_cons (ev_var rfl) ea_nil) hp rfl)) ?_
    obtain ⟨n, ho⟩ : ∃ n, OsOk (osS s) n := ⟨_, osS_ok s⟩
    generalize osS s = os at ho
    have c1 := ho.c1
    have c4 := ho.c4
    have n5 := ho.n5
    have n1 := ho.n1
    have h0 : os[0]? = some os[0] := List.getElem?_eq_getElem (by omega)
    have hn0 := (ho.ord os[0] (List.mem_of_getElem? h0)).2
    have hil : (idn n).length = n := rng_len
    refine q_asg (r := rpLI) (a := idn n) (EvN.d (EvN.is (ev_listR1 (ev_len (EvD.c (ev_ix (xs := os) (EvD.c (ev_var rfl)) ev_int (atI_toNat (Int.le_refl 0) h0)))) (by omega) (by omega)) (by rw [Int.toNat_natCast, hn0]; rfl))) ?_
    have z8 : (0 : Int) ≤ cell s 3 % 8 := by omega
    refine q_asg (r := rpD) (a := (odd28 n).getD (cell s 3 % 8).toNat .non) (ev_ix (EvN.c (ev_lst (r := rpD) (xs := odd28 n) (el_cons (EvD.toD (α := Int × Int) (a := (0, 1)) (ev_pair ev_int ev_int)) (el_cons (EvD.toD (α := Unit) (a := ()) ev_unit) (el_cons (EvD.toD (α := List Int) (a := [0, 0]) (EvN.d (ev_lst (r := rpInt) (el_cons ev_int (el_cons ev_int el_nil)) (show (2 : Nat) ≤ 100000 by decide)))) (el_cons (EvD.toD (α := List Int) (a := [1]) (EvN.d (ev_lst (r := rpInt) (el_cons ev_int el_nil) (show (1 : Nat) ≤ 100000 by decide)))) (el_cons (EvD.toD (α := List Int) (a := [0, 1, 2, 3, 4, 5]) (EvN.d (ev_lst (r := rpInt) (el_cons ev_int (el_cons ev_int (el_cons ev_int (el_cons ev_int (el_cons ev_int (el_cons ev_int el_nil)))))) (show (6 : Nat) ≤ 100000 by decide)))) (el_cons (EvD.toD (α := List Bool) (a := [true]) (EvN.d (ev_lst (r := rpBool) (el_cons ev_bl el_nil) (show (1 : Nat) ≤ 100000 by decide)))) (el_cons (EvD.toD (α := Str) ev_str) (el_cons (EvD.toD (α := List Int) (a := idn n ++ [(n : Int)]) (EvN.d (ev_catK (EvD.k (ev_var rfl)) (EvN.k (ev_lst (r := rpInt) (xs := [(n : Int)]) (el_cons (EvD.is (ev_len (EvD.c (ev_var rfl))) (by rw [hil])) el_nil) (show (1 : Nat) ≤ 100000 by decide))) (by rw [hil, List.length_singleton]; omega)))) el_nil)))))))) (show (8 : Nat) ≤ 100000 by decide))) (ev_opC (cl rfl rfl ev_int (by decide)) ev_int (show (0 : Int) < 8 by decide)) (atI_getD (l := odd28 n) (d := D.non) z8 (by show cell s 3 % 8 < 8; omega))) ?_
    have hat : 0 ≤ cell s 4 % ((os.length : Int) + 1) ∧ cell s 4 % ((os.length : Int) + 1) < (os.length : Int) + 1 := ⟨Int.emod_nonneg _ (by omega), Int.emod_lt_of_pos _ (by omega)⟩
    refine q_asg (a := cell s 4 % ((os.length : Int) + 1)) (ev_opC (cl rfl rfl ev_int (by decide)) (ev_opI (ev_len (EvD.c (ev_var rfl))) ev_int) (show (0 : Int) < (os.length : Int) + 1 by omega)) ?_
    have hbad := bad28_no s ho
    have hbd : bad28 s os n = if cell s 2 % 4 = 0 then (alt28 os n).getD (cell s 3 % 7).toNat .non else ToD.d (mid28 os (cell s 4 % ((os.length : Int) + 1)).toNat ((odd28 n).getD (cell s 3 % 8).toNat .non)) := rfl
    generalize bad28 s os n = bd at hbad hbd
    generalize cell s 4 % ((os.length : Int) + 1) = at_ at hat hbd
    generalize (odd28 n).getD (cell s 3 % 8).toNat .non = od at hbd
    have eoD : ∀ {T : List Ty}, T[1]? = some (.im rpLL os) → EvD ⟨K, B, H⟩ (tVar 1) T (@rpList D rpD) (os.map ToD.d) := fun h => EvD.dl (EvD.toD (α := Ords) (a := os) (ev_var h))
    have hml : (os.map (ToD.d (α := List Int))).length ≤ 4 := by rw [List.length_map]; omega
    refine q_asg (r := rpD) (a := ToD.d (mid28 os at_.toNat od)) (EvD.toD (α := List D) (EvN.d (ev_catK (EvN.k (ev_catK (EvN.k (ev_to (xs := os.map ToD.d) (EvD.c (eoD rfl)) (ev_var rfl) hat.1)) (EvN.k (ev_lst (r := rpD) (el_cons (ev_var rfl) el_nil) (show (1 : Nat) ≤ 100000 by decide))) (by rw [List.length_take, List.length_singleton]; omega))) (EvN.k (ev_from (xs := os.map ToD.d) (EvD.c (eoD rfl)) (ev_var rfl) hat.1)) (by rw [List.length_append, List.length_take, List.length_drop, List.length_singleton]; omega)))) ?_
    have z7 : (0 : Int) ≤ cell s 3 % 7 := by omega
    refine q_whenJ (b := decide (cell s 2 % 4 = 0)) (T' := [.im rpScr s, .im rpLL os, .im rpLI (idn n), .im rpD od, .im rpInt at_, .im rpD bd, .un, .un]) (et_test (ev_eqI (ev_opC (cl rfl rfl ev_int (by decide)) ev_int (by decide)) ev_int)) (fun hb next => ?_) (fun hb next => ?_) ?_
    · rw [hbd, if_pos (of_decide_eq_true hb)] at next
      exact g_asg (r := rpD) (ev_ix (EvN.c (ev_lst (r := rpD) (xs := alt28 os n) (el_cons (EvD.toD (α := List Int) (a := []) (EvN.d (ev_lst (r := rpInt) el_nil (show (0 : Nat) ≤ 100000 by decide)))) (el_cons (EvD.toD (α := Unit) (a := ()) ev_unit) (el_cons (EvD.toD (α := TL (List Int)) (a := ⟨os⟩) (ev_tuple (EvD.c (ev_var rfl)))) (el_cons (EvD.toD (α := Ords) (a := (List.replicate (5 : Int).toNat [idn n]).flatten) (EvN.d (ev_rep (EvN.k (ev_lst (r := rpLI) (xs := [idn n]) (el_cons (ev_var rfl) el_nil) (show (1 : Nat) ≤ 100000 by decide))) ev_int (by decide) (show 1 * 5 ≤ 100000 by decide)))) (el_cons (EvD.toD (α := Int) ev_int) (el_cons (EvD.toD (α := Ords) (a := [idn (6 : Int).toNat]) (EvN.d (ev_lst (r := rpLI) (el_cons (EvN.d (ev_listR1 ev_int (by decide) (by decide))) el_nil) (show (1 : Nat) ≤ 100000 by decide)))) (el_cons (EvD.toD (α := Ords) (a := (List.replicate (2 : Int).toNat [idn (6 : Int).toNat]).flatten) (EvN.d (ev_rep (EvN.k (ev_lst (r := rpLI) (xs := [idn (6 : Int).toNat]) (el_cons (EvN.d (ev_listR1 ev_int (by decide) (by decide))) el_nil) (show (1 : Nat) ≤ 100000 by decide))) ev_int (by decide) (show 1 * 2 ≤ 100000 by decide)))) el_nil))))))) (show (7 : Nat) ≤ 100000 by decide))) (ev_opC (cl rfl rfl ev_int (by decide)) ev_int (show (0 : Int) < 7 by decide)) (atI_getD (l := alt28 os n) (d := D.non) z7 (by show cell s 3 % 7 < 7; omega))) next
    · rw [hbd, if_neg (of_decide_eq_false hb)] at next
      exact next
    clear hbd
    refine g_any 6 ?_
    refine q_for (xs := rng 0 3) (fun k T' => T' = [.im rpScr s, .im rpLL os, .im rpLI (idn n), .im rpD od, .im rpInt at_, .im rpD bd, .any, .un]) (ei_rng1 (n := 3) ev_int (by decide) (by decide)) rfl (fun B1 up k way T' hk hI => ?_) (fun T' hI => ?_)
    · subst hI
      refine ⟨_, eg_name, ?_⟩
      exact g_when (b := false) (EvT.is (et_not (et_B (ev_call (x := (bd, ToD.d (idn n), way)) (b := true) (ea_cons (ev_var rfl) (ea_cons (EvD.toD (α := List Int) (a := idn n) (ev_var rfl)) (ea_cons (ev_var rfl) ea_nil))) (.inl hbad) rfl))) rfl) (fun z => by cases z) (fun _ => g_any 6 (g_at rfl))
    · subst hI
      have z6 : (0 : Int) ≤ cell s 5 % 6 := by omega
      have hno : ordOf (none28.getD (cell s 5 % 6).toNat .non) = none := none_no _ (getD_mem2 (by show _ < 6; omega))
      refine q_asg (r := rpD) (a := none28.getD (cell s 5 % 6).toNat .non) (ev_ix (EvN.c (ev_lst (r := rpD) (xs := none28) (el_cons (EvD.toD (α := Unit) (a := ()) ev_unit) (el_cons (EvD.toD (α := List Int) (a := [0, 0]) (EvN.d (ev_lst (r := rpInt) (el_cons ev_int (el_cons ev_int el_nil)) (show (2 : Nat) ≤ 100000 by decide)))) (el_cons (EvD.toD (α := TL Int) (a := ⟨[0]⟩) (ev_tupL (r := rpInt) (el_cons ev_int el_nil) (show (1 : Nat) ≤ 100000 by decide))) (el_cons (EvD.toD (α := List Int) (a := [1]) (EvN.d (ev_lst (r := rpInt) (el_cons ev_int el_nil) (show (1 : Nat) ≤ 100000 by decide)))) (el_cons (EvD.toD (α := Str) ev_str) (el_cons (EvD.toD (α := List Bool) (a := [true]) (EvN.d (ev_lst (r := rpBool) (el_cons ev_bl el_nil) (show (1 : Nat) ≤ 100000 by decide)))) el_nil)))))) (show (6 : Nat) ≤ 100000 by decide))) (ev_opC (cl rfl rfl ev_int (by decide)) ev_int (show (0 : Int) < 6 by decide)) (atI_getD (l := none28) (d := D.non) z6 (by show cell s 5 % 6 < 6; omega))) ?_
      generalize none28.getD (cell s 5 % 6).toNat .non = no at hno
      exact g_ret (EvD.is (ev_andV (ev_call (x := bd) (b := true) (ea_cons (ev_var rfl) ea_nil) hbad rfl) fun _ => (ev_call (x := (ToD.d os, no, (1 : Int))) (b := true) (ea_cons (EvD.toD (α := Ords) (a := os) (ev_var rfl)) (ea_cons (ev_var rfl) (ea_cons ev_int ea_nil))) (.inr ⟨rfl, hno⟩) rfl)) rfl) (h1 _ rfl)⟩
end
end Law
namespace Law
open PySem PySem.Spec PyProof.Rows L2 DL
theorem all_mk {l : PySem.W.OpenLaw} {w : World} {K : PySem.W.Frag} {h : Heap} {mg : Str → Option Value} {fa : Addr} (X : K.In h) (G : h.Ns mainGlobals mg) (hfa : mg "law" = some (.ref fa))
    {f0 : Addr} {od0 an0 : Option Addr} {sl0 : Array (Option Value)} {oc0 kV0 dc0 pm0 cd0 ct0 : Value}
    (a0 : PySem.W.nsIn K mainGlobals "is_within" = some (some (.ref f0)))
    (l0 : K.lookup f0 = some ⟨oc0, od0, .func (PySem.W.fnOf "is_within" "is_within" (defArgs s_is_within) (defBody s_is_within) (defScope s_is_within) .none kV0 dc0 pm0 an0 cd0 ct0), sl0⟩) (e0 : PySem.W.codeIn K cd0 "is_within" = true) (k0 : PySem.W.keepIn K (.ref f0) = true)
    {f1 : Addr} {od1 an1 : Option Addr} {sl1 : Array (Option Value)} {oc1 kV1 dc1 pm1 cd1 ct1 : Value}
    (a1 : PySem.W.nsIn K mainGlobals "_law_cell" = some (some (.ref f1)))
    (l1 : K.lookup f1 = some ⟨oc1, od1, .func (PySem.W.fnOf "_law_cell" "_law_cell" (defArgs s_l_cell) (defBody s_l_cell) (defScope s_l_cell) .none kV1 dc1 pm1 an1 cd1 ct1), sl1⟩) (e1 : PySem.W.codeIn K cd1 "_law_cell" = true) (k1 : PySem.W.keepIn K (.ref f1) = true)
    {f2 : Addr} {od2 an2 : Option Addr} {sl2 : Array (Option Value)} {oc2 kV2 dc2 pm2 cd2 ct2 : Value}
    (a2 : PySem.W.nsIn K mainGlobals "_law_mix" = some (some (.ref f2)))
    (l2 : K.lookup f2 = some ⟨oc2, od2, .func (PySem.W.fnOf "_law_mix" "_law_mix" (defArgs s_l_mix) (defBody s_l_mix) (defScope s_l_mix) .none kV2 dc2 pm2 an2 cd2 ct2), sl2⟩) (e2 : PySem.W.codeIn K cd2 "_law_mix" = true) (k2 : PySem.W.keepIn K (.ref f2) = true)
    {f3 : Addr} {od3 an3 : Option Addr} {sl3 : Array (Option Value)} {oc3 kV3 dc3 pm3 cd3 ct3 : Value}
    (a3 : PySem.W.nsIn K mainGlobals "checked_order" = some (some (.ref f3)))
    (l3 : K.lookup f3 = some ⟨oc3, od3, .func (PySem.W.fnOf "checked_order" "checked_order" (defArgs s_checked_order) (defBody s_checked_order) (defScope s_checked_order) .none kV3 dc3 pm3 an3 cd3 ct3), sl3⟩) (e3 : PySem.W.codeIn K cd3 "checked_order" = true) (k3 : PySem.W.keepIn K (.ref f3) = true)
    {f4 : Addr} {od4 an4 : Option Addr} {sl4 : Array (Option Value)} {oc4 kV4 dc4 pm4 cd4 ct4 : Value}
    (a4 : PySem.W.nsIn K mainGlobals "_law_order" = some (some (.ref f4)))
    (l4 : K.lookup f4 = some ⟨oc4, od4, .func (PySem.W.fnOf "_law_order" "_law_order" (defArgs s_l_order) (defBody s_l_order) (defScope s_l_order) .none kV4 dc4 pm4 an4 cd4 ct4), sl4⟩) (e4 : PySem.W.codeIn K cd4 "_law_order" = true) (k4 : PySem.W.keepIn K (.ref f4) = true)
    {f5 : Addr} {od5 an5 : Option Addr} {sl5 : Array (Option Value)} {oc5 kV5 dc5 pm5 cd5 ct5 : Value}
    (a5 : PySem.W.nsIn K mainGlobals "_law_large" = some (some (.ref f5)))
    (l5 : K.lookup f5 = some ⟨oc5, od5, .func (PySem.W.fnOf "_law_large" "_law_large" (defArgs s_l_large) (defBody s_l_large) (defScope s_l_large) .none kV5 dc5 pm5 an5 cd5 ct5), sl5⟩) (e5 : PySem.W.codeIn K cd5 "_law_large" = true) (k5 : PySem.W.keepIn K (.ref f5) = true)
    {f6 : Addr} {od6 an6 : Option Addr} {sl6 : Array (Option Value)} {oc6 kV6 dc6 pm6 cd6 ct6 : Value}
    (a6 : PySem.W.nsIn K mainGlobals "after" = some (some (.ref f6)))
    (l6 : K.lookup f6 = some ⟨oc6, od6, .func (PySem.W.fnOf "after" "after" (defArgs s_after) (defBody s_after) (defScope s_after) .none kV6 dc6 pm6 an6 cd6 ct6), sl6⟩) (e6 : PySem.W.codeIn K cd6 "after" = true) (k6 : PySem.W.keepIn K (.ref f6) = true)
    {f7 : Addr} {od7 an7 : Option Addr} {sl7 : Array (Option Value)} {oc7 kV7 dc7 pm7 cd7 ct7 : Value}
    (a7 : PySem.W.nsIn K mainGlobals "checked_orders" = some (some (.ref f7)))
    (l7 : K.lookup f7 = some ⟨oc7, od7, .func (PySem.W.fnOf "checked_orders" "checked_orders" (defArgs s_checked_orders) (defBody s_checked_orders) (defScope s_checked_orders) .none kV7 dc7 pm7 an7 cd7 ct7), sl7⟩) (e7 : PySem.W.codeIn K cd7 "checked_orders" = true) (k7 : PySem.W.keepIn K (.ref f7) = true)
    {f8 : Addr} {od8 an8 : Option Addr} {sl8 : Array (Option Value)} {oc8 kV8 dc8 pm8 cd8 ct8 : Value}
    (a8 : PySem.W.nsIn K mainGlobals "words" = some (some (.ref f8)))
    (l8 : K.lookup f8 = some ⟨oc8, od8, .func (PySem.W.fnOf "words" "words" (defArgs s_words) (defBody s_words) (defScope s_words) .none kV8 dc8 pm8 an8 cd8 ct8), sl8⟩) (e8 : PySem.W.codeIn K cd8 "words" = true) (k8 : PySem.W.keepIn K (.ref f8) = true)
    {f9 : Addr} {od9 an9 : Option Addr} {sl9 : Array (Option Value)} {oc9 kV9 dc9 pm9 cd9 ct9 : Value}
    (a9 : PySem.W.nsIn K mainGlobals "made" = some (some (.ref f9)))
    (l9 : K.lookup f9 = some ⟨oc9, od9, .func (PySem.W.fnOf "made" "made" (defArgs s_made) (defBody s_made) (defScope s_made) .none kV9 dc9 pm9 an9 cd9 ct9), sl9⟩) (e9 : PySem.W.codeIn K cd9 "made" = true) (k9 : PySem.W.keepIn K (.ref f9) = true)
    {f10 : Addr} {od10 an10 : Option Addr} {sl10 : Array (Option Value)} {oc10 kV10 dc10 pm10 cd10 ct10 : Value}
    (a10 : PySem.W.nsIn K mainGlobals "word" = some (some (.ref f10)))
    (l10 : K.lookup f10 = some ⟨oc10, od10, .func (PySem.W.fnOf "word" "word" (defArgs s_word) (defBody s_word) (defScope s_word) .none kV10 dc10 pm10 an10 cd10 ct10), sl10⟩) (e10 : PySem.W.codeIn K cd10 "word" = true) (k10 : PySem.W.keepIn K (.ref f10) = true)
    {f11 : Addr} {od11 an11 : Option Addr} {sl11 : Array (Option Value)} {oc11 kV11 dc11 pm11 cd11 ct11 : Value}
    (a11 : PySem.W.nsIn K mainGlobals "makes" = some (some (.ref f11)))
    (l11 : K.lookup f11 = some ⟨oc11, od11, .func (PySem.W.fnOf "makes" "makes" (defArgs s_makes) (defBody s_makes) (defScope s_makes) .none kV11 dc11 pm11 an11 cd11 ct11), sl11⟩) (e11 : PySem.W.codeIn K cd11 "makes" = true) (k11 : PySem.W.keepIn K (.ref f11) = true)
    {f12 : Addr} {od12 an12 : Option Addr} {sl12 : Array (Option Value)} {oc12 kV12 dc12 pm12 cd12 ct12 : Value}
    (a12 : PySem.W.nsIn K mainGlobals "_law_orders" = some (some (.ref f12)))
    (l12 : K.lookup f12 = some ⟨oc12, od12, .func (PySem.W.fnOf "_law_orders" "_law_orders" (defArgs s_l_orders) (defBody s_l_orders) (defScope s_l_orders) .none kV12 dc12 pm12 an12 cd12 ct12), sl12⟩) (e12 : PySem.W.codeIn K cd12 "_law_orders" = true) (k12 : PySem.W.keepIn K (.ref f12) = true)
    {f13 : Addr} {od13 an13 : Option Addr} {sl13 : Array (Option Value)} {oc13 kV13 dc13 pm13 cd13 ct13 : Value}
    (a13 : PySem.W.nsIn K mainGlobals "_law_refused" = some (some (.ref f13)))
    (l13 : K.lookup f13 = some ⟨oc13, od13, .func (PySem.W.fnOf "_law_refused" "_law_refused" (defArgs s_l_refused) (defBody s_l_refused) (defScope s_l_refused) .none kV13 dc13 pm13 an13 cd13 ct13), sl13⟩) (e13 : PySem.W.codeIn K cd13 "_law_refused" = true) (k13 : PySem.W.keepIn K (.ref f13) = true)
    {f14 : Addr} {od14 an14 : Option Addr} {sl14 : Array (Option Value)} {oc14 kV14 dc14 pm14 cd14 ct14 : Value}
    (a14 : PySem.W.nsIn K mainGlobals "_law_by_base" = some (some (.ref f14)))
    (l14 : K.lookup f14 = some ⟨oc14, od14, .func (PySem.W.fnOf "_law_by_base" "_law_by_base" (defArgs s_l_by_base) (defBody s_l_by_base) (defScope s_l_by_base) .none kV14 dc14 pm14 an14 cd14 ct14), sl14⟩) (e14 : PySem.W.codeIn K cd14 "_law_by_base" = true) (k14 : PySem.W.keepIn K (.ref f14) = true)
    {f15 : Addr} {od15 an15 : Option Addr} {sl15 : Array (Option Value)} {oc15 kV15 dc15 pm15 cd15 ct15 : Value}
    (a15 : PySem.W.nsIn K mainGlobals "law" = some (some (.ref f15)))
    (l15 : K.lookup f15 = some ⟨oc15, od15, .func (PySem.W.fnOf "law" "law" (defArgs s_law) (defBody s_law) (defScope s_law) .none kV15 dc15 pm15 an15 cd15 ct15), sl15⟩) (e15 : PySem.W.codeIn K cd15 "law" = true) (k15 : PySem.W.keepIn K (.ref f15) = true)
    {C_BadOrder : Addr} (ca_BadOrder : PySem.W.nsIn K mainGlobals "BadOrder" = some (some (.ref C_BadOrder))) (ce_BadOrder : PySem.W.excIn K C_BadOrder [.type "ValueError", .type "Exception", .type "BaseException", .type "object"] "ValueError.__new__" = true) (ck_BadOrder : PySem.W.keepIn K (.ref C_BadOrder) = true) (cs_BadOrder : PySem.W.subIn K (.ref C_BadOrder) (.type "BaseException") = some true) (ct_BadOrder : PySem.W.typeIn K (.ref C_BadOrder) = some (.type "type")) (cd_BadOrder : PySem.W.hasDictIn K C_BadOrder = true) (cf_BadOrder : PySem.W.subIn K (.ref C_BadOrder) (.ref C_BadOrder) = some true)
    {S_SwitchError : Addr} (ba_SwitchError : PySem.W.nsIn K mainGlobals "SwitchError" = some (some (.ref S_SwitchError))) (bs_SwitchError : PySem.W.subIn K (.ref S_SwitchError) (.type "BaseException") = some true) (bt_SwitchError : PySem.W.typeIn K (.ref S_SwitchError) = some (.type "type")) (bd_SwitchError : PySem.W.hasDictIn K S_SwitchError = true)
    (us_BadOrder : PySem.W.subIn K (.ref C_BadOrder) (.ref S_SwitchError) = some true) (uk_BadOrder : PySem.W.kitOne K (.ref C_BadOrder) (.type "ValueError") = some true)
    (u1_BadOrder : PySem.W.findIn K (.ref C_BadOrder) "__getattribute__" = some (some (.builtin "BaseException.__getattribute__"))) (u2_BadOrder : PySem.W.findIn K (.ref C_BadOrder) "__getattr__" = some none) (u3_BadOrder : PySem.W.findIn K (.ref C_BadOrder) "__class__" = some (some (.builtin "object.__class__"))) (u4_BadOrder : PySem.W.mroIn K C_BadOrder (.type "object") = some true)
    (v1 : PySem.W.specialIn K (.builtin "object.__class__") "__get__" = some (some (.builtin "getset_descriptor.__get__"))) (v2 : PySem.W.takesIn K (.builtin "object.__class__") = some true)
    (z_isinstance : PySem.W.nsIn K mainGlobals "isinstance" = some none)
    (z_len : PySem.W.nsIn K mainGlobals "len" = some none)
    (z_range : PySem.W.nsIn K mainGlobals "range" = some none)
    (z_sorted : PySem.W.nsIn K mainGlobals "sorted" = some none)
    (z_enumerate : PySem.W.nsIn K mainGlobals "enumerate" = some none)
    (z_zip : PySem.W.nsIn K mainGlobals "zip" = some none)
    (z_sum : PySem.W.nsIn K mainGlobals "sum" = some none)
    (z_min : PySem.W.nsIn K mainGlobals "min" = some none)
    (z_max : PySem.W.nsIn K mainGlobals "max" = some none)
    (z_int : PySem.W.nsIn K mainGlobals "int" = some none)
    (z_bool : PySem.W.nsIn K mainGlobals "bool" = some none)
    (z_list : PySem.W.nsIn K mainGlobals "list" = some none)
    (z_tuple : PySem.W.nsIn K mainGlobals "tuple" = some none)
    (z_str : PySem.W.nsIn K mainGlobals "str" = some none)
    (z_set : PySem.W.nsIn K mainGlobals "set" = some none)
    (z_ValueError : PySem.W.nsIn K mainGlobals "ValueError" = some none)
    : ∃ fd : FuncData, (∀ (s : Shared) (v : Value), BindsTo s fd ⟨[v], []⟩ [("_law_script", v)]) ∧ ∀ base : Heap, K.In base → base.Ns mainGlobals mg → FnOk l.prog w K mg base (L2.CX l.prog w) 7 fa fd ["_law_script"] (SpLaw K) := by
  have e := hfa.symm.trans (PySem.W.mg_of X G a15)
  cases e
  have bl : Blt mg := ⟨PySem.W.mg_none_of X G z_isinstance, PySem.W.mg_none_of X G z_len, PySem.W.mg_none_of X G z_range, PySem.W.mg_none_of X G z_sorted, PySem.W.mg_none_of X G z_enumerate, PySem.W.mg_none_of X G z_zip, PySem.W.mg_none_of X G z_sum, PySem.W.mg_none_of X G z_min, PySem.W.mg_none_of X G z_max, PySem.W.mg_none_of X G z_int, PySem.W.mg_none_of X G z_bool, PySem.W.mg_none_of X G z_list, PySem.W.mg_none_of X G z_tuple, PySem.W.mg_none_of X G z_str, PySem.W.mg_none_of X G z_set, PySem.W.mg_none_of X G z_ValueError⟩
  have c_BadOrder := ecls_mk X G ca_BadOrder ce_BadOrder ck_BadOrder cs_BadOrder ct_BadOrder cd_BadOrder cf_BadOrder
  have b_SwitchError : EBase K mg "SwitchError" S_SwitchError := ⟨PySem.W.mg_of X G ba_SwitchError, bs_SwitchError, bt_SwitchError, bd_SwitchError⟩
  have u_BadOrder : EUp K C_BadOrder S_SwitchError := ⟨us_BadOrder, uk_BadOrder, ⟨u1_BadOrder, u2_BadOrder, cs_BadOrder, cd_BadOrder, u3_BadOrder, v1, v2, u4_BadOrder⟩⟩
  refine ⟨PySem.W.fnOf "law" "law" (defArgs s_law) (defBody s_law) (defScope s_law) .none kV15 dc15 pm15 an15 cd15 ct15, fun s v => .of_eq rfl, fun base _ _ => ?_⟩
  have d_is_within := ok_is_within (P := l.prog) (w := w) (base := base) (defT_mk (st := s_is_within) X G a0 l0 e0 k0 fun _ _ _ _ _ _ us hl => match us, hl with | [_, _, _], _ => rfl) bl
  have d_l_cell := ok_cell (P := l.prog) (w := w) (base := base) (defT_mk (st := s_l_cell) X G a1 l1 e1 k1 fun _ _ _ _ _ _ us hl => match us, hl with | [_, _], _ => rfl) bl
  have d_l_mix := ok_mix (P := l.prog) (w := w) (base := base) (defT_mk (st := s_l_mix) X G a2 l2 e2 k2 fun _ _ _ _ _ _ us hl => match us, hl with | [_, _, _], _ => rfl)
  have d_checked_order := ok_checked_order (P := l.prog) (w := w) (base := base) (defT_mk (st := s_checked_order) X G a3 l3 e3 k3 fun _ _ _ _ _ _ us hl => match us, hl with | [_], _ => rfl) bl c_BadOrder d_is_within
  have d_l_order := ok_order (P := l.prog) (w := w) (base := base) (defT_mk (st := s_l_order) X G a4 l4 e4 k4 fun _ _ _ _ _ _ us hl => match us, hl with | [_, _, _], _ => rfl) bl d_l_cell d_l_mix
  have d_l_large := ok_large (P := l.prog) (w := w) (base := base) (defT_mk (st := s_l_large) X G a5 l5 e5 k5 fun _ _ _ _ _ _ us hl => match us, hl with | [_], _ => rfl) bl d_l_cell d_l_mix
  have d_after := ok_after (P := l.prog) (w := w) (base := base) (defT_mk (st := s_after) X G a6 l6 e6 k6 fun _ _ _ _ _ _ us hl => match us, hl with | [_, _], _ => rfl) bl c_BadOrder d_checked_order
  have d_checked_orders := ok_checked_orders (P := l.prog) (w := w) (base := base) (defT_mk (st := s_checked_orders) X G a7 l7 e7 k7 fun _ _ _ _ _ _ us hl => match us, hl with | [_], _ => rfl) bl c_BadOrder d_checked_order
  have d_words := ok_words (P := l.prog) (w := w) (base := base) (defT_mk (st := s_words) X G a8 l8 e8 k8 fun _ _ _ _ _ _ us hl => match us, hl with | [_], _ => rfl) bl d_checked_orders d_after
  have d_made := ok_made (P := l.prog) (w := w) (base := base) (defT_mk (st := s_made) X G a9 l9 e9 k9 fun _ _ _ _ _ _ us hl => match us, hl with | [_], _ => rfl) bl d_words
  have d_word := ok_word (P := l.prog) (w := w) (base := base) (defT_mk (st := s_word) X G a10 l10 e10 k10 fun _ _ _ _ _ _ us hl => match us, hl with | [_, _], _ => rfl) bl d_words d_checked_order
  have d_makes := ok_makes (P := l.prog) (w := w) (base := base) (defT_mk (st := s_makes) X G a11 l11 e11 k11 fun _ _ _ _ _ _ us hl => match us, hl with | [_, _], _ => rfl) bl d_checked_orders d_after
  have d_l_orders := ok_orders (P := l.prog) (w := w) (base := base) (defT_mk (st := s_l_orders) X G a12 l12 e12 k12 fun _ _ _ _ _ _ us hl => match us, hl with | [_], _ => rfl) bl d_l_large d_l_cell d_l_order
  have d_l_refused := ok_refused (P := l.prog) (w := w) (base := base) (defT_mk (st := s_l_refused) X G a13 l13 e13 k13 fun _ _ _ _ _ _ us hl => match us, hl with | [_, _, _], _ => rfl) bl c_BadOrder d_made d_word d_makes
  have d_l_by_base := ok_by_base (P := l.prog) (w := w) (base := base) (defT_mk (st := s_l_by_base) X G a14 l14 e14 k14 fun _ _ _ _ _ _ us hl => match us, hl with | [_], _ => rfl) bl b_SwitchError u_BadOrder d_made
  exact ok_law (P := l.prog) (w := w) (base := base) (fun_mk (st := s_law) l15 e15 k15) bl d_l_orders d_l_cell d_l_refused d_l_by_base
end Law
open PySem PySem.W PyProof.Rows
set_option maxHeartbeats 0 in
theorem PySem.Challenge.cw_switchhall_k28_no_orders_for_words_holds : PySem.Challenge.rw_switchhall_k28_no_orders_for_words.Holds := by
  w_on; o_law; k_head; (case hw => w_witness2)
  k_fill
  refine L2.walk_of (l := PySem.Challenge.rw_switchhall_k28_no_orders_for_words) (n := 63) (k := 7) (x := "_law_script") (CX := fun w => L2.CX PySem.Challenge.rw_switchhall_k28_no_orders_for_words.prog w) (sp := fun w => DL.SpLaw _) rfl (by decide) rfl ⟨rfl, by decide, by decide⟩ (fun w h Y => PySem.W.kIn_of Y) ?F (fun w H a ns hl _ hS => DL.spLaw_of hl hS) (fun w H s e s' h => by obtain ⟨_, _, _, _, _, _, _, _, _, _, _, _, z⟩ := h; exact z)
  case F =>
    intro w mg fa h KX G hmg
    refine' Law.all_mk KX G hmg ?a0 ?l0 ?e0 ?k0 ?a1 ?l1 ?e1 ?k1 ?a2 ?l2 ?e2 ?k2 ?a3 ?l3 ?e3 ?k3 ?a4 ?l4 ?e4 ?k4 ?a5 ?l5 ?e5 ?k5 ?a6 ?l6 ?e6 ?k6 ?a7 ?l7 ?e7 ?k7 ?a8 ?l8 ?e8 ?k8 ?a9 ?l9 ?e9 ?k9 ?a10 ?l10 ?e10 ?k10 ?a11 ?l11 ?e11 ?k11 ?a12 ?l12 ?e12 ?k12 ?a13 ?l13 ?e13 ?k13 ?a14 ?l14 ?e14 ?k14 ?a15 ?l15 ?e15 ?k15 ?ca_BadOrder ?ce_BadOrder ?ck_BadOrder ?cs_BadOrder ?ct_BadOrder ?cd_BadOrder ?cf_BadOrder ?ba_SwitchError ?bs_SwitchError ?bt_SwitchError ?bd_SwitchError ?us_BadOrder ?uk_BadOrder ?u1_BadOrder ?u2_BadOrder ?u3_BadOrder ?u4_BadOrder ?v1 ?v2 ?z_isinstance ?z_len ?z_range ?z_sorted ?z_enumerate ?z_zip ?z_sum ?z_min ?z_max ?z_int ?z_bool ?z_list ?z_tuple ?z_str ?z_set ?z_ValueError
    (case a0 => k_is); (case l0 => k_is); (case e0 => k_is); (case k0 => k_is); (case a1 => k_is); (case l1 => k_is); (case e1 => k_is); (case k1 => k_is); (case a2 => k_is); (case l2 => k_is); (case e2 => k_is); (case k2 => k_is); (case a3 => k_is); (case l3 => k_is); (case e3 => k_is); (case k3 => k_is); (case a4 => k_is); (case l4 => k_is); (case e4 => k_is); (case k4 => k_is); (case a5 => k_is); (case l5 => k_is); (case e5 => k_is); (case k5 => k_is); (case a6 => k_is); (case l6 => k_is); (case e6 => k_is); (case k6 => k_is); (case a7 => k_is); (case l7 => k_is); (case e7 => k_is); (case k7 => k_is); (case a8 => k_is); (case l8 => k_is); (case e8 => k_is); (case k8 => k_is); (case a9 => k_is); (case l9 => k_is); (case e9 => k_is); (case k9 => k_is); (case a10 => k_is); (case l10 => k_is); (case e10 => k_is); (case k10 => k_is); (case a11 => k_is); (case l11 => k_is); (case e11 => k_is); (case k11 => k_is); (case a12 => k_is); (case l12 => k_is); (case e12 => k_is); (case k12 => k_is); (case a13 => k_is); (case l13 => k_is); (case e13 => k_is); (case k13 => k_is); (case a14 => k_is); (case l14 => k_is); (case e14 => k_is); (case k14 => k_is); (case a15 => k_is); (case l15 => k_is); (case e15 => k_is); (case k15 => k_is); (case ca_BadOrder => k_is); (case ce_BadOrder => k_exc); (case ck_BadOrder => k_is); (case cs_BadOrder => k_is); (case ct_BadOrder => k_is); (case cd_BadOrder => k_is); (case cf_BadOrder => k_is); (case ba_SwitchError => k_is); (case bs_SwitchError => k_is); (case bt_SwitchError => k_is); (case bd_SwitchError => k_is); (case us_BadOrder => k_is); (case uk_BadOrder => kit_is); (case u1_BadOrder => k_is); (case u2_BadOrder => k_is); (case u3_BadOrder => k_is); (case u4_BadOrder => k_is); (case v1 => k_is); (case v2 => k_is); (case z_isinstance => k_is); (case z_len => k_is); (case z_range => k_is); (case z_sorted => k_is); (case z_enumerate => k_is); (case z_zip => k_is); (case z_sum => k_is); (case z_min => k_is); (case z_max => k_is); (case z_int => k_is); (case z_bool => k_is); (case z_list => k_is); (case z_tuple => k_is); (case z_str => k_is); (case z_set => k_is); (case z_ValueError => k_is)
