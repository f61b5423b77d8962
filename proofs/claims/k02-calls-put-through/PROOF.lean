import PyProof.Rows.All
import Wide.All
import OpenK.AllK
import Wide.FinOn
import HandS.Base
import HandS.Call
import HandS.List
import HandS.Comp
import HandS.Iter
import HandS.Dict
import HandS.Exc
import HandS.ExcOwn
import HandS.TryOnly
import HandS.Ends
import HandS.Words
import HandS.WordsList
import HandS.WordsExc
import HandS.IsInst
import HandS.ExcIs
import HandS.Sort
import HandS.SortRule
import HandS.SortInts
import HandS.Wide
import HandS.TupSets
import HandS.Deep
import HandS.Conv
import HandS.Zip
import KE.LtSeq
import HandS.TupLe
import HandS.Text
import HandS.Codes
import KE.KIntText
import KE.IntTextLaws
import HandS.More
import HandS.Strs
import HandS.SetFor
import KE.KSortTupG
import KE.SortData
import KE.DataCmp
import KE.SortCalls
import KE.GoesComp
import PySem.Challenge.RW_switchhall_k02_whole_calls_are_put_throu
set_option Elab.async false
set_option linter.all false
set_option maxRecDepth 100000
set_option maxHeartbeats 4000000
/-! DL: readings over plain data: what a slot holds is told by a plain value, the heap is told by a base that only grows. -/
namespace DL
open PySem PySem.Spec PyProof.Rows L2

/-! ### what stands for a plain value -/
class Rp (α : Type) where
  rp : PySem.W.Frag → Hp → α → V → Prop
  mono : ∀ {K : PySem.W.Frag} {H H' : Hp} {a : α} {v : V}, Same H H' → rp K H a v → rp K H' a v
theorem Same.of_none {H H' : Hp} (e : Same H H') {p : Addr} (h : H' p = none) : H p = none := e.free h
theorem paired_mono {α : Type} [r : Rp α] {K : PySem.W.Frag} {H H' : Hp} (e : Same H H') {as : List α} {vs : List V} (h : Paired (Rp.rp K H) as vs) : Paired (Rp.rp K H') as vs := Paired.mapP h fun _ _ z => Rp.mono e z
instance rpInt : Rp Int := ⟨fun _ _ i v => v = .int i, fun _ h => h⟩
instance rpBool : Rp Bool := ⟨fun _ _ i v => v = .bl i, fun _ h => h⟩
instance rpUnit : Rp Unit := ⟨fun _ _ _ v => v = .non, fun _ h => h⟩
instance rpStr : Rp Str := ⟨fun _ _ i v => v = .str i, fun _ h => h⟩
def rpO {α : Type} [Rp α] (K : PySem.W.Frag) (H : Hp) : Option α → V → Prop
  | none, v => v = .non
  | some a, v => Rp.rp K H a v
instance rpOpt {α : Type} [Rp α] : Rp (Option α) := ⟨rpO, fun {K H H' a v} e h => by
  cases a with
  | none => exact h
  | some a => exact Rp.mono e h⟩
instance rpList {α : Type} [Rp α] : Rp (List α) := ⟨fun K H as v => ∃ p vs, v = .ref p ∧ H p = some (.lst vs) ∧ Paired (Rp.rp K H) as vs, fun e ⟨p, vs, a, b, c⟩ => ⟨p, vs, a, e _ _ b, paired_mono e c⟩⟩
instance rpPair {α β : Type} [Rp α] [Rp β] : Rp (α × β) := ⟨fun K H as v => ∃ p x y, v = .ref p ∧ H p = some (.tup [x, y]) ∧ Rp.rp K H as.1 x ∧ Rp.rp K H as.2 y, fun e ⟨p, x, y, a, b, c, d⟩ => ⟨p, x, y, a, e _ _ b, Rp.mono e c, Rp.mono e d⟩⟩
/-- a tuple of three, of four -/
structure T3 (α β γ : Type) where
  a : α
  b : β
  c : γ
structure T4 (α β γ δ : Type) where
  a : α
  b : β
  c : γ
  d : δ
instance rpT3 {α β γ : Type} [Rp α] [Rp β] [Rp γ] : Rp (T3 α β γ) := ⟨fun K H t v => ∃ p x y z, v = .ref p ∧ H p = some (.tup [x, y, z]) ∧ Rp.rp K H t.a x ∧ Rp.rp K H t.b y ∧ Rp.rp K H t.c z, fun e ⟨p, x, y, z, a, b, c, d, f⟩ => ⟨p, x, y, z, a, e _ _ b, Rp.mono e c, Rp.mono e d, Rp.mono e f⟩⟩
instance rpT4 {α β γ δ : Type} [Rp α] [Rp β] [Rp γ] [Rp δ] : Rp (T4 α β γ δ) := ⟨fun K H t v => ∃ p x y z u, v = .ref p ∧ H p = some (.tup [x, y, z, u]) ∧ Rp.rp K H t.a x ∧ Rp.rp K H t.b y ∧ Rp.rp K H t.c z ∧ Rp.rp K H t.d u, fun e ⟨p, x, y, z, u, a, b, c, d, f, g⟩ => ⟨p, x, y, z, u, a, e _ _ b, Rp.mono e c, Rp.mono e d, Rp.mono e f, Rp.mono e g⟩⟩
/-- any list of cells that is read alone (the script) -/
structure Scr where
  cells : List Int
instance rpScr : Rp Scr := ⟨fun K H s v => ∃ p, v = .ref p ∧ SqL K H p (s.cells.map V.int), fun e ⟨p, a, b⟩ => ⟨p, a, e.seq b⟩⟩
/-- what needs no heap -/
class Sc (α : Type) [Rp α] where
  any : ∀ {K : PySem.W.Frag} {H H' : Hp} {a : α} {v : V}, Rp.rp K H a v → Rp.rp K H' a v
instance scInt : Sc Int := ⟨fun h => h⟩
instance scBool : Sc Bool := ⟨fun h => h⟩
instance scUnit : Sc Unit := ⟨fun h => h⟩
instance scStr : Sc Str := ⟨fun h => h⟩
instance scOpt {α : Type} [Rp α] [Sc α] : @Sc (Option α) rpOpt := @Sc.mk (Option α) rpOpt fun {K H H' a v} h => by
  cases a with
  | none => exact h
  | some a =>
    show Rp.rp K H' a v
    exact Sc.any (α := α) (H := H) h
theorem paired_sc {α : Type} [Rp α] [Sc α] {K : PySem.W.Frag} {H H' : Hp} {as : List α} {vs : List V} (h : Paired (Rp.rp K H) as vs) : Paired (Rp.rp K H') as vs := Paired.mapP h fun _ _ z => Sc.any z

/-! ### owned things: lists, dicts that are changed in place -/
class Ow (α : Type) where
  ow : PySem.W.Frag → Hp → Hp → α → V → (Addr → Prop) → Prop
  fr : ∀ {K : PySem.W.Frag} {B H B' H' : Hp} {a : α} {v : V} {F F' : Addr → Prop}, ow K B H a v F → Same B B' → (∀ p, F p → H p ≠ none → F' p ∧ H' p = H p ∧ B' p = B p) → ow K B' H' a v F'
/-- a list that is changed in place; its items are not -/
structure ML (α : Type) where
  l : List α
instance owML {α : Type} [Rp α] : Ow (ML α) := ⟨fun K B H a v F => ∃ p vs, v = .ref p ∧ F p ∧ B p = none ∧ H p = some (.lst vs) ∧ Paired (Rp.rp K B) a.l vs, fun ⟨p, vs, e, f, n, h, r⟩ sb k => by
  obtain ⟨k1, k2, k3⟩ := k p f (by rw [h]; intro z; cases z)
  exact ⟨p, vs, e, k1, k3.trans n, k2.trans h, paired_mono sb r⟩⟩

/-! ### slots and frames -/
inductive Ty : Type 1
  | im {α : Type} (r : Rp α) (a : α)
  | ow {α : Type} (r : Ow α) (a : α)
  | un
  | any
def Slot (K : PySem.W.Frag) (B H : Hp) (F : Addr → Prop) : Option V → Ty → Prop
  | s, .im r a => ∃ v, s = some v ∧ r.rp K B a v
  | s, .ow r a => ∃ v, s = some v ∧ r.ow K B H a v F
  | s, .un => s = none
  | _, .any => True
structure Cn where
  K : PySem.W.Frag
  B0 : Hp
  H0 : Hp
structure Fr (G : Cn) (B H : Hp) (σ : L2.St) (T : List Ty) : Prop where
  bh : Same B H
  b0 : Same G.B0 B
  h0 : Same G.H0 H
  n0 : ∀ p, G.H0 p ≠ none → B p = G.B0 p
  len : σ.length = T.length
  sl : ∃ own : Addr → Option Nat, (∀ p i, own p = some i → G.H0 p = none) ∧ ∀ i t, T[i]? = some t → ∃ s, σ[i]? = some s ∧ Slot G.K B H (fun p => own p = some i) s t
structure Ext (B H B' H' : Hp) : Prop where
  b : Same B B'
  h : Same H H'
  s : Same B' H'
  n : ∀ p, H p ≠ none → B' p = B p
theorem Ext.refl {B H : Hp} (h : Same B H) : Ext B H B H := ⟨Same.refl _, Same.refl _, h, fun _ _ => rfl⟩
theorem Ext.trans {B H B1 H1 B2 H2 : Hp} (x : Ext B H B1 H1) (y : Ext B1 H1 B2 H2) : Ext B H B2 H2 := ⟨x.b.trans y.b, x.h.trans y.h, y.s, fun p hp => by
  have h1 : H1 p ≠ none := fun z => hp (x.h.free z)
  rw [y.n p h1, x.n p hp]⟩
theorem Ext.none {B H B1 H1 : Hp} (x : Ext B H B1 H1) {p : Addr} {o : HO} (h : H p = some o) (n : B p = Option.none) : B1 p = Option.none := (x.n p (by rw [h]; intro z; cases z)).trans n
theorem Slot.ext {K : PySem.W.Frag} {B H B' H' : Hp} {F : Addr → Prop} {s : Option V} {t : Ty} (x : Ext B H B' H') (h : Slot K B H F s t) : Slot K B' H' F s t := by
  cases t with
  | im r a => obtain ⟨v, e, q⟩ := h; exact ⟨v, e, r.mono x.b q⟩
  | ow r a =>
    obtain ⟨v, e, q⟩ := h
    refine ⟨v, e, r.fr q x.b fun p f n => ⟨f, ?_, x.n p n⟩⟩
    cases hp : H p with
    | none => exact absurd hp n
    | some o => exact x.h p o hp
  | un => exact h
  | any => trivial
theorem Fr.ext {G : Cn} {B H B' H' : Hp} {σ : L2.St} {T : List Ty} (f : Fr G B H σ T) (x : Ext B H B' H') : Fr G B' H' σ T := by
  obtain ⟨own, o0, sl⟩ := f.sl
  refine ⟨x.s, f.b0.trans x.b, f.h0.trans x.h, fun p hp => ?_, f.len, own, o0, fun i t e => ?_⟩
  · rw [x.n p fun z => hp (f.h0.free z), f.n0 p hp]
  · obtain ⟨s, e1, q⟩ := sl i t e
    exact ⟨s, e1, q.ext x⟩
theorem Fr.out {G : Cn} {B H : Hp} {σ : L2.St} {T : List Ty} (f : Fr G B H σ T) (hb : Same G.B0 G.H0) : Ext G.B0 G.H0 B H := ⟨f.b0, f.h0, f.bh, f.n0⟩
/-- a slot forgotten, or told otherwise -/
theorem Fr.set_im {G : Cn} {B H : Hp} {σ : L2.St} {T : List Ty} (f : Fr G B H σ T) (j : Nat) {α : Type} (r : Rp α) {a : α} {v : V} (h : r.rp G.K B a v) : Fr G B H (σ.set j (some v)) (T.set j (.im r a)) := by
  obtain ⟨own, o0, sl⟩ := f.sl
  refine ⟨f.bh, f.b0, f.h0, f.n0, by rw [List.length_set, List.length_set]; exact f.len, own, o0, fun i t e => ?_⟩
  by_cases hi : j = i
  · subst hi
    have hj : j < T.length := by
      have z := (List.getElem?_eq_some_iff.mp e).1
      rw [List.length_set] at z
      exact z
    rw [List.getElem?_set_self hj] at e
    cases e
    exact ⟨some v, List.getElem?_set_self (by rw [f.len]; exact hj), v, rfl, h⟩
  · rw [List.getElem?_set_ne hi] at e
    obtain ⟨s, e1, q⟩ := sl i t e
    exact ⟨s, by rw [List.getElem?_set_ne hi]; exact e1, q⟩
/-- a slot takes an owned thing whose objects are new, or were the slot's own; others stand as they are -/
theorem Fr.set_ow {G : Cn} {B H B' H' : Hp} {σ : L2.St} {T : List Ty} (f : Fr G B H σ T) (j : Nat) {α : Type} (r : Ow α) {a : α} {v : V} {F : Addr → Prop}
    (bh : Same B' H') (b0 : Same B B') (hF : ∀ p, F p → H p = none) (hk : ∀ p, H p ≠ none → H' p = H p ∧ B' p = B p) (h : r.ow G.K B' H' a v F) : Fr G B' H' (σ.set j (some v)) (T.set j (.ow r a)) := by
  classical
  obtain ⟨own, o0, sl⟩ := f.sl
  have h0' : Same G.H0 H' := fun p o e => by
    have e1 := f.h0 p o e
    rw [(hk p (by rw [e1]; intro z; cases z)).1]
    exact e1
  refine ⟨bh, f.b0.trans b0, h0', fun p hp => ?_, by rw [List.length_set, List.length_set]; exact f.len, ?_⟩
  · rw [(hk p fun z => hp (f.h0.free z)).2, f.n0 p hp]
  · refine ⟨fun p => if F p then some j else if own p = some j then none else own p, fun p i e => ?_, fun i t e => ?_⟩
    · replace e : (if F p then some j else if own p = some j then none else own p) = some i := e
      by_cases hp : F p
      · exact f.h0.free (hF p hp)
      · rw [if_neg hp] at e
        by_cases hq : own p = some j
        · rw [if_pos hq] at e; cases e
        · rw [if_neg hq] at e
          exact o0 p i e
    · by_cases hi : j = i
      · subst hi
        have hj : j < T.length := by
          have z := (List.getElem?_eq_some_iff.mp e).1
          rw [List.length_set] at z
          exact z
        rw [List.getElem?_set_self hj] at e
        cases e
        refine ⟨some v, List.getElem?_set_self (by rw [f.len]; exact hj), v, rfl, r.fr h (Same.refl _) fun p hp _ => ⟨if_pos hp, rfl, rfl⟩⟩
      · rw [List.getElem?_set_ne hi] at e
        obtain ⟨s, e1, q⟩ := sl i t e
        refine ⟨s, by rw [List.getElem?_set_ne hi]; exact e1, ?_⟩
        cases t with
        | im r a => obtain ⟨v, e, q⟩ := q; exact ⟨v, e, r.mono b0 q⟩
        | ow r a =>
          obtain ⟨v, e, q⟩ := q
          refine ⟨v, e, r.fr q b0 fun p hp hn => ⟨?_, hk p hn⟩⟩
          have nF : ¬ F p := fun z => hn (hF p z)
          have nj : ¬ own p = some j := fun z => hi (Option.some.inj (z.symm.trans hp))
          show (if F p then some j else if own p = some j then none else own p) = some i
          rw [if_neg nF, if_neg nj]
          exact hp
        | un => exact q
        | any => trivial
/-- an owned thing changed in place -/
theorem Fr.mut {G : Cn} {B H : Hp} {σ : L2.St} {T : List Ty} (f : Fr G B H σ T) {j : Nat} {α : Type} {r : Ow α} {a : α} (hj : T[j]? = some (.ow r a)) :
    ∃ (v : V) (F : Addr → Prop), σ[j]? = some (some v) ∧ r.ow G.K B H a v F ∧ ∀ (β : Type) (r' : Ow β) (b : β) (B' H' : Hp), Same B' H' → Same B B' → (∀ p, H p ≠ none → B' p = B p) → (∀ p, H p ≠ none → ¬ F p → H' p = H p) → r'.ow G.K B' H' b v F → Fr G B' H' σ (T.set j (.ow r' b)) := by
  obtain ⟨own, o0, sl⟩ := f.sl
  obtain ⟨s, e1, v, rfl, q⟩ := sl j _ hj
  refine ⟨v, _, e1, q, fun β r' b B' H' bh b0 hb hk h => ?_⟩
  have h0' : Same G.H0 H' := fun p o e => by
    have e1 := f.h0 p o e
    rw [hk p (by rw [e1]; intro z; cases z) fun z => by rw [o0 p j z] at e; cases e]
    exact e1
  refine ⟨bh, f.b0.trans b0, h0', fun p hp => ?_, by rw [List.length_set]; exact f.len, own, o0, fun i t e => ?_⟩
  · rw [hb p fun z => hp (f.h0.free z), f.n0 p hp]
  · by_cases hi : j = i
    · subst hi
      have hj' : j < T.length := (List.getElem?_eq_some_iff.mp hj).1
      rw [List.getElem?_set_self hj'] at e
      cases e
      exact ⟨some v, e1, v, rfl, h⟩
    · rw [List.getElem?_set_ne hi] at e
      obtain ⟨s, e1, q⟩ := sl i t e
      refine ⟨s, e1, ?_⟩
      cases t with
      | im r a => obtain ⟨v, e, q⟩ := q; exact ⟨v, e, r.mono b0 q⟩
      | ow r a =>
        obtain ⟨v, e, q⟩ := q
        exact ⟨v, e, r.fr q b0 fun p hp hn => ⟨hp, hk p hn fun z => hi (Option.some.inj (z.symm.trans hp)), hb p hn⟩⟩
      | un => exact q
      | any => trivial
theorem Fr.get {G : Cn} {B H : Hp} {σ : L2.St} {T : List Ty} (f : Fr G B H σ T) {j : Nat} {α : Type} {r : Rp α} {a : α} (hj : T[j]? = some (.im r a)) : ∃ v, σ[j]? = some (some v) ∧ r.rp G.K B a v := by
  obtain ⟨own, _, sl⟩ := f.sl
  obtain ⟨s, e1, v, rfl, q⟩ := sl j _ hj
  exact ⟨v, e1, q⟩
/-- an owned list is given up: it stands for good -/
theorem Fr.freeze {G : Cn} {B H : Hp} {σ : L2.St} {T : List Ty} (f : Fr G B H σ T) {j : Nat} {α : Type} {r : Rp α} {a : ML α} (hj : T[j]? = some (.ow owML a)) : ∃ B', Fr G B' H σ (T.set j (.im rpList a.l)) := by
  obtain ⟨own, o0, sl⟩ := f.sl
  obtain ⟨s, e1, v, rfl, p, vs, rfl, hp, hn, ho, hr⟩ := sl j _ hj
  have sB : Same B (upd B p (.lst vs)) := fun q o e => by
    rw [upd_ne (ne_of_none e hn)]
    exact e
  refine ⟨upd B p (.lst vs), fun q o e => ?_, f.b0.trans sB, f.h0, fun q hq => ?_, by rw [List.length_set]; exact f.len, fun q => if own q = some j then none else own q, fun q i e => ?_, fun i t e => ?_⟩
  · by_cases z : q = p
    · subst z; rw [upd_same] at e; cases e; exact ho
    · rw [upd_ne z] at e; exact f.bh q o e
  · rw [upd_ne (fun z => by subst z; exact hq (o0 _ _ hp)), f.n0 q hq]
  · replace e : (if own q = some j then none else own q) = some i := e
    by_cases z : own q = some j
    · rw [if_pos z] at e; cases e
    · rw [if_neg z] at e; exact o0 q i e
  · by_cases hi : j = i
    · subst hi
      have hj' : j < T.length := (List.getElem?_eq_some_iff.mp hj).1
      rw [List.getElem?_set_self hj'] at e
      cases e
      exact ⟨_, e1, _, rfl, p, vs, rfl, upd_same, paired_mono sB hr⟩
    · rw [List.getElem?_set_ne hi] at e
      obtain ⟨s, e1, q⟩ := sl i t e
      refine ⟨s, e1, ?_⟩
      cases t with
      | im r a => obtain ⟨v, e, q⟩ := q; exact ⟨v, e, r.mono sB q⟩
      | ow r a =>
        obtain ⟨v, e, q⟩ := q
        refine ⟨v, e, r.fr q sB fun x hx hn => ⟨?_, rfl, ?_⟩⟩
        · show (if own x = some j then none else own x) = some i
          rw [if_neg fun z => hi (Option.some.inj (z.symm.trans hx))]
          exact hx
        · exact upd_ne fun z => by
            subst z
            exact hi (Option.some.inj (hp.symm.trans hx))
      | un => exact q
      | any => trivial
end DL

set_option Elab.async false
set_option linter.all false
set_option maxRecDepth 100000
set_option maxHeartbeats 4000000
namespace DL
open PySem PySem.Spec PyProof.Rows L2
/-! ### what an expression is worth -/
/-- a list, its own object as it stands now, its items in the base -/
def crp (K : PySem.W.Frag) (B H : Hp) {α : Type} (r : Rp α) (xs : List α) (v : V) : Prop := ∃ p vs, v = .ref p ∧ SqL K H p vs ∧ Paired (r.rp K B) xs vs
def EvD (G : Cn) (te : TE) (T : List Ty) {α : Type} (r : Rp α) (a : α) : Prop := ∀ B H σ, Fr G B H σ T → ∀ Q : VK, (∀ v B' H', Ext B H B' H' → r.rp G.K B' a v → Q v H') → te σ H Q
def EvH (G : Cn) (te : TE) (T : List Ty) {α : Type} (r : Rp α) (a : α) : Prop := ∀ B H σ, Fr G B H σ T → ∀ Q : VK, (∀ v B' H', Ext B H B' H' → r.rp G.K H' a v → Q v H') → te σ H Q
def EvC (G : Cn) (te : TE) (T : List Ty) {α : Type} (r : Rp α) (xs : List α) : Prop := ∀ B H σ, Fr G B H σ T → ∀ Q : VK, (∀ v B' H', Ext B H B' H' → crp G.K B' H' r xs v → Q v H') → te σ H Q
/-- a new list -/
def EvN (G : Cn) (te : TE) (T : List Ty) {α : Type} (r : Rp α) (xs : List α) : Prop := ∀ B H σ, Fr G B H σ T → ∀ Q : VK, (∀ p vs B' H', Ext B H B' H' → H p = none → B' p = none → H' p = some (.lst vs) → Paired (r.rp G.K B') xs vs → Q (.ref p) H') → te σ H Q
def EvT (G : Cn) (tt : TT) (T : List Ty) (b : Bool) : Prop := ∀ B H σ, Fr G B H σ T → ∀ Q : Bool → Hp → Prop, (∀ B' H', Ext B H B' H' → Q b H') → tt σ H Q
/-- arguments, in the base -/
def ArgsOk (K : PySem.W.Frag) (B : Hp) : List V → List Ty → Prop
  | [], [] => True
  | v :: vs, .im r a :: As => r.rp K B a v ∧ ArgsOk K B vs As
  | _, _ => False
theorem ArgsOk.mono {K : PySem.W.Frag} {B B' : Hp} (e : Same B B') : ∀ {vs : List V} {As : List Ty}, ArgsOk K B vs As → ArgsOk K B' vs As
  | [], [], _ => trivial
  | v :: vs, .im r a :: As, h => ⟨r.mono e h.1, ArgsOk.mono e h.2⟩
  | [], _ :: _, h => by cases h
  | _ :: _, [], h => by cases h
  | _ :: _, .ow _ _ :: _, h => by cases h
  | _ :: _, .un :: _, h => by cases h
  | _ :: _, .any :: _, h => by cases h
def EvA (G : Cn) (ta : TA) (T : List Ty) (As : List Ty) : Prop := ∀ B H σ, Fr G B H σ T → ∀ Q : List V → Hp → Prop, (∀ vs B' H', Ext B H B' H' → ArgsOk G.K B' vs As → Q vs H') → ta σ H Q
/-- arguments, as the heap stands -/
def EvAH (G : Cn) (ta : TA) (T : List Ty) (As : List Ty) : Prop := ∀ B H σ, Fr G B H σ T → ∀ Q : List V → Hp → Prop, (∀ vs B' H', Ext B H B' H' → ArgsOk G.K H' vs As → Q vs H') → ta σ H Q
section
variable {G : Cn} {T : List Ty} {te ta tb tc : TE} {α β γ : Type} {r : Rp α} {r' : Rp β}
theorem crp.ext {K : PySem.W.Frag} {B H B' H' : Hp} (x : Ext B H B' H') {xs : List α} {v : V} (h : crp K B H r xs v) : crp K B' H' r xs v := by
  obtain ⟨p, vs, e, s, q⟩ := h
  exact ⟨p, vs, e, Same.seq x.h s, paired_mono x.b q⟩
theorem EvD.h {a : α} (h : EvD G te T r a) : EvH G te T r a := fun B H σ f Q q => h B H σ f Q fun v B' H' x z => q v B' H' x (r.mono x.s z)
theorem EvD.c {xs : List α} (h : EvD G te T (@rpList α r) xs) : EvC G te T r xs := fun B H σ f Q q => h B H σ f Q fun v B' H' x z => q v B' H' x (by
  obtain ⟨p, vs, e, h1, h2⟩ := z
  exact ⟨p, vs, e, .inl (.inl (x.s _ _ h1)), h2⟩)
theorem EvD.cs {s : Scr} (h : EvD G te T rpScr s) : EvC G te T rpInt s.cells := fun B H σ f Q q => h B H σ f Q fun v B' H' x z => q v B' H' x (by
  obtain ⟨p, e, h1⟩ := z
  exact ⟨p, _, e, Same.seq x.s h1, by
    generalize s.cells = l
    induction l with
    | nil => exact .nil
    | cons a l ih => exact .cons rfl ih⟩)
theorem EvN.c {xs : List α} (h : EvN G te T r xs) : EvC G te T r xs := fun B H σ f Q q => h B H σ f Q fun p vs B' H' x n1 n2 e z => q (.ref p) B' H' x ⟨p, vs, rfl, .inl (.inl e), z⟩
theorem EvC.hs [Sc α] {xs : List α} (h : EvC G te T r xs) (hl : True := trivial) : EvC G te T r xs := h
/-- a new list is let stand -/
theorem EvN.d {xs : List α} (h : EvN G te T r xs) : EvD G te T (@rpList α r) xs := fun B H σ f Q q => h B H σ f Q fun p vs B' H' x n1 n2 e z => by
  have sB : Same B' (upd B' p (.lst vs)) := fun b o e => by
    rw [upd_ne (ne_of_none e n2)]
    exact e
  refine q (.ref p) (upd B' p (.lst vs)) H' ⟨x.b.trans sB, x.h, fun b o e' => ?_, fun b hb => ?_⟩ ⟨p, vs, rfl, upd_same, paired_mono sB z⟩
  · by_cases hp : b = p
    · subst hp; rw [upd_same] at e'; cases e'; exact e
    · rw [upd_ne hp] at e'; exact x.s b o e'
  · rw [upd_ne fun z => by subst z; exact hb n1]
    exact x.n b hb
/-- what needs no heap may be read off the heap as it stands -/
theorem EvH.d [Sc α] {a : α} (h : EvH G te T r a) : EvD G te T r a := fun B H σ f Q q => h B H σ f Q fun v B' H' x z => q v B' H' x (Sc.any z)
theorem EvH.c [Sc α] {xs : List α} (h : EvH G te T (@rpList α r) xs) : EvC G te T r xs := fun B H σ f Q q => h B H σ f Q fun v B' H' x z => q v B' H' x (by
  obtain ⟨p, vs, e, h1, h2⟩ := z
  exact ⟨p, vs, e, .inl (.inl h1), paired_sc h2⟩)
theorem EvT.is {tt : TT} {b b' : Bool} (h : EvT G tt T b) (e : b = b') : EvT G tt T b' := e ▸ h
theorem EvD.is {a a' : α} (h : EvD G te T r a) (e : a = a') : EvD G te T r a' := e ▸ h
theorem EvN.is {a a' : List α} (h : EvN G te T r a) (e : a = a') : EvN G te T r a' := e ▸ h
/-! names, constants -/
theorem ev_var {i : Nat} {a : α} (h : T[i]? = some (.im r a)) : EvD G (tVar i) T r a := fun B H σ f Q q => by
  obtain ⟨v, e, z⟩ := f.get h
  exact ⟨v, e, q v B H (Ext.refl f.bh) z⟩
theorem ev_varM {i : Nat} {a : ML α} (h : T[i]? = some (.ow (@owML α r) a)) : EvC G (tVar i) T r a.l := fun B H σ f Q q => by
  obtain ⟨own, _, sl⟩ := f.sl
  obtain ⟨s, e1, v, rfl, p, vs, rfl, _, _, hp, z⟩ := sl i _ h
  exact ⟨_, e1, q _ B H (Ext.refl f.bh) ⟨p, vs, rfl, .inl (.inl hp), z⟩⟩
theorem ev_varMH {i : Nat} {a : ML α} (h : T[i]? = some (.ow (@owML α r) a)) : EvH G (tVar i) T (@rpList α r) a.l := fun B H σ f Q q => by
  obtain ⟨own, _, sl⟩ := f.sl
  obtain ⟨s, e1, v, rfl, p, vs, rfl, _, _, hp, z⟩ := sl i _ h
  exact ⟨_, e1, q _ B H (Ext.refl f.bh) ⟨p, vs, rfl, hp, paired_mono f.bh z⟩⟩
theorem ev_int {i : Int} : EvD G (tC (.int i)) T rpInt i := fun B H σ f Q q => q _ B H (Ext.refl f.bh) rfl
theorem ev_bl {i : Bool} : EvD G (tC (.bl i)) T rpBool i := fun B H σ f Q q => q _ B H (Ext.refl f.bh) rfl
theorem ev_str {i : Str} : EvD G (tC (.str i)) T rpStr i := fun B H σ f Q q => q _ B H (Ext.refl f.bh) rfl
theorem ev_non : EvD G (tC .non) T (@rpOpt α r) none := fun B H σ f Q q => q _ B H (Ext.refl f.bh) rfl
theorem ev_unit : EvD G (tC .non) T rpUnit () := fun B H σ f Q q => q _ B H (Ext.refl f.bh) rfl
theorem ev_some {a : α} (h : EvD G te T r a) : EvD G te T (@rpOpt α r) (some a) := h
/-! numbers -/
theorem ev_opI {g : Int → Int → Int} {i j : Int} (ha : EvD G ta T rpInt i) (hb : EvD G tb T rpInt j) : EvD G (tOp (rI0 fun i j => .int (g i j)) ta tb) T rpInt (g i j) := fun B H σ f Q q =>
  ha B H σ f _ fun v B1 H1 x1 e1 => hb B1 H1 σ (f.ext x1) _ fun u B2 H2 x2 e2 => ⟨i, j, e1, e2, q _ B2 H2 (x1.trans x2) rfl⟩
theorem ev_opC {C : Int → Int → Prop} {g : Int → Int → Int} {i j : Int} (ha : EvD G ta T rpInt i) (hb : EvD G tb T rpInt j) (hc : C i j) : EvD G (tOp (rI C fun i j => .int (g i j)) ta tb) T rpInt (g i j) := fun B H σ f Q q =>
  ha B H σ f _ fun v B1 H1 x1 e1 => hb B1 H1 σ (f.ext x1) _ fun u B2 H2 x2 e2 => ⟨i, j, e1, e2, hc, q _ B2 H2 (x1.trans x2) rfl⟩
theorem ev_opB {g : Int → Int → Bool} {i j : Int} (ha : EvD G ta T rpInt i) (hb : EvD G tb T rpInt j) : EvD G (tOp (rI0 fun i j => .bl (g i j)) ta tb) T rpBool (g i j) := fun B H σ f Q q =>
  ha B H σ f _ fun v B1 H1 x1 e1 => hb B1 H1 σ (f.ext x1) _ fun u B2 H2 x2 e2 => ⟨i, j, e1, e2, q _ B2 H2 (x1.trans x2) rfl⟩
theorem ev_neg {g : Int → Int} {i : Int} (ha : EvD G ta T rpInt i) : EvD G (tUn (rU fun i => .int (g i)) ta) T rpInt (g i) := fun B H σ f Q q =>
  ha B H σ f _ fun v B1 H1 x1 e1 => ⟨i, e1, q _ B1 H1 x1 rfl⟩
/-- a value that is told by its plain value -/
class Sv (α : Type) [Rp α] where
  enc : α → V
  is : ∀ {K : PySem.W.Frag} {H : Hp} {a : α} {v : V}, Rp.rp K H a v → v = enc a
instance svInt : Sv Int := ⟨V.int, fun h => h⟩
instance svBool : Sv Bool := ⟨V.bl, fun h => h⟩
instance svUnit : Sv Unit := ⟨fun _ => V.non, fun h => h⟩
instance svStr : Sv Str := ⟨V.str, fun h => h⟩
theorem ev_eq [Sv α] [Sv β] {a : α} {b : β} (ha : EvD G ta T r a) (hb : EvD G tb T r' b) (hs : scal (Sv.enc a) (Sv.enc b) = true) : EvD G (tOp rEq ta tb) T rpBool (decide (Sv.enc a = Sv.enc b)) := fun B H σ f Q q =>
  ha B H σ f _ fun v B1 H1 x1 e1 => hb B1 H1 σ (f.ext x1) _ fun u B2 H2 x2 e2 => by
    rw [Sv.is e1, Sv.is e2]
    exact ⟨hs, q _ B2 H2 (x1.trans x2) rfl⟩
theorem ev_ne [Sv α] [Sv β] {a : α} {b : β} (ha : EvD G ta T r a) (hb : EvD G tb T r' b) (hs : scal (Sv.enc a) (Sv.enc b) = true) : EvD G (tOp rNe ta tb) T rpBool (!decide (Sv.enc a = Sv.enc b)) := fun B H σ f Q q =>
  ha B H σ f _ fun v B1 H1 x1 e1 => hb B1 H1 σ (f.ext x1) _ fun u B2 H2 x2 e2 => by
    rw [Sv.is e1, Sv.is e2]
    exact ⟨hs, q _ B2 H2 (x1.trans x2) rfl⟩
theorem int_dec {i j : Int} : decide (V.int i = V.int j) = decide (i = j) := by
  by_cases h : i = j
  · subst h; simp
  · rw [decide_eq_false h, decide_eq_false fun z => h (V.int.inj z)]
theorem str_dec {i j : Str} : decide (V.str i = V.str j) = decide (i = j) := by
  by_cases h : i = j
  · subst h; simp
  · rw [decide_eq_false h, decide_eq_false fun z => h (V.str.inj z)]
theorem ev_eqI {i j : Int} (ha : EvD G ta T rpInt i) (hb : EvD G tb T rpInt j) : EvD G (tOp rEq ta tb) T rpBool (decide (i = j)) := (ev_eq ha hb rfl).is int_dec
theorem ev_neI {i j : Int} (ha : EvD G ta T rpInt i) (hb : EvD G tb T rpInt j) : EvD G (tOp rNe ta tb) T rpBool (!decide (i = j)) := (ev_ne ha hb rfl).is (congrArg not int_dec)
theorem ev_eqS {i j : Str} (ha : EvD G ta T rpStr i) (hb : EvD G tb T rpStr j) : EvD G (tOp rEq ta tb) T rpBool (decide (i = j)) := (ev_eq ha hb rfl).is str_dec
theorem ev_neS {i j : Str} (ha : EvD G ta T rpStr i) (hb : EvD G tb T rpStr j) : EvD G (tOp rNe ta tb) T rpBool (!decide (i = j)) := (ev_ne ha hb rfl).is (congrArg not str_dec)
theorem ev_chain {p q : Int → Int → Bool} {i j k : Int} (ha : EvD G ta T rpInt i) (hb : EvD G tb T rpInt j) (hc : EvD G tc T rpInt k) :
    EvD G (tChain (rI0 fun i j => .bl (p i j)) (rI0 fun i j => .bl (q i j)) ta tb tc) T rpBool (p i j && q j k) := fun B H σ f Q h =>
  ha B H σ f _ fun v B1 H1 x1 e1 => hb B1 H1 σ (f.ext x1) _ fun u B2 H2 x2 e2 => ⟨i, j, e1, e2, p i j, rfl, by
    cases hp : p i j with
    | true => exact iteT (hc B2 H2 σ ((f.ext x1).ext x2) _ fun w B3 H3 x3 e3 => ⟨j, k, e2, e3, h _ B3 H3 ((x1.trans x2).trans x3) (by show V.bl (q j k) = V.bl (p i j && q j k); rw [hp] <;> rfl)⟩)
    | false => exact iteF (h _ B2 H2 (x1.trans x2) (by show V.bl false = V.bl (p i j && q j k); rw [hp] <;> rfl))⟩
theorem ev_andV {a b : Bool} (ha : EvD G ta T rpBool a) (hb : a = true → EvD G tb T rpBool b) : EvD G (tAndV ta tb) T rpBool (a && b) := fun B H σ f Q q =>
  ha B H σ f _ fun v B1 H1 x1 e1 => ⟨a, e1, by
    cases a with
    | true => exact iteT (hb rfl B1 H1 σ (f.ext x1) _ fun w B3 H3 x3 e3 => q _ B3 H3 (x1.trans x3) e3)
    | false => exact iteF (q _ B1 H1 x1 rfl)⟩
theorem ev_orV {a b : Bool} (ha : EvD G ta T rpBool a) (hb : a = false → EvD G tb T rpBool b) : EvD G (tOrV ta tb) T rpBool (a || b) := fun B H σ f Q q =>
  ha B H σ f _ fun v B1 H1 x1 e1 => ⟨a, e1, by
    cases a with
    | true => exact iteT (q _ B1 H1 x1 rfl)
    | false => exact iteF (hb rfl B1 H1 σ (f.ext x1) _ fun w B3 H3 x3 e3 => q _ B3 H3 (x1.trans x3) e3)⟩
theorem ev_notV {a : Bool} (ha : EvD G ta T rpBool a) : EvD G (tNotV ta) T rpBool (!a) := fun B H σ f Q q =>
  ha B H σ f _ fun v B1 H1 x1 e1 => ⟨a, e1, q _ B1 H1 x1 rfl⟩
theorem ev_ifE {t : TT} {c : Bool} {a : α} (ht : EvT G t T c) (h1 : c = true → EvD G ta T r a) (h2 : c = false → EvD G tb T r a) : EvD G (tIf t ta tb) T r a := fun B H σ f Q q =>
  ht B H σ f _ fun B1 H1 x1 => by
    cases c with
    | true => exact iteT (h1 rfl B1 H1 σ (f.ext x1) _ fun w B3 H3 x3 e3 => q _ B3 H3 (x1.trans x3) e3)
    | false => exact iteF (h2 rfl B1 H1 σ (f.ext x1) _ fun w B3 H3 x3 e3 => q _ B3 H3 (x1.trans x3) e3)
/-! tests -/
theorem et_test {b : Bool} (h : EvD G te T rpBool b) : EvT G (tTest te) T b := fun B H σ f Q q => h B H σ f _ fun v B1 H1 x1 e1 => ⟨b, e1, q B1 H1 x1⟩
theorem et_B {b : Bool} (h : EvD G te T rpBool b) : EvT G (tB te) T b := fun B H σ f Q q => h B H σ f _ fun v B1 H1 x1 e1 => ⟨b, e1, q B1 H1 x1⟩
theorem et_and {t u : TT} {a b : Bool} (h1 : EvT G t T a) (h2 : a = true → EvT G u T b) : EvT G (tAnd t u) T (a && b) := fun B H σ f Q q => h1 B H σ f _ fun B1 H1 x1 => by
  cases a with
  | true => exact iteT (h2 rfl B1 H1 σ (f.ext x1) _ fun B2 H2 x2 => q B2 H2 (x1.trans x2))
  | false => exact iteF (q B1 H1 x1)
theorem et_or {t u : TT} {a b : Bool} (h1 : EvT G t T a) (h2 : a = false → EvT G u T b) : EvT G (tOr t u) T (a || b) := fun B H σ f Q q => h1 B H σ f _ fun B1 H1 x1 => by
  cases a with
  | true => exact iteT (q B1 H1 x1)
  | false => exact iteF (h2 rfl B1 H1 σ (f.ext x1) _ fun B2 H2 x2 => q B2 H2 (x1.trans x2))
theorem et_not {t : TT} {a : Bool} (h1 : EvT G t T a) : EvT G (tNot t) T (!a) := fun B H σ f Q q => h1 B H σ f _ fun B1 H1 x1 => q B1 H1 x1
/-- the truth of a list -/
def tTruR (K : PySem.W.Frag) (ta : TE) : TT := fun σ H Q => ta σ H fun x H' => ∃ k, TruV K x H' k ∧ Q k H'
theorem pairedEmpty {F : α → β → Prop} {xs : List α} {ys : List β} (h : Paired F xs ys) : ys.isEmpty = xs.isEmpty := by cases h <;> rfl
theorem et_truL {xs : List α} (h : EvC G te T r xs) : EvT G (tTruR G.K te) T (!xs.isEmpty) := fun B H σ f Q q => h B H σ f _ fun v B1 H1 x1 e1 => by
  obtain ⟨p, vs, rfl, s, z⟩ := e1
  exact ⟨!xs.isEmpty, .inl ⟨vs, s, by rw [pairedEmpty z]⟩, q B1 H1 x1⟩
theorem et_truI {i : Int} (h : EvD G te T rpInt i) : EvT G (tTruR G.K te) T (i != 0) := fun B H σ f Q q => h B H σ f _ fun v B1 H1 x1 e1 => by
  subst e1
  exact ⟨_, rfl, q B1 H1 x1⟩
/-! is None -/
class Nn (α : Type) [Rp α] where
  nn : ∀ {K : PySem.W.Frag} {H : Hp} {a : α} {v : V}, Rp.rp K H a v → v ≠ .non
instance nnInt : Nn Int := ⟨fun h z => by rw [z] at h; cases h⟩
instance nnBool : Nn Bool := ⟨fun h z => by rw [z] at h; cases h⟩
instance nnList {α : Type} [Rp α] : Nn (List α) := ⟨fun ⟨_, _, h, _⟩ z => by rw [z] at h; cases h⟩
instance nnPair {α β : Type} [Rp α] [Rp β] : Nn (α × β) := ⟨fun ⟨_, _, _, h, _⟩ z => by rw [z] at h; cases h⟩
instance nnT3 {α β γ : Type} [Rp α] [Rp β] [Rp γ] : Nn (T3 α β γ) := ⟨fun ⟨_, _, _, _, h, _⟩ z => by rw [z] at h; cases h⟩
theorem isNone_of [Nn α] {K : PySem.W.Frag} {H : Hp} {o : Option α} {v : V} (h : (@rpOpt α r).rp K H o v) : decide (v = .non) = o.isNone := by
  cases o with
  | none => exact decide_eq_true h
  | some a => exact decide_eq_false (Nn.nn (show Rp.rp K H a v from h))
theorem ev_isN [Nn α] {o : Option α} (h : EvH G te T (@rpOpt α r) o) : EvD G (tIsN te) T rpBool o.isNone := fun B H σ f Q q => h B H σ f _ fun v B1 H1 x1 e1 => by
  rw [isNone_of e1]
  exact q _ B1 H1 x1 rfl
theorem ev_notN [Nn α] {o : Option α} (h : EvH G te T (@rpOpt α r) o) : EvD G (tNotN te) T rpBool (!o.isNone) := fun B H σ f Q q => h B H σ f _ fun v B1 H1 x1 e1 => by
  rw [isNone_of e1]
  exact q _ B1 H1 x1 rfl
/-! arguments -/
theorem ea_nil : EvA G tNil T [] := fun B H σ f Q q => q [] B H (Ext.refl f.bh) trivial
theorem ea_cons {tr : TA} {As : List Ty} {a : α} (h : EvD G te T r a) (hr : EvA G tr T As) : EvA G (tCons te tr) T (.im r a :: As) := fun B H σ f Q q =>
  h B H σ f _ fun v B1 H1 x1 e1 => hr B1 H1 σ (f.ext x1) _ fun vs B2 H2 x2 e2 => q _ B2 H2 (x1.trans x2) ⟨r.mono x2.b e1, e2⟩
theorem eah_nil : EvAH G tNil T [] := fun B H σ f Q q => q [] B H (Ext.refl f.bh) trivial
theorem eah_cons {tr : TA} {As : List Ty} {a : α} (h : EvH G te T r a) (hr : EvAH G tr T As) : EvAH G (tCons te tr) T (.im r a :: As) := fun B H σ f Q q =>
  h B H σ f _ fun v B1 H1 x1 e1 => hr B1 H1 σ (f.ext x1) _ fun vs B2 H2 x2 e2 => q _ B2 H2 (x1.trans x2) ⟨r.mono x2.h e1, e2⟩
theorem EvA.h {t : TA} {As : List Ty} (h : EvA G t T As) : EvAH G t T As := fun B H σ f Q q => h B H σ f Q fun vs B1 H1 x e => q vs B1 H1 x (e.mono x.s)
/-! items -/
theorem paired_get {F : α → β → Prop} : ∀ {xs : List α} {ys : List β} {i : Nat} {x : α}, Paired F xs ys → xs[i]? = some x → ∃ y, ys[i]? = some y ∧ F x y
  | _, _, _, _, .nil, e => by simp at e
  | _, _, 0, _, .cons r _, e => by simp at e; subst e; exact ⟨_, rfl, r⟩
  | _, _, i + 1, x, .cons _ t, e => by
    obtain ⟨u, h1, h2⟩ := paired_get (i := i) (x := x) t (by simpa using e)
    exact ⟨u, by simpa using h1, h2⟩
theorem paired_get' {F : α → β → Prop} : ∀ {xs : List α} {ys : List β} {i : Nat} {y : β}, Paired F xs ys → ys[i]? = some y → ∃ x, xs[i]? = some x ∧ F x y
  | _, _, _, _, .nil, e => by simp at e
  | _, _, 0, _, .cons r _, e => by simp at e; subst e; exact ⟨_, rfl, r⟩
  | _, _, i + 1, x, .cons _ t, e => by
    obtain ⟨u, h1, h2⟩ := paired_get' (i := i) (y := x) t (by simpa using e)
    exact ⟨u, by simpa using h1, h2⟩
theorem paired_append {F : α → β → Prop} : ∀ {xs xs' : List α} {ys ys' : List β}, Paired F xs ys → Paired F xs' ys' → Paired F (xs ++ xs') (ys ++ ys')
  | _, _, _, _, .nil, s => s
  | _, _, _, _, .cons r t, s => .cons r (paired_append t s)
theorem paired_set {F : α → β → Prop} {x : α} {y : β} (h : F x y) : ∀ {xs : List α} {ys : List β} (i : Nat), Paired F xs ys → Paired F (xs.set i x) (ys.set i y)
  | _, _, _, .nil => .nil
  | _, _, 0, .cons _ t => .cons h t
  | _, _, i + 1, .cons q t => .cons q (paired_set h i t)
theorem paired_take {F : α → β → Prop} : ∀ {xs : List α} {ys : List β} (n : Nat), Paired F xs ys → Paired F (xs.take n) (ys.take n)
  | _, _, 0, _ => .nil
  | _, _, _ + 1, .nil => .nil
  | _, _, n + 1, .cons r t => .cons r (paired_take n t)
theorem paired_drop {F : α → β → Prop} : ∀ {xs : List α} {ys : List β} (n : Nat), Paired F xs ys → Paired F (xs.drop n) (ys.drop n)
  | _, _, 0, r => r
  | _, _, _ + 1, .nil => .nil
  | _, _, n + 1, .cons _ t => paired_drop n t
theorem atI_paired {F : α → β → Prop} {xs : List α} {ys : List β} {i : Int} {x : α} (h : Paired F xs ys) (e : atI xs i = some x) : ∃ y, atI ys i = some y ∧ F x y := by
  unfold atI at e ⊢
  rw [← Paired.length h]
  cases q : ixN xs.length i with
  | none => rw [q] at e; cases e
  | some j =>
    rw [q] at e
    exact paired_get h e
theorem ev_ix {xs : List α} {i : Int} {a : α} (hl : EvC G ta T r xs) (hi : EvD G tb T rpInt i) (e : atI xs i = some a) : EvD G (tOp (rIxL G.K) ta tb) T r a := fun B H σ f Q q =>
  hl B H σ f _ fun v B1 H1 x1 e1 => hi B1 H1 σ (f.ext x1) _ fun u B2 H2 x2 e2 => by
    obtain ⟨p, vs, rfl, s, z⟩ := e1.ext x2
    obtain ⟨y, h1, h2⟩ := atI_paired z e
    exact ⟨p, vs, i, y, rfl, e2, s, h1, q _ B2 H2 (x1.trans x2) h2⟩
theorem ev_fst {a : α × β} (h : EvD G ta T (@rpPair α β r r') a) : EvD G (tOp (rIxT G.K) ta (tC (.int 0))) T r a.1 := fun B H σ f Q q =>
  h B H σ f _ fun v B1 H1 x1 e1 => by
    obtain ⟨p, x, y, rfl, hp, h1, h2⟩ := e1
    exact ⟨p, _, 0, x, rfl, rfl, .inl (.inl (x1.s _ _ hp)), rfl, q _ B1 H1 x1 h1⟩
theorem ev_snd {a : α × β} (h : EvD G ta T (@rpPair α β r r') a) : EvD G (tOp (rIxT G.K) ta (tC (.int 1))) T r' a.2 := fun B H σ f Q q =>
  h B H σ f _ fun v B1 H1 x1 e1 => by
    obtain ⟨p, x, y, rfl, hp, h1, h2⟩ := e1
    exact ⟨p, _, 1, y, rfl, rfl, .inl (.inl (x1.s _ _ hp)), rfl, q _ B1 H1 x1 h2⟩
section
variable {r'' : Rp γ}
theorem ev_t3a {t : T3 α β γ} (h : EvD G ta T (@rpT3 α β γ r r' r'') t) : EvD G (tOp (rIxT G.K) ta (tC (.int 0))) T r t.a := fun B H σ f Q q =>
  h B H σ f _ fun v B1 H1 x1 e1 => by
    obtain ⟨p, x, y, z, rfl, hp, h1, h2, h3⟩ := e1
    exact ⟨p, _, 0, x, rfl, rfl, .inl (.inl (x1.s _ _ hp)), rfl, q _ B1 H1 x1 h1⟩
theorem ev_t3b {t : T3 α β γ} (h : EvD G ta T (@rpT3 α β γ r r' r'') t) : EvD G (tOp (rIxT G.K) ta (tC (.int 1))) T r' t.b := fun B H σ f Q q =>
  h B H σ f _ fun v B1 H1 x1 e1 => by
    obtain ⟨p, x, y, z, rfl, hp, h1, h2, h3⟩ := e1
    exact ⟨p, _, 1, y, rfl, rfl, .inl (.inl (x1.s _ _ hp)), rfl, q _ B1 H1 x1 h2⟩
theorem ev_t3c {t : T3 α β γ} (h : EvD G ta T (@rpT3 α β γ r r' r'') t) : EvD G (tOp (rIxT G.K) ta (tC (.int 2))) T r'' t.c := fun B H σ f Q q =>
  h B H σ f _ fun v B1 H1 x1 e1 => by
    obtain ⟨p, x, y, z, rfl, hp, h1, h2, h3⟩ := e1
    exact ⟨p, _, 2, z, rfl, rfl, .inl (.inl (x1.s _ _ hp)), rfl, q _ B1 H1 x1 h3⟩
end
/-! displays -/
theorem upd_ext {B H : Hp} (bh : Same B H) {p : Addr} {o : HO} (n : H p = none) : Ext B H (upd B p o) (upd H p o) := by
  have nB := bh.free n
  refine ⟨fun q u e => by rw [upd_ne (ne_of_none e nB)]; exact e, fun q u e => by rw [upd_ne (ne_of_none e n)]; exact e, fun q u e => ?_, fun q hq => upd_ne fun z => by subst z; exact hq n⟩
  by_cases h : q = p
  · subst h; rw [upd_same] at e ⊢; exact e
  · rw [upd_ne h] at e ⊢; exact bh q u e
theorem upd_extN {B H : Hp} (bh : Same B H) {p : Addr} {o : HO} (n : H p = none) : Ext B H B (upd H p o) :=
  ⟨Same.refl _, fun q u e => by rw [upd_ne (ne_of_none e n)]; exact e, fun q u e => by rw [upd_ne (ne_of_none (bh q u e) n)]; exact bh q u e, fun _ _ => rfl⟩
theorem sz_of {n : Nat} (h : n ≤ 100000) : n ≤ sizeLine := Nat.le_trans h (by decide)
theorem sz_lt {n : Nat} (h : n < 100000) : n < sizeLine := Nat.lt_of_lt_of_le h (by decide)
theorem ev_pair {a : α} {b : β} (ha : EvD G ta T r a) (hb : EvD G tb T r' b) : EvD G (tTup (tCons ta (tCons tb tNil))) T (@rpPair α β r r') (a, b) := fun B H σ f Q q =>
  ha B H σ f _ fun v B1 H1 x1 e1 => hb B1 H1 σ (f.ext x1) _ fun u B2 H2 x2 e2 => ⟨by show 2 ≤ sizeLine; decide, fun p hp => by
    have x3 := upd_ext (o := .tup [v, u]) x2.s hp
    exact q _ _ _ ((x1.trans x2).trans x3) ⟨p, v, u, rfl, upd_same, r.mono (x2.b.trans x3.b) e1, r'.mono x3.b e2⟩⟩
theorem ev_trip {c : γ} {r'' : Rp γ} {a : α} {b : β} (ha : EvD G ta T r a) (hb : EvD G tb T r' b) (hc : EvD G tc T r'' c) : EvD G (tTup (tCons ta (tCons tb (tCons tc tNil)))) T (@rpT3 α β γ r r' r'') ⟨a, b, c⟩ := fun B H σ f Q q =>
  ha B H σ f _ fun v B1 H1 x1 e1 => hb B1 H1 σ (f.ext x1) _ fun u B2 H2 x2 e2 => hc B2 H2 σ ((f.ext x1).ext x2) _ fun w B3 H3 x3 e3 => ⟨by show 3 ≤ sizeLine; decide, fun p hp => by
    have x4 := upd_ext (o := .tup [v, u, w]) x3.s hp
    exact q _ _ _ (((x1.trans x2).trans x3).trans x4) ⟨p, v, u, w, rfl, upd_same, r.mono ((x2.b.trans x3.b).trans x4.b) e1, r'.mono (x3.b.trans x4.b) e2, r''.mono x4.b e3⟩⟩
/-- items of one kind -/
def EvL (G : Cn) (ta : TA) (T : List Ty) {α : Type} (r : Rp α) (xs : List α) : Prop := ∀ B H σ, Fr G B H σ T → ∀ Q : List V → Hp → Prop, (∀ vs B' H', Ext B H B' H' → Paired (r.rp G.K B') xs vs → Q vs H') → ta σ H Q
theorem el_nil : EvL G tNil T r [] := fun B H σ f Q q => q [] B H (Ext.refl f.bh) .nil
theorem el_cons {tr : TA} {xs : List α} {a : α} (h : EvD G te T r a) (hr : EvL G tr T r xs) : EvL G (tCons te tr) T r (a :: xs) := fun B H σ f Q q =>
  h B H σ f _ fun v B1 H1 x1 e1 => hr B1 H1 σ (f.ext x1) _ fun vs B2 H2 x2 e2 => q _ B2 H2 (x1.trans x2) (.cons (r.mono x2.b e1) e2)
theorem ev_lst {t : TA} {xs : List α} (h : EvL G t T r xs) (hl : xs.length ≤ 100000) : EvN G (tLst t) T r xs := fun B H σ f Q q =>
  h B H σ f _ fun vs B1 H1 x1 e1 => ⟨by rw [← Paired.length e1]; exact sz_of hl, fun p hp => by
    have x2 := upd_extN (o := .lst vs) x1.s hp
    exact q p vs B1 _ (x1.trans x2) (x1.h.free hp) (x1.s.free hp) upd_same e1⟩
/-! lists by built-ins -/
def rLenQ (K : PySem.W.Frag) : List V → Hp → VK → Prop := fun xs H Q => ∃ p ys, xs = [.ref p] ∧ (SqL K H p ys ∨ SqT K H p ys) ∧ Q (.int ys.length) H
theorem cr_lenQ {X : Cx} : CallR X (.builtin "len") (rLenQ X.K) := call_len_seq
theorem ev_len {xs : List α} (h : EvC G te T r xs) : EvD G (tCB (rLenQ G.K) (tCons te tNil)) T rpInt (xs.length : Int) := fun B H σ f Q q =>
  h B H σ f _ fun v B1 H1 x1 e1 => by
    obtain ⟨p, vs, rfl, s, z⟩ := e1
    refine ⟨p, vs, rfl, .inl s, ?_⟩
    rw [← Paired.length z]
    exact q _ B1 H1 x1 rfl
def rListQ (K : PySem.W.Frag) : List V → Hp → VK → Prop := fun xs H Q => ∃ p ys, xs = [.ref p] ∧ (SqL K H p ys ∨ SqT K H p ys) ∧ ∀ l, H l = none → Q (.ref l) (upd H l (.lst ys))
theorem cr_listQ {X : Cx} : CallR X (.type "list") (rListQ X.K) := call_list_of
theorem ev_list {xs : List α} (h : EvC G te T r xs) : EvN G (tCB (rListQ G.K) (tCons te tNil)) T r xs := fun B H σ f Q q =>
  h B H σ f _ fun v B1 H1 x1 e1 => by
    obtain ⟨p, vs, rfl, s, z⟩ := e1
    refine ⟨p, vs, rfl, .inl s, fun l hl => ?_⟩
    have x2 := upd_extN (o := .lst vs) x1.s hl
    exact q l vs B1 _ (x1.trans x2) (x1.h.free hl) (x1.s.free hl) upd_same z
theorem ints_of {K : PySem.W.Frag} {B : Hp} : ∀ {xs : List Int} {vs : List V}, Paired (rpInt.rp K B) xs vs → vs = xs.map V.int
  | [], _, .nil => rfl
  | x :: xs, _, .cons h t => by rw [show _ = V.int x from h, ints_of t] <;> rfl
theorem bls_of {K : PySem.W.Frag} {B : Hp} : ∀ {xs : List Bool} {vs : List V}, Paired (rpBool.rp K B) xs vs → vs = xs.map V.bl
  | [], _, .nil => rfl
  | x :: xs, _, .cons h t => by rw [show _ = V.bl x from h, bls_of t] <;> rfl
theorem of_ints {K : PySem.W.Frag} {B : Hp} : ∀ {xs : List Int}, Paired (rpInt.rp K B) xs (xs.map V.int)
  | [] => .nil
  | x :: xs => .cons rfl of_ints
theorem ev_sum {xs : List Int} (h : EvC G te T rpInt xs) : EvD G (tCB (rSum G.K) (tCons te tNil)) T rpInt xs.sum := fun B H σ f Q q =>
  h B H σ f _ fun v B1 H1 x1 e1 => by
    obtain ⟨p, vs, rfl, s, z⟩ := e1
    have e := ints_of z
    subst e
    exact ⟨p, xs, rfl, s, q _ B1 H1 x1 rfl⟩
theorem ev_maxL {xs : List Int} {m : Int} (h : EvC G te T rpInt xs) (hn : 0 < xs.length) (hm : ∀ k ∈ xs, (∀ y ∈ xs, y ≤ k) → k = m) : EvD G (tCB (rMax G.K) (tCons te tNil)) T rpInt m := fun B H σ f Q q =>
  h B H σ f _ fun v B1 H1 x1 e1 => by
    obtain ⟨p, vs, rfl, s, z⟩ := e1
    have e := ints_of z
    subst e
    exact ⟨p, xs, rfl, s, hn, fun k h1 h2 => q _ B1 H1 x1 (by rw [hm k h1 h2]; rfl)⟩
theorem ev_minL {xs : List Int} {m : Int} (h : EvC G te T rpInt xs) (hn : 0 < xs.length) (hm : ∀ k ∈ xs, (∀ y ∈ xs, k ≤ y) → k = m) : EvD G (tCB (rMin G.K) (tCons te tNil)) T rpInt m := fun B H σ f Q q =>
  h B H σ f _ fun v B1 H1 x1 e1 => by
    obtain ⟨p, vs, rfl, s, z⟩ := e1
    have e := ints_of z
    subst e
    exact ⟨p, xs, rfl, s, hn, fun k h1 h2 => q _ B1 H1 x1 (by rw [hm k h1 h2]; rfl)⟩
theorem ev_slice {xs : List α} {tl th : TO} {lo hi : Option Int} (h : EvC G te T r xs)
    (h1 : ∀ B H σ, Fr G B H σ T → ∀ Q : Option Int → Hp → Prop, (∀ B' H', Ext B H B' H' → Q lo H') → tl σ H Q) (h2 : ∀ B H σ, Fr G B H σ T → ∀ Q : Option Int → Hp → Prop, (∀ B' H', Ext B H B' H' → Q hi H') → th σ H Q) :
    EvN G (tSl (rSlL G.K) te tl th) T r ((xs.drop (HT.sIx xs.length 0 lo)).take (HT.sIx xs.length xs.length hi - HT.sIx xs.length 0 lo)) := fun B H σ f Q q =>
  h B H σ f _ fun v B1 H1 x1 e1 => h1 B1 H1 σ (f.ext x1) _ fun B2 H2 x2 => h2 B2 H2 σ ((f.ext x1).ext x2) _ fun B3 H3 x3 => by
    obtain ⟨p, vs, rfl, s, z⟩ := (e1.ext x2).ext x3
    refine ⟨p, vs, rfl, s, fun l hl => ?_⟩
    have x4 := upd_extN (o := .lst (cutV vs lo hi)) x3.s hl
    refine q l _ B3 _ (((x1.trans x2).trans x3).trans x4) ((x1.trans x2).h.free (x3.h.free hl)) (x3.s.free hl) upd_same ?_
    unfold cutV
    rw [← Paired.length z]
    exact paired_take _ (paired_drop _ z)
theorem eo_none : ∀ B H σ, Fr G B H σ T → ∀ Q : Option Int → Hp → Prop, (∀ B' H', Ext B H B' H' → Q none H') → tNoPart σ H Q := fun B H σ f Q q => q B H (Ext.refl f.bh)
theorem eo_part {i : Int} (h : EvD G te T rpInt i) : ∀ B H σ, Fr G B H σ T → ∀ Q : Option Int → Hp → Prop, (∀ B' H', Ext B H B' H' → Q (some i) H') → tPart te σ H Q := fun B H σ f Q q =>
  h B H σ f _ fun v B1 H1 x1 e1 => ⟨i, e1, q B1 H1 x1⟩
end
end DL

set_option Elab.async false
set_option linter.all false
set_option maxRecDepth 100000
set_option maxHeartbeats 4000000
namespace DL
open PySem PySem.Spec PyProof.Rows L2
/-! ### statements -/
def Goes (G : Cn) (T : List Ty) (k : L2.St → Hp → Prop) : Prop := ∀ B H σ, Fr G B H σ T → k σ H
def At (G : Cn) (I : List Ty → Prop) : L2.St → Hp → Prop := fun σ H => ∃ T B, I T ∧ Fr G B H σ T
/-- the same context behind a base that has grown -/
abbrev Cn.at (G : Cn) (B : Hp) : Cn := ⟨G.K, B, G.H0⟩
structure Up (G : Cn) (B1 : Hp) : Prop where
  b : Same G.B0 B1
  n : ∀ p, G.H0 p ≠ none → B1 p = G.B0 p
theorem Fr.root {G : Cn} {B1 B H : Hp} {σ : L2.St} {T : List Ty} (u : Up G B1) (f : Fr (G.at B1) B H σ T) : Fr G B H σ T :=
  ⟨f.bh, u.b.trans f.b0, f.h0, fun p hp => (f.n0 p hp).trans (u.n p hp), f.len, f.sl⟩
theorem Fr.lift {G : Cn} {B1 B H : Hp} {σ : L2.St} {T : List Ty} (f : Fr G B H σ T) (u : Up G B1) (e : Same B1 B) : Fr (G.at B1) B H σ T :=
  ⟨f.bh, e, f.h0, fun p hp => (f.n0 p hp).trans (u.n p hp).symm, f.len, f.sl⟩
theorem Fr.up {G : Cn} {B H : Hp} {σ : L2.St} {T : List Ty} (f : Fr G B H σ T) : Up G B := ⟨f.b0, f.n0⟩
theorem Goes.root {G : Cn} {B1 : Hp} {T : List Ty} {k : L2.St → Hp → Prop} (h : Goes G T k) (u : Up G B1) : Goes (G.at B1) T k := fun B H σ f => h B H σ (f.root u)
/-- what may be given back -/
def RetD (G : Cn) (rt : VK) {α : Type} (r : Rp α) (b : α) : Prop := ∀ v B H, Ext G.B0 G.H0 B H → r.rp G.K B b v → rt v H
def RetN (G : Cn) (rt : VK) {α : Type} (r : Rp α) (xs : List α) : Prop := ∀ p vs B H, Ext G.B0 G.H0 B H → G.H0 p = none → B p = none → H p = some (.lst vs) → Paired (r.rp G.K B) xs vs → rt (.ref p) H
theorem Up.ext {G : Cn} {B1 B H : Hp} (u : Up G B1) (x : Ext B1 G.H0 B H) : Ext G.B0 G.H0 B H := ⟨u.b.trans x.b, x.h, x.s, fun p hp => (x.n p hp).trans (u.n p hp)⟩
theorem RetD.root {G : Cn} {B1 : Hp} {rt : VK} {α : Type} {r : Rp α} {b : α} (h : RetD G rt r b) (u : Up G B1) : RetD (G.at B1) rt r b := fun v B H x z => h v B H (u.ext x) z
theorem RetN.root {G : Cn} {B1 : Hp} {rt : VK} {α : Type} {r : Rp α} {b : List α} (h : RetN G rt r b) (u : Up G B1) : RetN (G.at B1) rt r b := fun p vs B H x => h p vs B H (u.ext x)
theorem Fr.ext0 {G : Cn} {B H : Hp} {σ : L2.St} {T : List Ty} (f : Fr G B H σ T) : Ext G.B0 G.H0 B H := ⟨f.b0, f.h0, f.bh, f.n0⟩
section
variable {G : Cn} {T : List Ty} {te ta tb tc : TE} {α β γ : Type} {r : Rp α} {r' : Rp β} {D : Ends} {tz tu tw : TS} {c : TT} {k : L2.St → Hp → Prop}
theorem g_at {I : List Ty → Prop} (h : I T) : Goes G T (At G I) := fun B H σ f => ⟨T, B, h, f⟩
theorem g_mono {k' : L2.St → Hp → Prop} (h : Goes G T k) (e : ∀ σ H, k σ H → k' σ H) : Goes G T k' := fun B H σ f => e σ H (h B H σ f)
theorem g_of_at {I : List Ty → Prop} (k0 : ∀ T, I T → Goes G T k) : ∀ σ H, At G I σ H → k σ H := fun σ H ⟨T, B, h, f⟩ => k0 T h B H σ f
theorem g_seq (h : Goes G T (tz { D with nx := tu D })) : Goes G T (tSeq tz tu D) := h
theorem g_next (h : Goes G T D.nx) : Goes G T (tNext D) := h
theorem g_brk (h : Goes G T D.bk) : Goes G T (tBreak D) := h
theorem g_cont (h : Goes G T D.ct) : Goes G T (tCont D) := h
/-- a statement, then the rest, with a word between them -/
def tCut (t u : TS) : TS := fun D σ H => ∃ Mid : L2.St → Hp → Prop, t { D with nx := Mid } σ H ∧ ∀ σ' H', Mid σ' H' → u D σ' H'
theorem pss_cut {X : Cx} {st : Stmt} {rest : List Stmt} {t u : TS} (h1 : PS X st t) (h2 : PSs X rest u) : PSs X (st :: rest) (tCut t u) := by
  refine ⟨fun pins s σ H D I h => ?_⟩
  obtain ⟨Mid, hm, hu⟩ := h
  refine wpAny_execs_cons (thn (h1.run pins s σ H { D with nx := Mid } I hm) fun f s1 q => ?_)
  cases f with
  | next =>
    obtain ⟨σ', H', I', q⟩ := q
    exact h2.run pins s1 σ' H' D I' (hu σ' H' q)
  | ret v => exact q
  | brk => exact q
  | cont => exact q
theorem g_cut (I : List Ty → Prop) (h : Goes G T (tz { D with nx := At G I })) (k0 : ∀ T', I T' → Goes G T' (tu D)) : Goes G T (tCut tz tu D) := fun B H σ f => ⟨_, h B H σ f, g_of_at k0⟩
theorem g_if {b : Bool} (h : EvT G c T b) (h1 : b = true → Goes G T (tz D)) (h2 : b = false → Goes G T (tu D)) : Goes G T (tIfS c tz tu D) := fun B H σ f => h B H σ f _ fun B1 H1 x1 => by
  cases b with
  | true => exact iteT (h1 rfl B1 H1 σ (f.ext x1))
  | false => exact iteF (h2 rfl B1 H1 σ (f.ext x1))
theorem g_ret {b : α} (h : EvD G te T r b) (q : RetD G D.rt r b) : Goes G T (tRet te D) := fun B H σ f => h B H σ f _ fun v B1 H1 x1 e1 => q v B1 H1 (f.ext x1).ext0 e1
theorem g_retN {xs : List α} (h : EvN G te T r xs) (q : RetN G D.rt r xs) : Goes G T (tRet te D) := fun B H σ f => h B H σ f _ fun p vs B1 H1 x1 n1 n2 e z => q p vs B1 H1 (f.ext x1).ext0 (f.h0.free n1) n2 e z
theorem g_retM {i : Nat} {a : ML α} (h : T[i]? = some (.ow (@owML α r) a)) (q : RetN G D.rt r a.l) : Goes G T (tRet (tVar i) D) := fun B H σ f => by
  obtain ⟨own, o0, sl⟩ := f.sl
  obtain ⟨s, e1, v, rfl, p, vs, rfl, hp, n, e, z⟩ := sl i _ h
  exact ⟨_, e1, q p vs B H f.ext0 (o0 p i hp) n e z⟩
theorem RetN.d {rt : VK} {xs : List α} (h : RetD G rt (@rpList α r) xs) : RetN G rt r xs := fun p vs B H x n1 n2 e z => by
  have sB : Same B (upd B p (.lst vs)) := fun b o e => by
    rw [upd_ne (ne_of_none e n2)]
    exact e
  refine h (.ref p) (upd B p (.lst vs)) H ⟨x.b.trans sB, x.h, fun b o e' => ?_, fun b hb => ?_⟩ ⟨p, vs, rfl, upd_same, paired_mono sB z⟩
  · by_cases hp : b = p
    · subst hp; rw [upd_same] at e'; cases e'; exact e
    · rw [upd_ne hp] at e'; exact x.s b o e'
  · rw [upd_ne fun z => by subst z; exact hb n1]
    exact x.n b hb
theorem g_drop {a : α} (h : EvD G te T r a) (q : Goes G T D.nx) : Goes G T (tDrop te D) := fun B H σ f => h B H σ f _ fun v B1 H1 x1 e1 => q B1 H1 σ (f.ext x1)
/-! targets -/
def EvG (G : Cn) (g : TG) (T : List Ty) {α : Type} (r : Rp α) (a : α) (T' : List Ty) : Prop := ∀ B H σ v, Fr G B H σ T → r.rp G.K B a v → ∀ Q : L2.St → Hp → Prop, (∀ σ', Fr G B H σ' T' → Q σ' H) → g v σ H Q
theorem eg_name {i : Nat} {a : α} : EvG G (gName i) T r a (T.set i (.im r a)) := fun B H σ v f z Q q => q _ (f.set_im i r z)
theorem eg_pair {i j : Nat} {a : α × β} : EvG G (gTup G.K 2 (gCons (gName i) (gCons (gName j) gNil))) T (@rpPair α β r r') a ((T.set i (.im r a.1)).set j (.im r' a.2)) := fun B H σ v f z Q q => by
  obtain ⟨p, x, y, rfl, hp, h1, h2⟩ := z
  exact ⟨p, [x, y], rfl, .inl (.inl (f.bh _ _ hp)), rfl, x, [y], rfl, y, [], rfl, rfl, q _ ((f.set_im i r h1).set_im j r' h2)⟩
theorem eg_trip {r'' : Rp γ} {i j l : Nat} {a : T3 α β γ} : EvG G (gTup G.K 3 (gCons (gName i) (gCons (gName j) (gCons (gName l) gNil)))) T (@rpT3 α β γ r r' r'') a (((T.set i (.im r a.a)).set j (.im r' a.b)).set l (.im r'' a.c)) := fun B H σ v f z Q q => by
  obtain ⟨p, x, y, u, rfl, hp, h1, h2, h3⟩ := z
  exact ⟨p, [x, y, u], rfl, .inl (.inl (f.bh _ _ hp)), rfl, x, [y, u], rfl, y, [u], rfl, u, [], rfl, rfl, q _ (((f.set_im i r h1).set_im j r' h2).set_im l r'' h3)⟩
theorem g_asgT {g : TG} {a : α} {T' : List Ty} (h : EvD G te T r a) (hg : EvG G g T r a T') (q : Goes G T' D.nx) : Goes G T (tAsg te g D) := fun B H σ f =>
  h B H σ f _ fun v B1 H1 x1 e1 => hg B1 H1 σ v (f.ext x1) e1 _ fun σ' f' => q B1 H1 σ' f'
theorem g_asg {i : Nat} {a : α} (h : EvD G te T r a) (q : Goes G (T.set i (.im r a)) D.nx) : Goes G T (tAsg te (gName i) D) := g_asgT h eg_name q
theorem g_asgN {i : Nat} {xs : List α} (h : EvN G te T r xs) (q : Goes G (T.set i (.ow owML ⟨xs⟩)) D.nx) : Goes G T (tAsg te (gName i) D) := fun B H σ f =>
  h B H σ f _ fun p vs B1 H1 x1 n1 n2 e z => q B1 H1 _ (f.set_ow i owML (F := fun q => q = p) x1.s x1.b (fun q hq => by rw [hq]; exact n1) (fun q hq => ⟨by
    cases hH : H q with
    | none => exact absurd hH hq
    | some o => exact x1.h q o hH, x1.n q hq⟩) ⟨p, vs, rfl, rfl, n2, e, z⟩)
/-- an owned list let stand -/
theorem g_freeze {i : Nat} {a : ML α} (h : T[i]? = some (.ow (@owML α r) a)) (q : Goes G (T.set i (.im (@rpList α r) a.l)) k) : Goes G T k := fun B H σ f =>
  let ⟨B', f'⟩ := f.freeze h
  q B' H σ f'
/-- a slot forgotten -/
theorem g_any (i : Nat) (q : Goes G (T.set i .any) k) : Goes G T k := fun B H σ f => q B H σ (by
  obtain ⟨own, o0, sl⟩ := f.sl
  refine ⟨f.bh, f.b0, f.h0, f.n0, by rw [List.length_set]; exact f.len, own, o0, fun j t e => ?_⟩
  by_cases hi : i = j
  · subst hi
    have hj : i < T.length := by
      have z := (List.getElem?_eq_some_iff.mp e).1
      rw [List.length_set] at z
      exact z
    rw [List.getElem?_set_self hj] at e
    cases e
    obtain ⟨s, e1, _⟩ := sl i _ (List.getElem?_eq_getElem hj)
    exact ⟨s, e1, trivial⟩
  · rw [List.getElem?_set_ne hi] at e
    exact sl j t e)
/-! lists changed in place -/
theorem setA {H : Hp} {p : Addr} {o u : HO} (h : H p = some u) {q : Addr} (hq : q ≠ p) : upd H p o q = H q := upd_ne hq
theorem Fr.mutL {B H : Hp} {σ : L2.St} (f : Fr G B H σ T) {j : Nat} {a : ML α} (hj : T[j]? = some (.ow (@owML α r) a)) :
    ∃ p vs, σ[j]? = some (some (.ref p)) ∧ H p = some (.lst vs) ∧ Paired (r.rp G.K B) a.l vs ∧ ∀ (B' H' : Hp) (ws : List V) (ys : List α), Ext B H B' H' → Paired (r.rp G.K B') ys ws → Fr G B' (upd H' p (.lst ws)) σ (T.set j (.ow (@owML α r) ⟨ys⟩)) := by
  obtain ⟨v, F, e1, ⟨p, vs, rfl, hp, n, e, z⟩, k⟩ := f.mut hj
  refine ⟨p, vs, e1, e, z, fun B' H' ws ys x h => ?_⟩
  have nB := x.none e n
  refine k (ML α) owML ⟨ys⟩ B' (upd H' p (.lst ws)) (fun q o hq => ?_) x.b x.n (fun q hq hF => ?_) ⟨p, ws, rfl, hp, nB, upd_same, h⟩
  · rw [upd_ne (ne_of_none hq nB)]
    exact x.s q o hq
  · rw [upd_ne fun z => hF (by rw [z]; exact hp)]
    cases hH : H q with
    | none => exact absurd hH hq
    | some o => exact x.h q o hH
theorem g_app {i : Nat} {a : ML α} {y : α} (hi : T[i]? = some (.ow (@owML α r) a)) (h : EvD G te T r y) (hz : a.l.length < 100000) (q : Goes G (T.set i (.ow (@owML α r) ⟨a.l ++ [y]⟩)) D.nx) :
    Goes G T (tDrop (tBM G.K "list" rAppend (tVar i) (tCons te tNil)) D) := fun B H σ f => by
  obtain ⟨p, vs, e1, e2, z, k⟩ := f.mutL hi
  refine ⟨_, e1, .inl ⟨rfl, vs, .inl (.inl e2)⟩, h B H σ f _ fun v B1 H1 x1 h1 => ⟨p, vs, v, rfl, rfl, x1.h _ _ e2, by rw [← Paired.length z]; exact sz_lt hz, ?_⟩⟩
  exact q B1 _ σ (k B1 H1 (vs ++ [v]) (a.l ++ [y]) x1 (paired_append (paired_mono x1.b z) (.cons h1 .nil)))
theorem g_setL {i j : Nat} {a : ML α} {y : α} {m : Int} (hi : T[i]? = some (.ow (@owML α r) a)) (h : EvD G te T r y) (hm : EvD G tb T rpInt m) (hj : ixN a.l.length m = some j) (q : Goes G (T.set i (.ow (@owML α r) ⟨a.l.set j y⟩)) D.nx) :
    Goes G T (tAsg te (gSub (tVar i) tb rSetL) D) := fun B H σ f => by
  obtain ⟨p, vs, e1, e2, z, k⟩ := f.mutL hi
  refine h B H σ f _ fun v B1 H1 x1 h1 => ⟨_, e1, hm B1 H1 σ (f.ext x1) _ fun u B2 H2 x2 h2 => ⟨p, vs, m, j, rfl, h2, x2.h _ _ (x1.h _ _ e2), by rw [← Paired.length z]; exact hj, ?_⟩⟩
  exact q B2 _ σ (k B2 H2 (vs.set j v) (a.l.set j y) (x1.trans x2) (paired_set (r.mono x2.b h1) j (paired_mono (x1.trans x2).b z)))
/-- extend by a new list -/
theorem g_ext {i : Nat} {a : ML α} {ys : List α} (hi : T[i]? = some (.ow (@owML α r) a)) (h : EvN G te T r ys) (hz : a.l.length + ys.length ≤ 100000) (q : Goes G (T.set i (.ow (@owML α r) ⟨a.l ++ ys⟩)) D.nx) :
    Goes G T (tDrop (tBM G.K "list" rExtend (tVar i) (tCons te tNil)) D) := fun B H σ f => by
  obtain ⟨p, vs, e1, e2, z, k⟩ := f.mutL hi
  refine ⟨_, e1, .inl ⟨rfl, vs, .inl (.inl e2)⟩, h B H σ f _ fun b ws B1 H1 x1 n1 n2 e w => ⟨p, b, vs, ws, rfl, rfl, x1.h _ _ e2, e, by rw [← Paired.length z, ← Paired.length w]; exact sz_of hz, ?_⟩⟩
  exact q B1 _ σ (k B1 H1 (vs ++ ws) (a.l ++ ys) x1 (paired_append (paired_mono x1.b z) w))
theorem paired_erase {F : α → β → Prop} : ∀ {xs : List α} {ys : List β} (i : Nat), Paired F xs ys → Paired F (xs.eraseIdx i) (ys.eraseIdx i)
  | _, _, _, .nil => .nil
  | _, _, 0, .cons _ t => t
  | _, _, i + 1, .cons q t => .cons q (paired_erase i t)
theorem ixN_lt {n j : Nat} {m : Int} (h : ixN n m = some j) : seqIndex? m n = some j ∧ j < n ∧ -(n : Int) ≤ m ∧ m < n := ixN_seq h
/-- x = xs.pop(m) -/
theorem g_popAt {i l j : Nat} {a : ML α} {y : α} {m : Int} (hi : T[i]? = some (.ow (@owML α r) a)) (hm : EvD G tb T rpInt m) (hj : ixN a.l.length m = some j) (hz : a.l.length ≤ 100000) (hy : a.l[j]? = some y)
    (q : Goes G ((T.set i (.ow (@owML α r) ⟨a.l.eraseIdx j⟩)).set l (.im r y)) D.nx) : Goes G T (tAsg (tBM G.K "list" rPopAt (tVar i) (tCons tb tNil)) (gName l) D) := fun B H σ f => by
  obtain ⟨p, vs, e1, e2, z, k⟩ := f.mutL hi
  obtain ⟨s1, s2, s3, s4⟩ := ixN_lt hj
  refine ⟨_, e1, .inl ⟨rfl, vs, .inl (.inl e2)⟩, hm B H σ f _ fun u B1 H1 x1 h1 => ?_⟩
  obtain ⟨v, hv, rv⟩ := paired_get (paired_mono (K := G.K) (r := r) x1.b z) hy
  refine ⟨p, vs, m, j, v, rfl, by rw [show u = V.int m from h1], x1.h _ _ e2, by omega, by omega, by rw [← Paired.length z]; exact s1, hv, ?_⟩
  exact q B1 _ _ ((k B1 H1 (vs.eraseIdx j) (a.l.eraseIdx j) x1 (paired_erase j (paired_mono x1.b z))).set_im l r rv)
/-- xs.clear() -/
theorem g_clear {i : Nat} {a : ML α} (hi : T[i]? = some (.ow (@owML α r) a)) (q : Goes G (T.set i (.ow (@owML α r) ⟨[]⟩)) D.nx) : Goes G T (tDrop (tBM0 G.K "list" rClear (tVar i)) D) := fun B H σ f => by
  obtain ⟨p, vs, e1, e2, z, k⟩ := f.mutL hi
  exact ⟨_, e1, .inl ⟨rfl, vs, .inl (.inl e2)⟩, p, vs, rfl, rfl, e2, q B _ σ (k B H [] [] (Ext.refl f.bh) .nil)⟩
/-! what a for walks -/
structure ItOk (K : PySem.W.Frag) (B1 : Hp) {α : Type} (r : Rp α) (J : It) (xs : List α) : Prop where
  go : ∀ B H i x, Same B1 B → Same B H → xs[i]? = some x → J.go i H
  stop : ∀ B H, Same B1 B → Same B H → J.stop xs.length H
  yld : ∀ B H i x v H', Same B1 B → Same B H → xs[i]? = some x → J.yld i H v H' → ∃ B', Ext B H B' H' ∧ r.rp K B' x v
def EvI (G : Cn) (wi : TI) (T : List Ty) {α : Type} (r : Rp α) (xs : List α) : Prop := ∀ B H σ, Fr G B H σ T → ∀ R : It → Hp → Prop, (∀ J B' H', Ext B H B' H' → ItOk G.K B' r J xs → R J H') → wi σ H R
theorem ei_list {xs : List α} (h : EvD G te T (@rpList α r) xs) : EvI G (iList G.K te) T r xs := fun B H σ f R q => h B H σ f _ fun v B1 H1 x1 e1 => by
  obtain ⟨p, vs, rfl, hp, z⟩ := e1
  have sq : ∀ B H, Same B1 B → Same B H → SqL G.K H p vs := fun B H a b => .inl (.inl (b _ _ (a _ _ hp)))
  refine ⟨p, rfl, ⟨vs, .inl (.inl (x1.s _ _ hp))⟩, q _ B1 H1 x1 ⟨fun B H i x a b e => ?_, fun B H a b => ⟨vs, sq B H a b, by rw [Paired.length z]; exact Nat.le_refl _⟩, fun B H i x v H' a b e y => ?_⟩⟩
  · obtain ⟨y, h1, _⟩ := paired_get z e
    exact ⟨vs, y, sq B H a b, h1⟩
  · obtain ⟨rfl, y⟩ := y
    obtain ⟨w, h1, h2⟩ := paired_get z e
    have e2 := Option.some.inj ((y vs (sq B _ a b)).symm.trans h1)
    subst e2
    exact ⟨B, Ext.refl b, r.mono a h2⟩
theorem ei_scr {s : Scr} (h : EvD G te T rpScr s) : EvI G (iList G.K te) T rpInt s.cells := fun B H σ f R q => h B H σ f _ fun v B1 H1 x1 e1 => by
  obtain ⟨p, rfl, hp⟩ := e1
  have sq : ∀ B H, Same B1 B → Same B H → SqL G.K H p (s.cells.map V.int) := fun B H a b => Same.seq b (Same.seq a hp)
  refine ⟨p, rfl, ⟨_, Same.seq x1.s hp⟩, q _ B1 H1 x1 ⟨fun B H i x a b e => ⟨_, .int x, sq B H a b, by rw [List.getElem?_map, e] <;> rfl⟩, fun B H a b => ⟨_, sq B H a b, by rw [List.length_map]; exact Nat.le_refl _⟩, fun B H i x v H' a b e y => ?_⟩⟩
  obtain ⟨rfl, y⟩ := y
  have h1 := y _ (sq B _ a b)
  rw [List.getElem?_map, e] at h1
  exact ⟨B, Ext.refl b, (Option.some.inj h1).symm⟩
/-- lo, lo + 1, .. -/
def rng (lo : Int) (n : Nat) : List Int := (List.range n).map fun (i : Nat) => lo + (i : Int)
theorem rng_len {lo : Int} {n : Nat} : (rng lo n).length = n := by unfold rng; rw [List.length_map, List.length_range]
theorem rng_get {lo : Int} {n i : Nat} {x : Int} (h : (rng lo n)[i]? = some x) : i < n ∧ x = lo + i := by
  unfold rng at h
  rw [List.getElem?_map] at h
  cases e : (List.range n)[i]? with
  | none => rw [e] at h; cases h
  | some j =>
    rw [e] at h
    obtain ⟨h1, h2⟩ := List.getElem?_eq_some_iff.mp e
    rw [List.length_range] at h1
    rw [List.getElem_range] at h2
    exact ⟨h1, by rw [h2]; exact (Option.some.inj h).symm⟩
theorem itr_ok {K : PySem.W.Frag} {B1 : Hp} {lo : Int} {n : Nat} : ItOk K B1 rpInt (Itr lo n) (rng lo n) := ⟨fun B H i x _ _ e => (rng_get e).1, fun B H _ _ => Nat.le_of_eq rng_len.symm, fun B H i x v H' _ b e y => by
  obtain ⟨rfl, y⟩ := y
  exact ⟨B, Ext.refl b, by rw [(rng_get e).2]; exact y⟩⟩
theorem ei_rng1 {n : Int} (h : EvD G te T rpInt n) (hn : n ≤ 100000) (h0 : -100000 ≤ n) : EvI G (iRng1 (tCons te tNil)) T rpInt (rng 0 n.toNat) := fun B H σ f R q => h B H σ f _ fun v B1 H1 x1 e1 =>
  ⟨n, by rw [show v = V.int n from e1], by omega, by omega, q _ B1 H1 x1 itr_ok⟩
theorem ei_rng2 {m n : Int} (h : EvD G ta T rpInt m) (h' : EvD G tb T rpInt n) (hm : -100000 ≤ m ∧ m ≤ 100000 ∧ -100000 ≤ n ∧ n ≤ 100000) : EvI G (iRng2 (tCons ta (tCons tb tNil))) T rpInt (rng m (n - m).toNat) := fun B H σ f R q =>
  h B H σ f _ fun v B1 H1 x1 e1 => h' B1 H1 σ (f.ext x1) _ fun u B2 H2 x2 e2 => ⟨m, n, by rw [show v = V.int m from e1, show u = V.int n from e2], by omega, q _ B2 H2 (x1.trans x2) itr_ok⟩
def rngC (lo c : Int) (n : Nat) : List Int := (List.range n).map fun (i : Nat) => lo + (i : Int) * c
theorem rngC_len {lo c : Int} {n : Nat} : (rngC lo c n).length = n := by unfold rngC; rw [List.length_map, List.length_range]
theorem rngC_get {lo c : Int} {n i : Nat} {x : Int} (h : (rngC lo c n)[i]? = some x) : i < n ∧ x = lo + i * c := by
  unfold rngC at h
  rw [List.getElem?_map] at h
  cases e : (List.range n)[i]? with
  | none => rw [e] at h; cases h
  | some j =>
    rw [e] at h
    obtain ⟨h1, h2⟩ := List.getElem?_eq_some_iff.mp e
    rw [List.length_range] at h1
    rw [List.getElem_range] at h2
    exact ⟨h1, by rw [h2]; exact (Option.some.inj h).symm⟩
theorem itc_ok {K : PySem.W.Frag} {B1 : Hp} {lo c : Int} {n : Nat} : ItOk K B1 rpInt (Itc lo c n) (rngC lo c n) := ⟨fun B H i x _ _ e => (rngC_get e).1, fun B H _ _ => Nat.le_of_eq rngC_len.symm, fun B H i x v H' _ b e y => by
  obtain ⟨rfl, y⟩ := y
  exact ⟨B, Ext.refl b, by rw [(rngC_get e).2]; exact y⟩⟩
theorem ei_rng3 {m n s : Int} {k : Nat} (h : EvD G ta T rpInt m) (h' : EvD G tb T rpInt n) (h'' : EvD G tc T rpInt s) (hr : RgC m n s k) : EvI G (iRng3 (tCons ta (tCons tb (tCons tc tNil)))) T rpInt (rngC m s k) := fun B H σ f R q =>
  h B H σ f _ fun v B1 H1 x1 e1 => h' B1 H1 σ (f.ext x1) _ fun u B2 H2 x2 e2 => h'' B2 H2 σ ((f.ext x1).ext x2) _ fun w B3 H3 x3 e3 =>
    ⟨m, n, s, k, by rw [show v = V.int m from e1, show u = V.int n from e2, show w = V.int s from e3], hr, q _ B3 H3 ((x1.trans x2).trans x3) itc_ok⟩
/-- (0, x), (1, y), .. -/
def enumI (xs : List α) : List (Int × α) := xs.zipIdx.map fun p => ((p.2 : Int), p.1)
theorem enumI_len {xs : List α} : (enumI xs).length = xs.length := by unfold enumI; rw [List.length_map, List.length_zipIdx]
theorem enumI_get {xs : List α} {i : Nat} {p : Int × α} (h : (enumI xs)[i]? = some p) : xs[i]? = some p.2 ∧ p.1 = i := by
  unfold enumI at h
  rw [List.getElem?_map, List.getElem?_zipIdx] at h
  cases e : xs[i]? with
  | none => rw [e] at h; cases h
  | some j =>
    rw [e] at h
    have z := Option.some.inj h
    rw [← z]
    exact ⟨rfl, by show ((0 + i : Nat) : Int) = i; rw [Nat.zero_add]⟩
theorem ei_enum {xs : List α} (h : EvD G te T (@rpList α r) xs) : EvI G (iEnum G.K (tCons te tNil)) T (@rpPair Int α rpInt r) (enumI xs) := fun B H σ f R q => h B H σ f _ fun v B1 H1 x1 e1 => by
  obtain ⟨p, vs, rfl, hp, z⟩ := e1
  have sq : ∀ B H, Same B1 B → Same B H → SqL G.K H p vs := fun B H a b => .inl (.inl (b _ _ (a _ _ hp)))
  refine ⟨p, vs, rfl, .inl (.inl (x1.s _ _ hp)), q _ B1 H1 x1 ⟨fun B H i x a b e => ?_, fun B H a b => ⟨vs, sq B H a b, by rw [enumI_len, Paired.length z]; exact Nat.le_refl _⟩, fun B H i x v H' a b e y => ?_⟩⟩
  · obtain ⟨y, h1, _⟩ := paired_get z (enumI_get e).1
    exact ⟨vs, y, sq B H a b, h1⟩
  · obtain ⟨t, u, rfl, nt, rfl, y⟩ := y
    obtain ⟨w, h1, h2⟩ := paired_get z (enumI_get e).1
    have e2 := Option.some.inj ((y vs (sq B _ a b)).symm.trans h1)
    subst e2
    have x3 := upd_ext (o := .tup [.int (i : Nat), u]) b nt
    exact ⟨_, x3, t, _, u, rfl, upd_same, by rw [(enumI_get e).2]; rfl, r.mono (a.trans x3.b) h2⟩
/-! for, while -/
theorem g_for {wi : TI} {g : TG} {xs : List α} (I : Nat → List Ty → Prop) (hi : EvI G wi T r xs) (h0 : I 0 T)
    (hs : ∀ B1, Up G B1 → ∀ i x T', xs[i]? = some x → I i T' → ∃ T2, EvG (G.at B1) g T' r x T2 ∧ Goes (G.at B1) T2 (tz { D with nx := At (G.at B1) (I (i + 1)), ct := At (G.at B1) (I (i + 1)), bk := D.nx }))
    (hd : ∀ T', I xs.length T' → Goes G T' D.nx) : Goes G T (tFor wi g tz D) := fun B H σ f => hi B H σ f _ fun J B1 H1 x1 ok => by
  have f1 := f.ext x1
  have u := f1.up
  refine ⟨fun i m σ H => m = xs.length - i ∧ i ≤ xs.length ∧ ∃ T' B, I i T' ∧ Fr (G.at B1) B H σ T', ⟨xs.length, rfl, Nat.zero_le _, T, B1, h0, f1.lift u (Same.refl _)⟩, ?_⟩
  rintro i m σ' H' ⟨rfl, hle, T', B', hI, f'⟩
  by_cases hlt : i < xs.length
  · have ex : xs[i]? = some xs[i] := List.getElem?_eq_getElem hlt
    obtain ⟨T2, hg, hb⟩ := hs B1 u i _ T' ex hI
    refine .inr ⟨ok.go B' H' i _ f'.b0 f'.bh ex, At (G.at B1) (I (i + 1)), fun σ2 H2 ⟨T3, B3, h3, f3⟩ => ⟨xs.length - (i + 1), by omega, rfl, hlt, T3, B3, h3, f3⟩, fun v H2 y => ?_⟩
    obtain ⟨B2, x2, rv⟩ := ok.yld B' H' i _ v H2 f'.b0 f'.bh ex y
    exact hg B2 H2 σ' v (f'.ext x2) rv _ fun σ3 f3 => hb B2 H2 σ3 f3
  · have e : i = xs.length := by omega
    subst e
    exact .inl ⟨ok.stop B' H' f'.b0 f'.bh, hd T' hI B' H' σ' (f'.root u)⟩
theorem g_while (I : Nat → List Ty → Prop) (m0 : Nat) (h0 : I m0 T)
    (hs : ∀ m T', I m T' → ∃ b, EvT G c T' b ∧ (b = true → Goes G T' (tz { D with nx := At G fun T2 => ∃ m', m' < m ∧ I m' T2, ct := At G fun T2 => ∃ m', m' < m ∧ I m' T2, bk := D.nx })) ∧ (b = false → Goes G T' D.nx)) : Goes G T (tWhile c tz D) := fun B H σ f => by
  refine ⟨fun m σ H => ∃ T' B, I m T' ∧ Fr G B H σ T', ⟨m0, T, B, h0, f⟩, ?_⟩
  rintro m σ' H' ⟨T', B', hI, f'⟩
  obtain ⟨b, ht, h1, h2⟩ := hs m T' hI
  refine ht B' H' σ' f' _ fun B1 H1 x1 => ?_
  cases b with
  | true => exact iteT ⟨_, fun σ2 H2 ⟨T2, B2, ⟨m', l, h3⟩, f2⟩ => ⟨m', l, T2, B2, h3, f2⟩, h1 rfl B1 H1 σ' (f'.ext x1)⟩
  | false => exact iteF (h2 rfl B1 H1 σ' (f'.ext x1))
/-! the same, something behind -/
theorem q_asg {i : Nat} {a : α} (h : EvD G te T r a) (q : Goes G (T.set i (.im r a)) (tu D)) : Goes G T (tSeq (tAsg te (gName i)) tu D) := g_asg (D := { D with nx := tu D }) h q
theorem q_asgT {g : TG} {a : α} {T' : List Ty} (h : EvD G te T r a) (hg : EvG G g T r a T') (q : Goes G T' (tu D)) : Goes G T (tSeq (tAsg te g) tu D) := g_asgT (D := { D with nx := tu D }) h hg q
theorem q_asgN {i : Nat} {xs : List α} (h : EvN G te T r xs) (q : Goes G (T.set i (.ow owML ⟨xs⟩)) (tu D)) : Goes G T (tSeq (tAsg te (gName i)) tu D) := g_asgN (D := { D with nx := tu D }) h q
theorem q_drop {a : α} (h : EvD G te T r a) (q : Goes G T (tu D)) : Goes G T (tSeq (tDrop te) tu D) := g_drop (D := { D with nx := tu D }) h q
theorem q_app {i : Nat} {a : ML α} {y : α} (hi : T[i]? = some (.ow (@owML α r) a)) (h : EvD G te T r y) (hz : a.l.length < 100000) (q : Goes G (T.set i (.ow (@owML α r) ⟨a.l ++ [y]⟩)) (tu D)) : Goes G T (tSeq (tDrop (tBM G.K "list" rAppend (tVar i) (tCons te tNil))) tu D) := g_app (D := { D with nx := tu D }) hi h hz q
theorem q_setL {i j : Nat} {a : ML α} {y : α} {m : Int} (hi : T[i]? = some (.ow (@owML α r) a)) (h : EvD G te T r y) (hm : EvD G tb T rpInt m) (hj : ixN a.l.length m = some j) (q : Goes G (T.set i (.ow (@owML α r) ⟨a.l.set j y⟩)) (tu D)) : Goes G T (tSeq (tAsg te (gSub (tVar i) tb rSetL)) tu D) := g_setL (D := { D with nx := tu D }) hi h hm hj q
theorem q_ext {i : Nat} {a : ML α} {ys : List α} (hi : T[i]? = some (.ow (@owML α r) a)) (h : EvN G te T r ys) (hz : a.l.length + ys.length ≤ 100000) (q : Goes G (T.set i (.ow (@owML α r) ⟨a.l ++ ys⟩)) (tu D)) : Goes G T (tSeq (tDrop (tBM G.K "list" rExtend (tVar i) (tCons te tNil))) tu D) := g_ext (D := { D with nx := tu D }) hi h hz q
theorem q_popAt {i l j : Nat} {a : ML α} {y : α} {m : Int} (hi : T[i]? = some (.ow (@owML α r) a)) (hm : EvD G tb T rpInt m) (hj : ixN a.l.length m = some j) (hz : a.l.length ≤ 100000) (hy : a.l[j]? = some y) (q : Goes G ((T.set i (.ow (@owML α r) ⟨a.l.eraseIdx j⟩)).set l (.im r y)) (tu D)) : Goes G T (tSeq (tAsg (tBM G.K "list" rPopAt (tVar i) (tCons tb tNil)) (gName l)) tu D) := g_popAt (D := { D with nx := tu D }) hi hm hj hz hy q
theorem q_if {b : Bool} (h : EvT G c T b) (h1 : b = true → Goes G T (tz { D with nx := tu D })) (h2 : b = false → Goes G T (tw { D with nx := tu D })) : Goes G T (tSeq (tIfS c tz tw) tu D) := g_if (D := { D with nx := tu D }) h h1 h2
theorem q_when {b : Bool} (h : EvT G c T b) (h1 : b = true → Goes G T (tz { D with nx := tu D })) (h2 : b = false → Goes G T (tu D)) : Goes G T (tSeq (tIfS c tz tNext) tu D) := g_if (D := { D with nx := tu D }) h h1 h2
theorem g_when {b : Bool} (h : EvT G c T b) (h1 : b = true → Goes G T (tz D)) (h2 : b = false → Goes G T D.nx) : Goes G T (tIfS c tz tNext D) := g_if h h1 h2
theorem q_for {wi : TI} {g : TG} {xs : List α} (I : Nat → List Ty → Prop) (hi : EvI G wi T r xs) (h0 : I 0 T)
    (hs : ∀ B1, Up G B1 → ∀ i x T', xs[i]? = some x → I i T' → ∃ T2, EvG (G.at B1) g T' r x T2 ∧ Goes (G.at B1) T2 (tz { D with nx := At (G.at B1) (I (i + 1)), ct := At (G.at B1) (I (i + 1)), bk := tu D }))
    (hd : ∀ T', I xs.length T' → Goes G T' (tu D)) : Goes G T (tSeq (tFor wi g tz) tu D) := g_for (D := { D with nx := tu D }) I hi h0 hs hd
theorem q_while (I : Nat → List Ty → Prop) (m0 : Nat) (h0 : I m0 T)
    (hs : ∀ m T', I m T' → ∃ b, EvT G c T' b ∧ (b = true → Goes G T' (tz { D with nx := At G fun T2 => ∃ m', m' < m ∧ I m' T2, ct := At G fun T2 => ∃ m', m' < m ∧ I m' T2, bk := tu D })) ∧ (b = false → Goes G T' (tu D))) : Goes G T (tSeq (tWhile c tz) tu D) := g_while (D := { D with nx := tu D }) I m0 h0 hs
/-! comprehensions -/
def wipeT (T : List Ty) : List Nat → List Ty
  | [] => T
  | v :: vs => (wipeT T vs).set v .un
theorem Fr.wipe {B H : Hp} {σ : L2.St} (f : Fr G B H σ T) : ∀ vs : List Nat, Fr G B H (L2.wipe σ vs) (wipeT T vs)
  | [] => f
  | v :: vs => by
    have f' := Fr.wipe f vs
    obtain ⟨own, o0, sl⟩ := f'.sl
    refine ⟨f.bh, f.b0, f.h0, f.n0, by show ((L2.wipe σ vs).set v none).length = ((wipeT T vs).set v .un).length; rw [List.length_set, List.length_set]; exact f'.len, own, o0, fun j t e => ?_⟩
    replace e : ((wipeT T vs).set v .un)[j]? = some t := e
    by_cases hi : v = j
    · subst hi
      have hj : v < (wipeT T vs).length := by
        have z := (List.getElem?_eq_some_iff.mp e).1
        rw [List.length_set] at z
        exact z
      rw [List.getElem?_set_self hj] at e
      cases e
      exact ⟨none, List.getElem?_set_self (by rw [f'.len]; exact hj), rfl⟩
    · rw [List.getElem?_set_ne hi] at e
      obtain ⟨s, e1, q⟩ := sl j t e
      exact ⟨s, by show ((L2.wipe σ vs).set v none)[j]? = some s; rw [List.getElem?_set_ne hi]; exact e1, q⟩
theorem wipe_set {σ : L2.St} {x : Option V} : ∀ {vs : List Nat} {j : Nat}, j ∈ vs → L2.wipe (σ.set j x) vs = L2.wipe σ vs
  | [], _, h => by cases h
  | v :: vs, j, h => by
    show (L2.wipe (σ.set j x) vs).set v none = (L2.wipe σ vs).set v none
    by_cases hv : j ∈ vs
    · rw [wipe_set hv]
    · have e : j = v := by
        rcases List.mem_cons.mp h with e | e
        · exact e
        · exact absurd e hv
      subst e
      have aux : ∀ (vs : List Nat), (L2.wipe (σ.set j x) vs).set j none = (L2.wipe σ vs).set j none := by
        intro vs
        induction vs with
        | nil => show ((σ.set j x).set j none) = σ.set j none; rw [List.set_set]
        | cons w vs ih =>
          show (((L2.wipe (σ.set j x) vs).set w none).set j none) = (((L2.wipe σ vs).set w none).set j none)
          by_cases hw : w = j
          · subst hw; rw [ih]
          · rw [List.set_comm _ _ hw, ih, List.set_comm _ _ (Ne.symm hw)]
      exact aux vs
theorem wipe_wipe {σ : L2.St} {vs : List Nat} : L2.wipe (L2.wipe σ vs) vs = L2.wipe σ vs := by
  have aux : ∀ (us ws : List Nat), (∀ u ∈ us, u ∈ ws) → L2.wipe (L2.wipe σ us) ws = L2.wipe σ ws := by
    intro us
    induction us with
    | nil => intro ws _; rfl
    | cons u us ih =>
      intro ws h
      show L2.wipe ((L2.wipe σ us).set u none) ws = L2.wipe σ ws
      rw [wipe_set (h u List.mem_cons_self)]
      exact ih ws fun w hw => h w (List.mem_cons_of_mem _ hw)
  exact aux vs vs fun _ h => h
/-- a target that stores its block's own names alone -/
def Own (g : TG) (vs : List Nat) : Prop := ∀ v σ H (Q Q' : L2.St → Hp → Prop), (∀ σ', L2.wipe σ' vs = L2.wipe σ vs → Q σ' H → Q' σ' H) → g v σ H Q → g v σ H Q'
theorem own_name {j : Nat} {vs : List Nat} (h : j ∈ vs) : Own (gName j) vs := fun v σ H Q Q' k q => k _ (wipe_set h) q
theorem own_pair {K : PySem.W.Frag} {i j : Nat} {vs : List Nat} (hi : i ∈ vs) (hj : j ∈ vs) : Own (gTup K 2 (gCons (gName i) (gCons (gName j) gNil))) vs := fun v σ H Q Q' k q => by
  obtain ⟨a, xs, e1, e2, e3, x, l, e4, y, l', e5, e6, q⟩ := q
  exact ⟨a, xs, e1, e2, e3, x, l, e4, y, l', e5, e6, k _ (by rw [wipe_set hj, wipe_set hi]) q⟩
/-- [e for .. in .. if ..]: p tells which turns give, f what -/
theorem ev_lc {δ : Type} [r2 : Rp δ] {wi : TI} {g : TG} {tt : TT} {vs : List Nat} {xs : List α} (p : α → Bool) (f : α → δ) (hi : EvI G wi T r xs) (ho : Own g vs)
    (hs : ∀ x, x ∈ xs → ∃ T2, EvG G g (wipeT T vs) r x T2 ∧ EvT G tt T2 (p x) ∧ (p x = true → EvD G te T2 r2 (f x))) (hz : xs.length ≤ 90000) : EvN G (tLc wi g tt te vs) T r2 ((xs.filter p).map f) := fun B H σ fr Q q => hi B H σ fr _ fun J B1 H1 x1 ok => by
  refine fun Dl hD => ?_
  have nD : H Dl = none := x1.h.free hD
  have nB : B1 Dl = none := x1.s.free hD
  have x1' : Ext B H B1 (upd H1 Dl (.lst [])) := x1.trans (upd_extN x1.s hD)
  refine ⟨fun i m H' => m = xs.length - i ∧ i ≤ xs.length ∧ ∃ B' ws, Ext B H B' H' ∧ Same B1 B' ∧ B' Dl = none ∧ H' Dl = some (.lst ws) ∧ Paired (r2.rp G.K B') (((xs.take i).filter p).map f) ws,
    ⟨xs.length, rfl, Nat.zero_le _, B1, [], x1', Same.refl _, nB, upd_same, by rw [List.take_zero]; exact .nil⟩, ?_⟩
  rintro i m H' ⟨rfl, hle, B', ws, x', s1, nB', hDl, pw⟩
  by_cases hlt : i < xs.length
  · have ex : xs[i]? = some xs[i] := List.getElem?_eq_getElem hlt
    obtain ⟨T2, hg, ht, he⟩ := hs xs[i] (List.getElem_mem hlt)
    have etk : xs.take (i + 1) = xs.take i ++ [xs[i]] := by rw [List.take_add_one, ex] <;> rfl
    refine .inr ⟨ok.go B' H' i _ s1 x'.s ex, fun H3 => ∃ B3 ws3, Ext B H B3 H3 ∧ Same B1 B3 ∧ B3 Dl = none ∧ H3 Dl = some (.lst ws3) ∧ Paired (r2.rp G.K B3) (((xs.take (i + 1)).filter p).map f) ws3, fun H3 h3 => ⟨xs.length - (i + 1), by omega, rfl, hlt, h3⟩, fun v H2 y => ?_⟩
    obtain ⟨B2, x2, rv⟩ := ok.yld B' H' i _ v H2 s1 x'.s ex y
    have fr2 : Fr G B2 H2 (L2.wipe σ vs) (wipeT T vs) := ((fr.ext x').ext x2).wipe vs
    refine ho v _ H2 (fun σ2 H4 => H4 = H2 ∧ Fr G B2 H2 σ2 T2) _ (fun σ2 hw hq => ?_) (hg B2 H2 _ v fr2 rv _ fun σ2 f2 => ⟨rfl, f2⟩)
    obtain ⟨_, f2⟩ := hq
    refine ⟨by rw [hw, wipe_wipe], ht B2 H2 σ2 f2 _ fun B5 H5 x5 => ?_⟩
    have hD5 : H5 Dl = some (.lst ws) := x5.h _ _ (x2.h _ _ hDl)
    have x25 := x2.trans x5
    have nB5 : B5 Dl = none := x25.none hDl nB'
    cases hp : p xs[i] with
    | true =>
      refine iteT (he hp B5 H5 σ2 (f2.ext x5) _ fun w B6 H6 x6 rw6 => ?_)
      have x26 := x25.trans x6
      have nB6 : B6 Dl = none := x26.none hDl nB'
      have hl : ws.length < 100000 := by
        rw [← Paired.length pw, List.length_map]
        have h1 := List.length_filter_le p (xs.take i)
        have h2 := List.length_take_le i xs
        omega
      refine ⟨ws, x6.h _ _ hD5, sz_lt hl, B6, ws ++ [w], ⟨(x'.trans x26).b, fun b o e => ?_, fun b o e => ?_, (x'.trans x26).n⟩, s1.trans x26.b, nB6, upd_same, ?_⟩
      · rw [upd_ne (ne_of_none e nD)]; exact (x'.trans x26).h b o e
      · rw [upd_ne (ne_of_none e nB6)]; exact x26.s b o e
      · rw [etk, List.filter_append, List.map_append]
        refine paired_append (paired_mono x26.b pw) ?_
        rw [show [xs[i]].filter p = [xs[i]] by rw [List.filter_cons, if_pos hp] <;> rfl]
        exact .cons rw6 .nil
    | false =>
      refine iteF ⟨B5, ws, x'.trans x25, s1.trans x25.b, nB5, hD5, ?_⟩
      rw [etk, List.filter_append, List.map_append, show [xs[i]].filter p = [] by rw [List.filter_cons, if_neg (by rw [hp]; decide)] <;> rfl]
      show Paired _ (_ ++ []) _
      rw [List.append_nil]
      exact paired_mono x25.b pw
  · have e : i = xs.length := by omega
    subst e
    rw [List.take_length] at pw
    exact .inl ⟨ok.stop B' H' s1 x'.s, q Dl ws B' H' x' nD nB' hDl pw⟩
theorem et_yes : EvT G tYes T true := fun B H σ f Q q => q B H (Ext.refl f.bh)
theorem ev_lcA {δ : Type} [r2 : Rp δ] {wi : TI} {g : TG} {vs : List Nat} {xs : List α} (f : α → δ) (hi : EvI G wi T r xs) (ho : Own g vs)
    (hs : ∀ x, x ∈ xs → ∃ T2, EvG G g (wipeT T vs) r x T2 ∧ EvD G te T2 r2 (f x)) (hz : xs.length ≤ 90000) : EvN G (tLc wi g tYes te vs) T r2 (xs.map f) := by
  have h := ev_lc (G := G) (T := T) (te := te) (fun _ => true) f hi ho (fun x hx => let ⟨T2, a, b⟩ := hs x hx; ⟨T2, a, et_yes, fun _ => b⟩) hz
  have e : xs.filter (fun _ => true) = xs := List.filter_eq_self.mpr fun _ _ => rfl
  rw [e] at h
  exact h
/-! calls -/
/-- a def that gives f x, or raises: arguments As x -/
def SpX (K : PySem.W.Frag) {ι β : Type} (As : ι → List Ty) (pre : ι → Prop) (r : Rp β) (f : ι → Except Addr β) : Sp := fun vs H Q E => ∃ (B : Hp) (x : ι), Same B H ∧ pre x ∧ ArgsOk K B vs (As x) ∧
  (∀ b, f x = .ok b → ∀ v B' H', Ext B H B' H' → r.rp K B' b v → Q v H') ∧ (∀ C, f x = .error C → ∀ H', Same H H' → E (.ref C) none H')
/-- .. that gives a new list -/
def SpN (K : PySem.W.Frag) {ι β : Type} (As : ι → List Ty) (pre : ι → Prop) (r : Rp β) (f : ι → Except Addr (List β)) : Sp := fun vs H Q E => ∃ (B : Hp) (x : ι), Same B H ∧ pre x ∧ ArgsOk K B vs (As x) ∧
  (∀ b, f x = .ok b → ∀ p ws B' H', Ext B H B' H' → H p = none → B' p = none → H' p = some (.lst ws) → Paired (r.rp K B') b ws → Q (.ref p) H') ∧ (∀ C, f x = .error C → ∀ H', Same H H' → E (.ref C) none H')
section
variable {ι : Type} {As : ι → List Ty} {pre : ι → Prop} {f : ι → Except Addr β} {fn : ι → Except Addr (List β)} {E : XK} {tr : TA} {x : ι}
theorem ev_call {b : β} (ha : EvA G tr T (As x)) (hp : pre x) (hf : f x = .ok b) : EvD G (tCall (SpX G.K As pre r' f) [] E tr) T r' b := fun B H σ fr Q q => ha B H σ fr _ fun vs B1 H1 x1 ok => by
  rw [List.append_nil]
  exact ⟨B1, x, x1.s, hp, ok, fun b' e v B' H' y z => q v B' H' (x1.trans y) (by rw [hf] at e; cases e; exact z), fun C e => by rw [hf] at e; cases e⟩
theorem ev_callS [Sc β] {b : β} (ha : EvAH G tr T (As x)) (hp : pre x) (hf : f x = .ok b) : EvD G (tCall (SpX G.K As pre r' f) [] E tr) T r' b := fun B H σ fr Q q => ha B H σ fr _ fun vs B1 H1 x1 ok => by
  rw [List.append_nil]
  exact ⟨H1, x, Same.refl _, hp, ok, fun b' e v B' H' y z => q v B1 H' (x1.trans ⟨Same.refl _, y.h, x1.s.trans y.h, fun _ _ => rfl⟩) (by rw [hf] at e; cases e; exact Sc.any z), fun C e => by rw [hf] at e; cases e⟩
theorem ev_callN {b : List β} (ha : EvA G tr T (As x)) (hp : pre x) (hf : fn x = .ok b) : EvN G (tCall (SpN G.K As pre r' fn) [] E tr) T r' b := fun B H σ fr Q q => ha B H σ fr _ fun vs B1 H1 x1 ok => by
  rw [List.append_nil]
  exact ⟨B1, x, x1.s, hp, ok, fun b' e p ws B' H' y n1 n2 h z => q p ws B' H' (x1.trans y) (x1.h.free n1) n2 h (by rw [hf] at e; cases e; exact z), fun C e => by rw [hf] at e; cases e⟩
theorem ev_callNS [Sc β] {b : List β} (ha : EvAH G tr T (As x)) (hp : pre x) (hf : fn x = .ok b) : EvN G (tCall (SpN G.K As pre r' fn) [] E tr) T r' b := fun B H σ fr Q q => ha B H σ fr _ fun vs B1 H1 x1 ok => by
  rw [List.append_nil]
  exact ⟨H1, x, Same.refl _, hp, ok, fun b' e p ws B' H' y n1 n2 h z => q p ws B1 H' (x1.trans ⟨Same.refl _, y.h, x1.s.trans y.h, fun _ _ => rfl⟩) (x1.h.free n1) (x1.s.free n1) h (by rw [hf] at e; cases e; exact paired_sc z), fun C e => by rw [hf] at e; cases e⟩
/-- an expression that raises -/
def EvX (G : Cn) (te : TE) (T : List Ty) (W : Hp → Prop) : Prop := ∀ B H σ, Fr G B H σ T → (∀ H', Same G.H0 H' → W H') → ∀ Q, te σ H Q
theorem ex_call {C : Addr} (ha : EvAH G tr T (As x)) (hp : pre x) (hf : f x = .error C) : EvX G (tCall (SpX G.K As pre r' f) [] E tr) T (fun H => E (.ref C) none H) := fun B H σ fr w Q => ha B H σ fr _ fun vs B1 H1 x1 ok => by
  rw [List.append_nil]
  exact ⟨H1, x, Same.refl _, hp, ok, fun b' e => (by rw [hf] at e; cases e), fun C' e H' s => by rw [hf] at e; cases e; exact w H' ((fr.h0.trans x1.h).trans s)⟩
theorem ex_callN {C : Addr} (ha : EvAH G tr T (As x)) (hp : pre x) (hf : fn x = .error C) : EvX G (tCall (SpN G.K As pre r' fn) [] E tr) T (fun H => E (.ref C) none H) := fun B H σ fr w Q => ha B H σ fr _ fun vs B1 H1 x1 ok => by
  rw [List.append_nil]
  exact ⟨H1, x, Same.refl _, hp, ok, fun b' e => (by rw [hf] at e; cases e), fun C' e H' s => by rw [hf] at e; cases e; exact w H' ((fr.h0.trans x1.h).trans s)⟩
theorem gx_asg {g : TG} {W : Hp → Prop} (h : EvX G te T W) (w : ∀ H', Same G.H0 H' → W H') : Goes G T (tAsg te g D) := fun B H σ fr => h B H σ fr w _
theorem gx_ret {W : Hp → Prop} (h : EvX G te T W) (w : ∀ H', Same G.H0 H' → W H') : Goes G T (tRet te D) := fun B H σ fr => h B H σ fr w _
theorem gx_drop {W : Hp → Prop} (h : EvX G te T W) (w : ∀ H', Same G.H0 H' → W H') : Goes G T (tDrop te D) := fun B H σ fr => h B H σ fr w _
theorem g_raise {C : Value} {W : L2.St → Hp → Prop} (h : Goes G T W) : Goes G T W := h
end
end
/-! ### a def keeps its promise -/
theorem args_get {K : PySem.W.Frag} {B : Hp} : ∀ {vs : List V} {As : List Ty} {i : Nat} {t : Ty} (H : Hp) (F : Addr → Prop), ArgsOk K B vs As → As[i]? = some t → ∃ s, (vs.map some)[i]? = some s ∧ Slot K B H F s t
  | [], [], _, _, _, _, _, e => by simp at e
  | v :: vs, .im r a :: As, 0, t, _, _, h, e => by
    simp at e
    subst e
    exact ⟨some v, rfl, v, rfl, h.1⟩
  | v :: vs, .im r a :: As, i + 1, t, H, F, h, e => by
    obtain ⟨s, e1, q⟩ := args_get (i := i) H F h.2 (by simpa using e)
    exact ⟨s, by simpa using e1, q⟩
  | [], _ :: _, _, _, _, _, h, _ => by cases h
  | _ :: _, [], _, _, _, _, h, _ => by cases h
  | _ :: _, .ow _ _ :: _, _, _, _, _, h, _ => by cases h
  | _ :: _, .un :: _, _, _, _, _, h, _ => by cases h
  | _ :: _, .any :: _, _, _, _, _, h, _ => by cases h
theorem args_len {K : PySem.W.Frag} {B : Hp} : ∀ {vs : List V} {As : List Ty}, ArgsOk K B vs As → vs.length = As.length
  | [], [], _ => rfl
  | v :: vs, .im r a :: As, h => congrArg (· + 1) (args_len h.2)
  | [], _ :: _, h => by cases h
  | _ :: _, [], h => by cases h
  | _ :: _, .ow _ _ :: _, h => by cases h
  | _ :: _, .un :: _, h => by cases h
  | _ :: _, .any :: _, h => by cases h
theorem Fr.entry {K : PySem.W.Frag} {B H : Hp} {vs : List V} {As : List Ty} {N : List Str} (s : Same B H) (h : ArgsOk K B vs As) : Fr ⟨K, B, H⟩ B H (L2.start N vs) (As ++ List.replicate (N.length - As.length) .un) := by
  have hl := args_len h
  refine ⟨s, Same.refl _, Same.refl _, fun _ _ => rfl, ?_, fun _ => none, fun _ _ e => (by cases e), fun i t e => ?_⟩
  · unfold L2.start
    rw [List.length_append, List.length_append, List.length_map, List.length_replicate, List.length_replicate, hl]
  · unfold L2.start
    by_cases hi : i < As.length
    · rw [List.getElem?_append_left hi] at e
      obtain ⟨s, e1, q⟩ := args_get H (fun p => (fun _ => (none : Option Nat)) p = some i) h e
      exact ⟨s, by rw [List.getElem?_append_left (by rw [List.length_map, hl]; exact hi)]; exact e1, q⟩
    · rw [List.getElem?_append_right (by omega)] at e
      obtain ⟨h1, h2⟩ := List.getElem?_eq_some_iff.mp e
      rw [List.length_replicate] at h1
      rw [List.getElem_replicate] at h2
      subst h2
      refine ⟨none, ?_, rfl⟩
      rw [List.getElem?_append_right (by rw [List.length_map, hl]; omega), List.length_map, hl]
      rw [List.getElem?_replicate, if_pos h1]
section
variable {P : Program} {w : World} {K : PySem.W.Frag} {mg : Str → Option Value} {base : Heap} {x qual : Str} {st : Stmt} {fa : Addr} {fd : FuncData} {N ps : List Str} {k : Nat} {ι β : Type} {As : ι → List Ty} {pre : ι → Prop} {r : Rp β} {f : ι → Except Addr β} {fn : ι → Except Addr (List β)}
theorem def_ok (F : Fun K x qual st fa fd) (S : FnScope N ps (defScope st)) (len : ∀ x, (As x).length = ps.length)
    (hbody : ∀ (cdv : Value) (A : Around) (outer : List Env) (s : Shared) (H : Hp) (E : XK), Room k (A.deeper (envOfC qual (defScope st) s.heap.objs.size fa cdv)) →
      ∃ t, PSs (cxOf (L2.CX P w) P w K mg base N qual (defScope st) fa cdv A outer s H E) (defBody st) t ∧ ∀ (B : Hp) (x : ι) (Q : VK), pre x → (∀ b, f x = .ok b → RetD ⟨K, B, H⟩ Q r b) → (∀ C, f x = .error C → ∀ H', Same H H' → E (.ref C) none H') →
        Goes ⟨K, B, H⟩ (As x ++ List.replicate (N.length - (As x).length) .un) (t { nx := fun _ H' => Q .non H', rt := Q })) :
    FnOk P w K mg base (L2.CX P w) (k + 1) fa fd ps (SpX K As pre r f) := by
  refine F.okX S (fun vs H Q E h => ?_) (fun cdv A outer s H vs Q E hr h => ?_)
  · obtain ⟨B, x, _, _, ok, _⟩ := h
    exact (args_len ok).trans (len x)
  · obtain ⟨B, x, sB, hp, ok, h1, h2⟩ := h
    obtain ⟨t, ht, hg⟩ := hbody cdv A outer s H E hr
    exact ⟨t, ht, hg B x Q hp (fun b e v B' H' y z => h1 b e v B' H' y z) h2 B H _ (Fr.entry sB ok)⟩
theorem def_okN (F : Fun K x qual st fa fd) (S : FnScope N ps (defScope st)) (len : ∀ x, (As x).length = ps.length)
    (hbody : ∀ (cdv : Value) (A : Around) (outer : List Env) (s : Shared) (H : Hp) (E : XK), Room k (A.deeper (envOfC qual (defScope st) s.heap.objs.size fa cdv)) →
      ∃ t, PSs (cxOf (L2.CX P w) P w K mg base N qual (defScope st) fa cdv A outer s H E) (defBody st) t ∧ ∀ (B : Hp) (x : ι) (Q : VK), pre x → (∀ b, fn x = .ok b → RetN ⟨K, B, H⟩ Q r b) → (∀ C, fn x = .error C → ∀ H', Same H H' → E (.ref C) none H') →
        Goes ⟨K, B, H⟩ (As x ++ List.replicate (N.length - (As x).length) .un) (t { nx := fun _ H' => Q .non H', rt := Q })) :
    FnOk P w K mg base (L2.CX P w) (k + 1) fa fd ps (SpN K As pre r fn) := by
  refine F.okX S (fun vs H Q E h => ?_) (fun cdv A outer s H vs Q E hr h => ?_)
  · obtain ⟨B, x, _, _, ok, _⟩ := h
    exact (args_len ok).trans (len x)
  · obtain ⟨B, x, sB, hp, ok, h1, h2⟩ := h
    obtain ⟨t, ht, hg⟩ := hbody cdv A outer s H E hr
    exact ⟨t, ht, hg B x Q hp (fun b e p vs B' H' y n1 n2 h z => h1 b e p vs B' H' y n1 n2 h z) h2 B H _ (Fr.entry sB ok)⟩
end
end DL

set_option Elab.async false
set_option linter.all false
set_option maxRecDepth 100000
set_option maxHeartbeats 4000000
namespace DL
open PySem PySem.Spec PyProof.Rows L2
/-! ### data of any form -/
inductive D where
  | non | bl (b : Bool) | int (i : Int) | str (s : Str) | lst (l : List D) | tup (l : List D)
mutual
def rpDv (K : PySem.W.Frag) (H : Hp) : D → V → Prop
  | .non, v => v = .non
  | .bl b, v => v = .bl b
  | .int i, v => v = .int i
  | .str s, v => v = .str s
  | .lst l, v => ∃ p vs, v = .ref p ∧ H p = some (.lst vs) ∧ rpDs K H l vs
  | .tup l, v => ∃ p vs, v = .ref p ∧ H p = some (.tup vs) ∧ rpDs K H l vs
def rpDs (K : PySem.W.Frag) (H : Hp) : List D → List V → Prop
  | [], vs => vs = []
  | d :: ds, vs => ∃ v r, vs = v :: r ∧ rpDv K H d v ∧ rpDs K H ds r
end
mutual
theorem rpDv_mono {K : PySem.W.Frag} {H H' : Hp} (e : Same H H') : ∀ (d : D) (v : V), rpDv K H d v → rpDv K H' d v
  | .non, _, h => h
  | .bl _, _, h => h
  | .int _, _, h => h
  | .str _, _, h => h
  | .lst l, _, ⟨p, vs, a, b, c⟩ => ⟨p, vs, a, e _ _ b, rpDs_mono e l vs c⟩
  | .tup l, _, ⟨p, vs, a, b, c⟩ => ⟨p, vs, a, e _ _ b, rpDs_mono e l vs c⟩
theorem rpDs_mono {K : PySem.W.Frag} {H H' : Hp} (e : Same H H') : ∀ (d : List D) (v : List V), rpDs K H d v → rpDs K H' d v
  | [], _, h => h
  | d :: ds, _, ⟨v, r, a, b, c⟩ => ⟨v, r, a, rpDv_mono e d v b, rpDs_mono e ds r c⟩
end
instance rpD : Rp D := ⟨rpDv, fun {K H H' a v} e h => rpDv_mono e a v h⟩
theorem rpDs_paired {K : PySem.W.Frag} {H : Hp} : ∀ {l : List D} {vs : List V}, rpDs K H l vs ↔ Paired (rpD.rp K H) l vs
  | [], vs => ⟨fun h => by
      have e : vs = [] := h
      subst e; exact .nil, fun h => by cases h; rfl⟩
  | d :: ds, vs => ⟨fun ⟨v, r, a, b, c⟩ => by subst a; exact .cons b (rpDs_paired.mp c), fun h => by
      cases h with
      | cons a b => exact ⟨_, _, rfl, a, rpDs_paired.mpr b⟩⟩
/-- what of a kind is told as data -/
class ToD (α : Type) [Rp α] where
  d : α → D
  rp : ∀ {K : PySem.W.Frag} {H : Hp} {a : α} {v : V}, Rp.rp K H a v → rpDv K H (d a) v
  pr : ∀ {K : PySem.W.Frag} {H : Hp} {a : α} {v : V}, rpDv K H (d a) v → Rp.rp K H a v
instance toInt : ToD Int := ⟨D.int, fun h => h, fun h => h⟩
instance toBool : ToD Bool := ⟨D.bl, fun h => h, fun h => h⟩
instance toStr : ToD Str := ⟨D.str, fun h => h, fun h => h⟩
instance toUnit : ToD Unit := ⟨fun _ => D.non, fun h => h, fun h => h⟩
instance toD : ToD D := ⟨fun d => d, fun h => h, fun h => h⟩
theorem paired_map {α β γ : Type} {F : α → γ → Prop} {G : β → γ → Prop} {m : α → β} (h : ∀ a c, F a c → G (m a) c) : ∀ {xs : List α} {ys : List γ}, Paired F xs ys → Paired G (xs.map m) ys
  | _, _, .nil => .nil
  | _, _, .cons r t => .cons (h _ _ r) (paired_map h t)
theorem paired_unmap {α β γ : Type} {F : α → γ → Prop} {G : β → γ → Prop} {m : α → β} (h : ∀ a c, G (m a) c → F a c) : ∀ {xs : List α} {ys : List γ}, Paired G (xs.map m) ys → Paired F xs ys
  | [], _, .nil => .nil
  | _ :: _, _, .cons r t => .cons (h _ _ r) (paired_unmap h t)
instance toList {α : Type} [Rp α] [ToD α] : ToD (List α) := ⟨fun l => D.lst (l.map ToD.d), fun ⟨p, vs, a, b, c⟩ => ⟨p, vs, a, b, rpDs_paired.mpr (paired_map (fun _ _ h => ToD.rp h) c)⟩, fun ⟨p, vs, a, b, c⟩ => ⟨p, vs, a, b, paired_unmap (F := Rp.rp _ _) (G := rpDv _ _) (m := ToD.d) (fun _ _ h => ToD.pr h) (rpDs_paired.mp c)⟩⟩
instance toPair {α β : Type} [Rp α] [ToD α] [Rp β] [ToD β] : ToD (α × β) := ⟨fun p => D.tup [ToD.d p.1, ToD.d p.2], fun ⟨p, x, y, a, b, c, d⟩ => ⟨p, _, a, b, x, [y], rfl, ToD.rp c, y, [], rfl, ToD.rp d, rfl⟩, fun ⟨p, vs, a, b, x, r, e1, c, y, r', e2, d, e3⟩ => ⟨p, x, y, a, by rw [b, e1, e2, show r' = [] from e3], ToD.pr c, ToD.pr d⟩⟩
/-- the name of a thing's type -/
def D.tn : D → String
  | .non => "NoneType"
  | .bl _ => "bool"
  | .int _ => "int"
  | .str _ => "str"
  | .lst _ => "list"
  | .tup _ => "tuple"
theorem rpDv_ty {K : PySem.W.Frag} {H : Hp} {d : D} {v : V} (h : rpDv K H d v) : TyX K H v (.type d.tn) := by
  cases d with
  | non => rw [show v = _ from h]; exact .base .non
  | bl b => rw [show v = _ from h]; exact .base (.bl b)
  | int i => rw [show v = _ from h]; exact .base (.int i)
  | str i => rw [show v = _ from h]; exact .base (.str i)
  | lst l => obtain ⟨p, vs, rfl, b, c⟩ := h; exact .base (.lst b)
  | tup l => obtain ⟨p, vs, rfl, b, c⟩ := h; exact .base (.tup b)
class Tn (α : Type) [Rp α] where
  tn : α → String
  ok : ∀ {K : PySem.W.Frag} {H : Hp} {a : α} {v : V}, Rp.rp K H a v → TyX K H v (.type (tn a))
instance tnD : Tn D := ⟨D.tn, fun h => rpDv_ty h⟩
instance tnInt : Tn Int := ⟨fun _ => "int", fun h => by rw [show _ = V.int _ from h]; exact .base (.int _)⟩
instance tnBool : Tn Bool := ⟨fun _ => "bool", fun h => by rw [show _ = V.bl _ from h]; exact .base (.bl _)⟩
instance tnStr : Tn Str := ⟨fun _ => "str", fun h => by rw [show _ = V.str _ from h]; exact .base (.str _)⟩
instance tnUnit : Tn Unit := ⟨fun _ => "NoneType", fun h => by rw [show _ = V.non from h]; exact .base .non⟩
instance tnList {α : Type} [Rp α] : Tn (List α) := ⟨fun _ => "list", fun ⟨p, vs, a, b, c⟩ => by rw [a]; exact .base (.lst b)⟩
instance tnPair {α β : Type} [Rp α] [Rp β] : Tn (α × β) := ⟨fun _ => "tuple", fun ⟨p, x, y, a, b, _⟩ => by rw [a]; exact .base (.tup b)⟩
instance tnT3 {α β γ : Type} [Rp α] [Rp β] [Rp γ] : Tn (T3 α β γ) := ⟨fun _ => "tuple", fun ⟨p, x, y, z, a, b, _⟩ => by rw [a]; exact .base (.tup b)⟩
instance tnT4 {α β γ δ : Type} [Rp α] [Rp β] [Rp γ] [Rp δ] : Tn (T4 α β γ δ) := ⟨fun _ => "tuple", fun ⟨p, x, y, z, u, a, b, _⟩ => by rw [a]; exact .base (.tup b)⟩
instance tnOpt {α : Type} [Rp α] [Tn α] : Tn (Option α) := ⟨fun o => match o with | none => "NoneType" | some a => Tn.tn a, fun {K H a v} h => by
  cases a with
  | none => rw [show v = V.non from h]; exact .base .non
  | some a => exact Tn.ok (α := α) h⟩
/-- isinstance by the types' names -/
def isT (t c : String) : Bool := t == c || (t == "bool" && c == "int")
theorem kit_isT {K : PySem.W.Frag} {t c : String} (ht : t ∈ ["NoneType", "bool", "int", "str", "list", "tuple", "dict"]) (hc : c ∈ ["bool", "int", "str", "list", "tuple"]) : PySem.W.kitOne K (.type t) (.type c) = some (isT t c) := by
  simp only [List.mem_cons, List.mem_nil_iff, or_false] at ht hc
  rcases ht with rfl | rfl | rfl | rfl | rfl | rfl | rfl <;> rcases hc with rfl | rfl | rfl | rfl | rfl <;> rfl
section
variable {G : Cn} {T : List Ty} {te ta tb tc : TE} {α β γ : Type} {r : Rp α} {r' : Rp β}
theorem ev_isi [Tn α] {a : α} {n : String} {b : Bool} (h : EvH G te T r a) (ht : ∀ K : PySem.W.Frag, PySem.W.kitOne K (.type (Tn.tn a)) (.type n) = some b) : EvD G (tCB (rIsi G.K) (tCons te (tCons (tC (.ty n)) tNil))) T rpBool b := fun B H σ f Q q =>
  h B H σ f _ fun v B1 H1 x1 e1 => ⟨v, .ty n, _, _, b, rfl, .ty n, Tn.ok e1, ht _, q _ B1 H1 x1 rfl⟩
/-- a thing told as data, and back -/
theorem EvD.toD [ToD α] {a : α} (h : EvD G te T r a) : EvD G te T rpD (ToD.d a) := fun B H σ f Q q => h B H σ f Q fun v B' H' x z => q v B' H' x (ToD.rp z)
theorem EvD.ofD [ToD α] {a : α} (h : EvD G te T rpD (ToD.d a)) : EvD G te T r a := fun B H σ f Q q => h B H σ f Q fun v B' H' x z => q v B' H' x (ToD.pr z)
theorem EvH.toD [ToD α] {a : α} (h : EvH G te T r a) : EvH G te T rpD (ToD.d a) := fun B H σ f Q q => h B H σ f Q fun v B' H' x z => q v B' H' x (ToD.rp z)
theorem EvD.dl {l : List D} (h : EvD G te T rpD (.lst l)) : EvD G te T (@rpList D rpD) l := fun B H σ f Q q => h B H σ f Q fun v B' H' x z => q v B' H' x (by
  obtain ⟨p, vs, a, b, c⟩ := z
  exact ⟨p, vs, a, b, rpDs_paired.mp c⟩)
theorem EvD.d2 {a b : D} (h : EvD G te T rpD (.tup [a, b])) : EvD G te T (@rpPair D D rpD rpD) (a, b) := fun B H σ f Q q => h B H σ f Q fun v B' H' x z => q v B' H' x (by
  obtain ⟨p, vs, e, b, x, r, e1, c, y, r', e2, d, e3⟩ := z
  exact ⟨p, x, y, e, by rw [b, e1, e2, show r' = [] from e3], c, d⟩)
/-- the length of a tuple -/
theorem ev_lenTup {l : List D} (h : EvH G te T rpD (.tup l)) : EvD G (tCB (rLenQ G.K) (tCons te tNil)) T rpInt (l.length : Int) := fun B H σ f Q q =>
  h B H σ f _ fun v B1 H1 x1 e1 => by
    obtain ⟨p, vs, rfl, s, z⟩ := e1
    refine ⟨p, vs, rfl, .inr (.inl (.inl s)), ?_⟩
    rw [← Paired.length (rpDs_paired.mp z)]
    exact q _ B1 H1 x1 rfl
/-! sorted -/
theorem ev_sorted {xs ys : List Int} (h : EvC G te T rpInt xs) (hy : ys.Perm xs) (hs : ys.Pairwise (· ≤ ·)) : EvN G (tCB (rSortedI G.K) (tCons te tNil)) T rpInt ys := fun B H σ f Q q =>
  h B H σ f _ fun v B1 H1 x1 e1 => by
    obtain ⟨p, vs, rfl, s, z⟩ := e1
    have e := ints_of z
    subst e
    refine ⟨p, xs, rfl, s, fun ns l hp hw hl => ?_⟩
    have e2 : ns = ys := (hp.trans hy.symm).eq_of_pairwise (fun a b _ _ h1 h2 => Int.le_antisymm h1 h2) hw hs
    subst e2
    have x2 := upd_extN (o := .lst (ns.map V.int)) x1.s hl
    exact q l _ B1 _ (x1.trans x2) (x1.h.free hl) (x1.s.free hl) upd_same of_ints
/-- sorted of pairs of ints -/
def le2 (a b : Int × Int) : Prop := a.1 < b.1 ∨ (a.1 = b.1 ∧ a.2 ≤ b.2)
def keyOf (H : Hp) : V → Int × Int
  | .ref t => match H t with
    | some (.tup [.int i, .int j]) => (i, j)
    | _ => (0, 0)
  | _ => (0, 0)
theorem keys_of {K : PySem.W.Frag} {H : Hp} : ∀ {xs : List (Int × Int)} {vs : List V}, Paired ((@rpPair Int Int rpInt rpInt).rp K H) xs vs → xs = vs.map (keyOf H) ∧ ∀ v ∈ vs, ∃ t, v = .ref t ∧ H t = some (.tup [.int (keyOf H v).1, .int (keyOf H v).2])
  | [], _, .nil => ⟨rfl, fun _ h => by cases h⟩
  | (i, j) :: xs, v :: vs, .cons ⟨p, x, y, a, b, c, d⟩ t => by
    obtain ⟨e, h⟩ := keys_of t
    have c' : x = V.int i := c
    have d' : y = V.int j := d
    subst a c' d'
    have ek : keyOf H (.ref p) = (i, j) := by
      show (match H p with | some (.tup [.int i, .int j]) => (i, j) | _ => (0, 0)) = _
      rw [b]
    refine ⟨by rw [List.map_cons, ek, ← e], fun v hv => ?_⟩
    rcases List.mem_cons.mp hv with z | z
    · subst z; exact ⟨p, rfl, by rw [ek]; exact b⟩
    · exact h v z
theorem of_keys {K : PySem.W.Frag} {B H : Hp} : ∀ {vs : List V}, (∀ v ∈ vs, (@rpPair Int Int rpInt rpInt).rp K B (keyOf H v) v) → Paired ((@rpPair Int Int rpInt rpInt).rp K B) (vs.map (keyOf H)) vs
  | [], _ => .nil
  | v :: vs, h => .cons (h v List.mem_cons_self) (of_keys fun w hw => h w (List.mem_cons_of_mem _ hw))
theorem paired_mem {F : α → β → Prop} : ∀ {xs : List α} {ys : List β} {y : β}, Paired F xs ys → y ∈ ys → ∃ x, x ∈ xs ∧ F x y
  | _, _, _, .nil, h => by cases h
  | _, _, y, .cons r t, h => by
    rcases List.mem_cons.mp h with e | h
    · subst e; exact ⟨_, List.mem_cons_self, r⟩
    · obtain ⟨x, h1, h2⟩ := paired_mem t h
      exact ⟨x, List.mem_cons_of_mem _ h1, h2⟩
theorem ev_sortedP {xs ys : List (Int × Int)} (h : EvC G te T (@rpPair Int Int rpInt rpInt) xs) (hy : ys.Perm xs) (hs : ys.Pairwise le2) :
    EvN G (tCB (rSortedPO G.K) (tCons te tNil)) T (@rpPair Int Int rpInt rpInt) ys := fun B H σ f Q q =>
  h B H σ f _ fun v B1 H1 x1 e1 => by
    obtain ⟨p, vs, rfl, s, z⟩ := e1
    have zH := paired_mono x1.s z
    obtain ⟨e, hk⟩ := keys_of zH
    refine ⟨p, vs, keyOf H1, rfl, s, hk, fun ws l h1 h2 hl => ?_⟩
    have hperm : (ws.map (keyOf H1)).Perm xs := by rw [e]; exact h2.perm.map _
    have hsort : (ws.map (keyOf H1)).Pairwise le2 := by
      rw [List.pairwise_map]
      refine List.Pairwise.imp ?_ h1
      intro a b hab
      have hab' : SrtO.lexB (keyOf H1 b) (keyOf H1 a) = false := hab
      have hn : ¬ (SrtO.lexB (keyOf H1 b) (keyOf H1 a) = true) := by rw [hab']; decide
      rw [SrtO.lexB_iff] at hn
      unfold le2
      omega
    have e2 : ws.map (keyOf H1) = ys := (hperm.trans hy.symm).eq_of_pairwise (fun a b _ _ h1 h2 => by
      unfold le2 at h1 h2
      exact Prod.ext (by omega) (by omega)) hsort hs
    have x2 := upd_extN (o := .lst ws) x1.s hl
    refine q l _ B1 _ (x1.trans x2) (x1.h.free hl) (x1.s.free hl) upd_same ?_
    rw [← e2]
    refine of_keys fun v hv => ?_
    have hv' : v ∈ vs := h2.perm.subset hv
    obtain ⟨w, _, rw'⟩ := paired_mem z hv'
    have : keyOf H1 v = w := by
      obtain ⟨p, x, y, a, b, c, d⟩ := rw'
      have c' : x = V.int w.1 := c
      have d' : y = V.int w.2 := d
      subst a c' d'
      show (match H1 p with | some (.tup [.int i, .int j]) => (i, j) | _ => (0, 0)) = _
      rw [x1.s _ _ b]
    rw [this]
    exact rw'
end
end DL

set_option Elab.async false
set_option linter.all false
set_option maxRecDepth 100000
set_option maxHeartbeats 4000000
namespace DL
open PySem PySem.Spec PyProof.Rows L2
/-- the built-ins that no name of the module hides -/
structure Blt (mg : Str → Option Value) : Prop where
  isinstance : mg "isinstance" = none
  len : mg "len" = none
  range : mg "range" = none
  sorted : mg "sorted" = none
  enumerate : mg "enumerate" = none
  zip : mg "zip" = none
  sum : mg "sum" = none
  min : mg "min" = none
  max : mg "max" = none
  int : mg "int" = none
  bool : mg "bool" = none
  list : mg "list" = none
  tuple : mg "tuple" = none
  str : mg "str" = none
  set : mg "set" = none
  ValueError : mg "ValueError" = none
/-- a def of the module's top, as it stands -/
structure DefT (K : PySem.W.Frag) (mg : Str → Option Value) (x : Str) (st : Stmt) (ps : List Str) : Prop where
  ex : ∃ f fd, Fun K x x st f fd ∧ mg x = some (.ref f) ∧ Binds K fd ps []
/-- a def with its promise -/
structure Def (P : Program) (w : World) (K : PySem.W.Frag) (mg : Str → Option Value) (base : Heap) (k : Nat) (x : Str) (ps : List Str) (sp : Sp) : Prop where
  ex : ∃ f fd, FnOk P w K mg base (L2.CX P w) k f fd ps sp ∧ mg x = some (.ref f) ∧ PySem.W.keepIn K (.ref f) = true ∧ Binds K fd ps []
theorem DefT.mk' {K : PySem.W.Frag} {mg : Str → Option Value} {x : Str} {st : Stmt} {ps : List Str} {f : Addr} {fd : FuncData} (F : Fun K x x st f fd) (g : mg x = some (.ref f)) (b : Binds K fd ps []) : DefT K mg x st ps := ⟨f, fd, F, g, b⟩
section
variable {P : Program} {w : World} {K : PySem.W.Frag} {mg : Str → Option Value} {base : Heap} {k : Nat} {x : Str} {ps : List Str} {sp : Sp} {st : Stmt}
theorem DefT.to (T : DefT K mg x st ps) (h : ∀ f fd, Fun K x x st f fd → FnOk P w K mg base (L2.CX P w) k f fd ps sp) : Def P w K mg base k x ps sp := by
  obtain ⟨f, fd, F, g, b⟩ := T.ex
  exact ⟨f, fd, h f fd F, g, F.kp, b⟩
end
theorem pe_callD {X : Cx} {x : Str} {ps : List Str} {sp : Sp} {k j : Nat} {E : XK} {e : Expr} {es : List Expr} {t : TA} {p pos : Pos} (D : Def X.prog X.w X.K X.mg X.base k x ps sp) (hr : Room j X.A) (hg : Gl X x) (hx : Passes (L2.CX X.prog X.w) X E) (ha : PA X (e :: es) t) (hj : k ≤ j := by decide)
    (hdb : (x == ("__debug__" : Str)) = false := by decide) (he : starEach (e :: es) X.env = (false, eval e X.env) :: starEach es X.env := by rfl) (hpl : (backTo pos (starEach es X.env)).any (·.1) = false := by rfl) :
    PE X (.Call (.Name x p) (e :: es) [] pos) (tCall sp [] E t) := by
  obtain ⟨f, fd, F, g, kp, b⟩ := D.ex
  exact pe_call F (hr.mono hj) hg g kp b .nil hx ha hdb he hpl
/-- a call within a try -/
theorem pe_callDS {X : Cx} {x : Str} {ps : List Str} {sp : Sp} {k j : Nat} {E : L2.St → XK} {e : Expr} {es : List Expr} {t : TA} {p pos : Pos} (D : Def X.prog X.w X.K X.mg X.base k x ps sp) (hr : Room j X.A) (hg : Gl X x) (hx : ∀ σ, PassesAt (L2.CX X.prog X.w) X σ (E σ)) (ha : PA X (e :: es) t) (hj : k ≤ j := by decide)
    (hdb : (x == ("__debug__" : Str)) = false := by decide) (he : starEach (e :: es) X.env = (false, eval e X.env) :: starEach es X.env := by rfl) (hpl : (backTo pos (starEach es X.env)).any (·.1) = false := by rfl) :
    PE X (.Call (.Name x p) (e :: es) [] pos) (tCallS sp E t) := by
  obtain ⟨f, fd, F, g, kp, b⟩ := D.ex
  exact pe_callS F (hr.mono hj) hg g kp b hx ha hdb he hpl
/-- an own error class over ValueError, without a method of its own -/
structure ECls (K : PySem.W.Frag) (mg : Str → Option Value) (x : Str) (C : Addr) : Prop where
  mg : mg x = some (.ref C)
  ex : PySem.W.excIn K C [.type "ValueError", .type "Exception", .type "BaseException", .type "object"] "ValueError.__new__" = true
  kp : PySem.W.keepIn K (.ref C) = true
  sb : PySem.W.subIn K (.ref C) (.type "BaseException") = some true
  ty : PySem.W.typeIn K (.ref C) = some (.type "type")
  hd : PySem.W.hasDictIn K C = true
  sf : PySem.W.subIn K (.ref C) (.ref C) = some true
theorem ECls.pmk {X : Cx} {x m : Str} {C : Addr} {j : Nat} {p p2 pos : Pos} (c : ECls X.K X.mg x C) (hg : Gl X x := by rfl) (hdb : (x == ("__debug__" : Str)) = false := by decide) :
    PMk X (.Call (.Name x p) [.Constant (.str m) j p2] [] pos) (fun _ H Q => Q (.ref C) none H) := pmk_own PySem.F.excBase_ValueError c.ex c.mg c.kp (raises_own c.sb c.ty) hg hdb
section
variable {G : Cn} {T : List Ty} {D : Ends} {W : Hp → Prop} {C : Addr} {E : XK}
theorem g_rs (w : ∀ H', Same G.H0 H' → E (.ref C) none H') : Goes G T fun σ H => E (.ref C) none H := fun B H σ f => w H f.h0
end
/-! ### len(set(xs)) -/
/-- how many unlike ones there are -/
def ddl (ns : List Int) : Nat := (ns.foldl PyProof.Rows.step_dedup []).length
theorem getD_all (ns : List Int) : (List.range ns.length).map (fun i => ns.getD i 0) = ns := by
  apply List.ext_getElem
  · simp
  · intro i h1 h2
    simp [List.getD_eq_getElem?_getD, List.getElem?_eq_getElem h2]
theorem firstMet_ddl (ns : List Int) : (PyProof.Rows.firstMet (fun i => ns.getD i 0) ns.length).length = ddl ns := by
  unfold PyProof.Rows.firstMet ddl
  rw [getD_all]
theorem dedup_mem (ns : List Int) : ∀ (acc : List Int) (k : Int), k ∈ ns.foldl PyProof.Rows.step_dedup acc ↔ k ∈ acc ∨ k ∈ ns := by
  induction ns with
  | nil => intro acc k; simp
  | cons a ns ih =>
    intro acc k
    rw [List.foldl_cons, ih]
    unfold PyProof.Rows.step_dedup
    by_cases h : acc.any (· == a) = true
    · rw [if_pos h]
      have : a ∈ acc := by simpa using h
      constructor
      · rintro (h1 | h1)
        · exact .inl h1
        · exact .inr (List.mem_cons_of_mem _ h1)
      · rintro (h1 | h1)
        · exact .inl h1
        · rcases List.mem_cons.mp h1 with e | h1
          · subst e; exact .inl this
          · exact .inr h1
    · rw [if_neg h]
      simp [or_assoc]
theorem dedup_len (ns : List Int) : ∀ (acc : List Int), (ns.foldl PyProof.Rows.step_dedup acc).length ≤ acc.length + ns.length ∧ ((ns.foldl PyProof.Rows.step_dedup acc).length = acc.length + ns.length ↔ ns.Nodup ∧ ∀ x ∈ ns, x ∉ acc) := by
  induction ns with
  | nil => intro acc; simp
  | cons a ns ih =>
    intro acc
    rw [List.foldl_cons]
    obtain ⟨h1, h2⟩ := ih (PyProof.Rows.step_dedup acc a)
    by_cases h : acc.any (· == a) = true
    · have ha : a ∈ acc := by simpa using h
      have e : PyProof.Rows.step_dedup acc a = acc := by unfold PyProof.Rows.step_dedup; rw [if_pos h]
      rw [e] at h1 h2 ⊢
      refine ⟨by rw [List.length_cons]; omega, fun z => ?_, fun z => absurd ha (z.2 a List.mem_cons_self)⟩
      rw [List.length_cons] at z
      omega
    · have ha : a ∉ acc := by simpa using h
      have e : PyProof.Rows.step_dedup acc a = acc ++ [a] := by unfold PyProof.Rows.step_dedup; rw [if_neg h]
      rw [e, List.length_append, List.length_singleton] at h1 h2
      rw [e, List.length_cons]
      refine ⟨by omega, ?_⟩
      rw [show acc.length + (ns.length + 1) = acc.length + 1 + ns.length by omega, h2, List.nodup_cons]
      constructor
      · rintro ⟨n1, n2⟩
        refine ⟨⟨fun hm => n2 a hm (by simp), n1⟩, fun x hx => ?_⟩
        rcases List.mem_cons.mp hx with e | hx
        · subst e; exact ha
        · exact fun hm => n2 x hx (List.mem_append_left _ hm)
      · rintro ⟨⟨n1, n2⟩, n3⟩
        refine ⟨n2, fun x hx hm => ?_⟩
        rcases List.mem_append.mp hm with hm | hm
        · exact n3 x (List.mem_cons_of_mem _ hx) hm
        · rw [List.mem_singleton.mp hm] at hx
          exact n1 hx
theorem ddl_le (ns : List Int) : ddl ns ≤ ns.length := by
  have := (dedup_len ns []).1
  simpa [ddl] using this
theorem ddl_iff (ns : List Int) : ddl ns = ns.length ↔ ns.Nodup := by
  have := (dedup_len ns []).2
  simpa [ddl] using this
def tLenSetQ (K : PySem.W.Frag) (ta : TE) : TE := fun σ H Q => ta σ H fun x H1 => ∃ (l : Addr) (ns : List Int), x = V.ref l ∧ SqL K H1 l (ns.map V.int) ∧ ns.length < 4000 ∧ Q (.int (ddl ns : Nat)) H1
theorem pe_lenSetQ {X : Cx} {a : Expr} {ta : TE} {p p2 q pos : Pos} (hc : X.calm = true) (hg : Gl X "len") (hm : X.mg "len" = none) (hg2 : Gl X "set") (hm2 : X.mg "set" = none) (ha : PE X a ta)
    (na : starEach [a] X.env = (false, eval a X.env) :: starEach [] X.env := by rfl) : PE X (.Call (.Name "len" p) [.Call (.Name "set" p2) [a] [] q] [] pos) (tLenSetQ X.K ta) := by
  refine ⟨fun pins s σ H Q I h => ?_⟩
  refine Call_ (ld_blt I hg hm PySem.boot_len ?_)
  refine PyProof.Rows.callWith_builtin1 (PyProof.Rows.args_cons ?_ rfl) rfl rfl
  refine Call_ (ld_blt I hg2 hm2 PyProof.Rows.boot_set ?_)
  refine PyProof.Rows.callWith_type1 (PyProof.Rows.args_cons (thn (ha.run pins s σ H _ I h) fun v s1 ⟨x, H1, I1, r1, q1⟩ => PyProof.Rows.args_nil ?_) na) na rfl
  obtain ⟨l, ns, rfl, hq, h1, q1⟩ := q1
  cases r1
  obtain ⟨its, r, pl, hz⟩ := I1.list hq
  have hl : its.toArray.size = ns.length := by rw [List.size_toArray, ← r.length, List.length_map]
  refine call_set_list (I1.ok.hd hc) pl.isList (ns := ns) (by simpa using r.ints) (by unfold scanBound; omega) fun h' tk hS hk => ?_
  rw [hl] at hS
  rw [firstMet_ddl] at hS
  refine PyProof.Rows.args_nil ?_
  obtain ⟨o, es, ep, t, ho, hex, hd, _, _, _, hf, hn⟩ := hS
  have I2 : Inv X pins σ H1 { s1 with heap := h', toks := tk } := I1.kept fun b o e => hk b o (Heap.lt_size e) e
  have hb := ddl_le ns
  refine call_len_set ho hex hd hf (by rw [hn] <;> omega) ⟨.int (ddl ns : Nat), H1, I2.tok _, ⟨_, by rw [hn]⟩, q1⟩
theorem ev_lenSet {G : Cn} {T : List Ty} {te : TE} {xs : List Int} (h : EvC G te T rpInt xs) (hz : xs.length < 4000) : EvD G (tLenSetQ G.K te) T rpInt (ddl xs : Int) := fun B H σ f Q q =>
  h B H σ f _ fun v B1 H1 x1 e1 => by
    obtain ⟨p, vs, rfl, s, z⟩ := e1
    have e := ints_of z
    subst e
    exact ⟨p, xs, rfl, s, hz, q _ B1 H1 x1 rfl⟩
/-! ### what laws share -/
/-- the k-th cell, nought where there is none -/
def cell (s : Scr) (k : Int) : Int := if k < (s.cells.length : Int) then (atI s.cells k).getD 0 else 0
def mix (c p m : Int) : Int := c * 48271 % p % m
/-- a whole number from lo to hi -/
def within : D → Int → Int → Bool
  | .int i, lo, hi => decide (lo ≤ i) && decide (i ≤ hi)
  | _, _, _ => false
end DL
namespace DL
open PySem PySem.Spec PyProof.Rows L2
/-! ### orders -/
def D.toI : D → Int
  | .int i => i
  | _ => 0
theorem within_int {d : D} {lo hi : Int} (h : within d lo hi = true) : ∃ i, d = .int i ∧ lo ≤ i ∧ i ≤ hi := by
  cases d with
  | int i =>
    have h' : (decide (lo ≤ i) && decide (i ≤ hi)) = true := h
    rw [Bool.and_eq_true, decide_eq_true_eq, decide_eq_true_eq] at h'
    exact ⟨i, rfl, h'.1, h'.2⟩
  | _ => exact absurd h (by simp [within])
def ordOk (l : List D) : Bool := decide (1 ≤ l.length ∧ l.length ≤ 16) && (l.all (fun x => within x 0 ((l.length : Int) - 1)) && decide (ddl (l.map D.toI) = l.length))
def ordOf : D → Option (List Int)
  | .lst l => if ordOk l = true then some (l.map D.toI) else none
  | _ => none
def ordE (C : Addr) (d : D) : Except Addr (List Int) := match ordOf d with
  | some xs => .ok xs
  | none => .error C
theorem all_int {l : List D} {lo hi : Int} (h : ∀ x ∈ l, within x lo hi = true) : l = (l.map D.toI).map D.int := by
  induction l with
  | nil => rfl
  | cons a l ih =>
    obtain ⟨i, e, _⟩ := within_int (h a List.mem_cons_self)
    subst e
    rw [List.map_cons, List.map_cons, ← ih fun x hx => h x (List.mem_cons_of_mem _ hx)]
    rfl
/-- an order of n lines -/
def IsOrd (xs : List Int) : Prop := 1 ≤ xs.length ∧ xs.length ≤ 16 ∧ (∀ x ∈ xs, 0 ≤ x ∧ x < xs.length) ∧ xs.Nodup
theorem toI_int (xs : List Int) : (xs.map D.int).map D.toI = xs := by
  rw [List.map_map]
  exact List.map_id'' (fun _ => rfl) xs
theorem ordOf_ord {xs : List Int} (h : IsOrd xs) : ordOf (ToD.d xs) = some xs := by
  show (if ordOk (xs.map D.int) = true then some ((xs.map D.int).map D.toI) else none) = some xs
  have e : ordOk (xs.map D.int) = true := by
    unfold ordOk
    rw [toI_int, List.length_map, Bool.and_eq_true, Bool.and_eq_true, decide_eq_true_eq, decide_eq_true_eq, ddl_iff, List.all_eq_true]
    refine ⟨⟨h.1, h.2.1⟩, fun x hx => ?_, h.2.2.2⟩
    obtain ⟨i, hi, rfl⟩ := List.mem_map.mp hx
    obtain ⟨h1, h2⟩ := h.2.2.1 i hi
    show (decide (0 ≤ i) && decide (i ≤ (xs.length : Int) - 1)) = true
    rw [Bool.and_eq_true, decide_eq_true_eq, decide_eq_true_eq]
    omega
  rw [if_pos e, toI_int]
theorem ordOf_is {d : D} {xs : List Int} (h : ordOf d = some xs) : IsOrd xs ∧ d = ToD.d xs := by
  cases d with
  | lst l =>
    have h' : (if ordOk l = true then some (l.map D.toI) else none) = some xs := h
    by_cases e : ordOk l = true
    · rw [if_pos e] at h'
      have e2 := Option.some.inj h'
      unfold ordOk at e
      rw [Bool.and_eq_true, Bool.and_eq_true, decide_eq_true_eq, decide_eq_true_eq, List.all_eq_true] at e
      obtain ⟨h1, h2, h3⟩ := e
      have e3 := all_int h2
      rw [e2] at e3 h3
      have hl : xs.length = l.length := by rw [← e2, List.length_map]
      refine ⟨⟨by omega, by omega, fun x hx => ?_, (ddl_iff xs).mp (by omega)⟩, by show D.lst l = D.lst (xs.map D.int); rw [← e3]⟩
      obtain ⟨i, hi, a, b⟩ := within_int (h2 (D.int x) (by rw [e3]; exact List.mem_map.mpr ⟨x, hx, rfl⟩))
      cases hi
      omega
    · rw [if_neg e] at h'
      cases h'
  | _ => cases h
end DL
namespace DL
open PySem PySem.Spec PyProof.Rows L2
/-! ### the law's own orders -/
instance (a b : Int × Int) : Decidable (le2 a b) := inferInstanceAs (Decidable (_ ∨ _))
def sort2 (l : List (Int × Int)) : List (Int × Int) := l.mergeSort fun a b => decide (le2 a b)
theorem sort2_perm (l : List (Int × Int)) : (sort2 l).Perm l := List.mergeSort_perm _ _
theorem sort2_le (l : List (Int × Int)) : (sort2 l).Pairwise le2 := by
  have h := List.pairwise_mergeSort (le := fun a b => decide (le2 a b)) (fun a b c h1 h2 => by
    simp only [decide_eq_true_eq] at h1 h2 ⊢
    unfold le2 at h1 h2 ⊢
    omega) (fun a b => by
    simp only [Bool.or_eq_true, decide_eq_true_eq]
    unfold le2
    omega) l
  exact h.imp fun h => by simpa using h
theorem sort2_len (l : List (Int × Int)) : (sort2 l).length = l.length := (sort2_perm l).length_eq
def orderKeys (s : Scr) (a m : Int) : List (Int × Int) := (rng 0 m.toNat).map fun k => (mix (cell s (a + k) + 29 * k * k) 9931 997, k)
def orderL (s : Scr) (a m : Int) : List Int := (sort2 (orderKeys s a m)).map fun p => p.2
theorem orderL_perm (s : Scr) (a m : Int) : (orderL s a m).Perm (rng 0 m.toNat) := by
  have h := (sort2_perm (orderKeys s a m)).map (fun p => p.2)
  have e : (orderKeys s a m).map (fun p => p.2) = rng 0 m.toNat := by
    unfold orderKeys
    rw [List.map_map]
    exact List.map_id'' (fun _ => rfl) _
  rw [e] at h
  exact h
theorem rng_mem {lo x : Int} {n : Nat} : x ∈ rng lo n ↔ lo ≤ x ∧ x < lo + n := by
  unfold rng
  rw [List.mem_map]
  constructor
  · rintro ⟨i, hi, rfl⟩
    have := List.mem_range.mp hi
    omega
  · rintro ⟨h1, h2⟩
    exact ⟨(x - lo).toNat, List.mem_range.mpr (by omega), by omega⟩
theorem rng_nodup (lo : Int) (n : Nat) : (rng lo n).Nodup := by
  unfold rng
  rw [List.nodup_iff_pairwise_ne, List.pairwise_map]
  exact (List.nodup_iff_pairwise_ne.mp List.nodup_range).imp fun h e => h (by omega)
theorem orderL_ord {s : Scr} {a m : Int} (h1 : 1 ≤ m) (h2 : m ≤ 16) : IsOrd (orderL s a m) := by
  have hp := orderL_perm s a m
  have hl : (orderL s a m).length = m.toNat := by rw [hp.length_eq, rng_len]
  refine ⟨by omega, by omega, fun x hx => ?_, hp.nodup_iff.mpr (rng_nodup 0 m.toNat)⟩
  have := rng_mem.mp (hp.subset hx)
  omega
theorem orderL_len {s : Scr} {a m : Int} : (orderL s a m).length = m.toNat := by rw [(orderL_perm s a m).length_eq, rng_len]
def whole : D → Bool
  | .int _ => true
  | _ => false
end DL

set_option Elab.async false
set_option linter.all false
set_option maxRecDepth 100000
set_option maxHeartbeats 4000000
namespace DL
open PySem PySem.Spec PyProof.Rows L2
/-! ### the layer's rules, the written part told by its letter -/
section
variable {X : Cx}
theorem kx_list (K : PySem.W.Frag) (h : X.K = K) : IxR X (rIxL K) := by subst h; exact ix_list
theorem kx_tup (K : PySem.W.Frag) (h : X.K = K) : IxR X (rIxT K) := by subst h; exact ix_tup
theorem kr_len (K : PySem.W.Frag) (h : X.K = K) : CallR X (.builtin "len") (rLenQ K) := by subst h; exact cr_lenQ
theorem kr_list (K : PySem.W.Frag) (h : X.K = K) : CallR X (.type "list") (rListQ K) := by subst h; exact cr_listQ
theorem kr_sum (K : PySem.W.Frag) (h : X.K = K) (hc : X.calm = true) : CallR X (.builtin "sum") (rSum K) := by subst h; exact cr_sum hc
theorem kr_max (K : PySem.W.Frag) (h : X.K = K) (hc : X.calm = true) : CallR X (.builtin "max") (rMax K) := by subst h; exact cr_max hc
theorem kr_min (K : PySem.W.Frag) (h : X.K = K) (hc : X.calm = true) : CallR X (.builtin "min") (rMin K) := by subst h; exact cr_min hc
theorem kr_sortedI (K : PySem.W.Frag) (h : X.K = K) : CallR X (.builtin "sorted") (rSortedI K) := by subst h; exact cr_sortedI
theorem kr_sortedP (K : PySem.W.Frag) (h : X.K = K) : CallR X (.builtin "sorted") (rSortedPO K) := by subst h; exact cr_sortedPO
theorem kr_isi (K : PySem.W.Frag) (h : X.K = K) : CallR X (.builtin "isinstance") (rIsi K) := by subst h; exact call_isi
theorem ks_list (K : PySem.W.Frag) (h : X.K = K) : SlR X (rSlL K) := by subst h; exact sl_list
theorem ks_tup (K : PySem.W.Frag) (h : X.K = K) : SlR X (rSlT K) := by subst h; exact sl_tup
theorem ko_in (K : PySem.W.Frag) (h : X.K = K) : OpR X (compareOp .In) (rIn K false) := by subst h; exact op_in_seq
theorem ko_notIn (K : PySem.W.Frag) (h : X.K = K) : OpR X (compareOp .NotIn) (rIn K true) := by subst h; exact op_notIn_seq
theorem hu64 {k : Nat} {A : Around} (hr : Room k A) : A.units + 64 < cLine := by have := hr.un; omega
theorem hu65 {k : Nat} {A : Around} (hr : Room k A) : A.units + 65 < cLine := by have := hr.un; omega
theorem ko_eqD {k : Nat} (K : PySem.W.Frag) (h : X.K = K) (hr : Room k X.A) : OpR X (compareOp .Eq) (rEqD K) := by subst h; exact op_eqD (hu64 hr)
theorem ko_neD {k : Nat} (K : PySem.W.Frag) (h : X.K = K) (hr : Room k X.A) : OpR X (compareOp .NotEq) (rNeD K) := by subst h; exact op_neD (hu64 hr)
theorem ko_inD {k : Nat} (K : PySem.W.Frag) (h : X.K = K) (hr : Room k X.A) : OpR X (compareOp .In) (rInD K) := by subst h; exact op_inD (hu65 hr)
theorem ko_notInD {k : Nat} (K : PySem.W.Frag) (h : X.K = K) (hr : Room k X.A) : OpR X (compareOp .NotIn) (rNotInD K) := by subst h; exact op_notInD (hu65 hr)
theorem kp_list {l tg : Expr} {tl : TE} (K : PySem.W.Frag) (h : X.K = K) (hl : PE X l tl) : PI X tg l (iList K tl) := by subst h; exact pi_list hl
theorem kp_tup {l tg : Expr} {tl : TE} (K : PySem.W.Frag) (h : X.K = K) (hl : PE X l tl) : PI X tg l (iTup K tl) := by subst h; exact pi_tup hl
theorem kt_truth {a : Expr} {ta : TE} (K : PySem.W.Frag) (h : X.K = K) (ha : PE X a ta) (he : ∀ whole, isTrue a X.env whole = (do let v ← whole; standAt a.pos; holding [v] (truthy v))) : PT X a (tTruR K ta) := by subst h; exact pt_truth ha he
theorem ke_bm0 {o : Expr} {to : TE} {name : Str} {apos cpos : Pos} {T : String} {r : V → List V → Hp → VK → Prop} (K : PySem.W.Frag) (h : X.K = K) (p : PE X (.Call (.Attribute o name apos) [] [] cpos) (tBM0 X.K T r to)) : PE X (.Call (.Attribute o name apos) [] [] cpos) (tBM0 K T r to) := by subst h; exact p
theorem ke_bm {o e : Expr} {es : List Expr} {to : TE} {t : TA} {name : Str} {apos cpos : Pos} {T : String} {r : V → List V → Hp → VK → Prop} (K : PySem.W.Frag) (h : X.K = K) (p : PE X (.Call (.Attribute o name apos) (e :: es) [] cpos) (tBM X.K T r to t)) : PE X (.Call (.Attribute o name apos) (e :: es) [] cpos) (tBM K T r to t) := by subst h; exact p
theorem kg_tup {n : Nat} {t : TGs} (K : PySem.W.Frag) (h : X.K = K) {tg : Expr} (p : PG X tg (gTup X.K n t)) : PG X tg (gTup K n t) := by subst h; exact p
theorem ke_lenSet {a : Expr} {ta : TE} {p p2 q pos : Pos} (K : PySem.W.Frag) (h : X.K = K) (hc : X.calm = true) (hg : Gl X "len") (hm : X.mg "len" = none) (hg2 : Gl X "set") (hm2 : X.mg "set" = none) (ha : PE X a ta)
    (na : starEach [a] X.env = (false, eval a X.env) :: starEach [] X.env := by rfl) : PE X (.Call (.Name "len" p) [.Call (.Name "set" p2) [a] [] q] [] pos) (tLenSetQ K ta) := by subst h; exact pe_lenSetQ hc hg hm hg2 hm2 ha na
theorem kp_enum {a : Expr} {ta : TA} {es : List Expr} {k : Nat} {tp p pos : Pos} (K : PySem.W.Frag) (h : X.K = K) (q : PI X (.Tuple es k tp) (.Call (.Name "enumerate" p) [a] [] pos) (iEnum X.K ta)) : PI X (.Tuple es k tp) (.Call (.Name "enumerate" p) [a] [] pos) (iEnum K ta) := by subst h; exact q
theorem kp_zip {a b : Expr} {ta : TA} {es : List Expr} {k : Nat} {tp p pos : Pos} (K : PySem.W.Frag) (h : X.K = K) (q : PI X (.Tuple es k tp) (.Call (.Name "zip" p) [a, b] [] pos) (iZip X.K ta)) : PI X (.Tuple es k tp) (.Call (.Name "zip" p) [a, b] [] pos) (iZip K ta) := by subst h; exact q
theorem ke_listR {e : Expr} {te : L2.St → Hp → (Int → Int → Hp → Prop) → Prop} {p pos : Pos} (hc : X.calm = true) (hg : Gl X "list") (hm : X.mg "list" = none) (he : PRg X e te) (na : starEach [e] X.env = (false, eval e X.env) :: starEach [] X.env := by rfl) : PE X (.Call (.Name "list" p) [e] [] pos) (tLstRg te) := pe_listRg hc hg hm he na
end
/-! ### data that are compared -/
class Pd (α : Type) [Rp α] where
  pd : α → PyData
  dp : ∀ {K : PySem.W.Frag} {H : Hp} {a : α} {v : V}, Rp.rp K H a v → Dp K H v (pd a)
  lay : ∀ a, (pd a).canLay0 = true
  dn : Nat
  dep : ∀ a, (pd a).depth ≤ dn
  eqv : ∀ a b, PyData.eqv (pd a) (pd b) = true ↔ a = b
instance pdInt : Pd Int := ⟨PyData.int, fun h => by rw [show _ = V.int _ from h]; exact .int _, fun _ => by simp [PyData.canLay0], 0, fun _ => by simp [PyData.depth], fun a b => by simp [PyData.eqv]⟩
instance pdBool : Pd Bool := ⟨PyData.bool, fun h => by rw [show _ = V.bl _ from h]; exact .bl _, fun _ => by simp [PyData.canLay0], 0, fun _ => by simp [PyData.depth], fun a b => by simp [PyData.eqv]⟩
section
variable {α β γ : Type} [Rp α] [Pd α] [Rp β] [Pd β] [Rp γ] [Pd γ]
theorem pds_dp {K : PySem.W.Frag} {H : Hp} : ∀ {as : List α} {vs : List V}, Paired (Rp.rp K H) as vs → DpAll K H vs (as.map Pd.pd)
  | _, _, .nil => .nil
  | _, _, .cons r t => .cons (Pd.dp r) (pds_dp t)
theorem pds_lay : ∀ as : List α, PyData.canLayAll0 (as.map Pd.pd) = true
  | [] => by simp [PyData.canLayAll0]
  | a :: as => by simp [PyData.canLayAll0, Pd.lay a, pds_lay as]
theorem pds_dep : ∀ as : List α, PyData.depthAll (as.map Pd.pd) ≤ Pd.dn α
  | [] => by simp [PyData.depthAll]
  | a :: as => by
    have h1 := pds_dep as
    have h2 := Pd.dep a
    simp only [List.map_cons, PyData.depthAll]
    omega
theorem pds_eqv : ∀ as bs : List α, PyData.eqvAll (as.map Pd.pd) (bs.map Pd.pd) = true ↔ as = bs
  | [], [] => by simp [PyData.eqvAll]
  | [], _ :: _ => by simp [PyData.eqvAll]
  | _ :: _, [] => by simp [PyData.eqvAll]
  | a :: as, b :: bs => by
    simp only [List.map_cons, PyData.eqvAll, Bool.and_eq_true, Pd.eqv a b, pds_eqv as bs, List.cons.injEq]
instance pdList : Pd (List α) := ⟨fun l => .list (l.map Pd.pd), fun ⟨p, vs, a, b, c⟩ => by rw [a]; exact .lst (.inl (.inl b)) (pds_dp c), fun l => by simp only [PyData.canLay0]; exact pds_lay l, Pd.dn α + 1, fun l => by
  have := pds_dep l
  simp only [PyData.depth]
  omega, fun a b => by simp only [PyData.eqv]; exact pds_eqv a b⟩
instance pdPair : Pd (α × β) := ⟨fun p => .tuple [Pd.pd p.1, Pd.pd p.2], fun ⟨p, x, y, a, b, c, d⟩ => by rw [a]; exact .tup (.inl (.inl b)) (.cons (Pd.dp c) (.cons (Pd.dp d) .nil)), fun p => by simp [PyData.canLay0, PyData.canLayAll0, Pd.lay p.1, Pd.lay p.2], max (Pd.dn α) (Pd.dn β) + 1, fun p => by
  have h1 := Pd.dep p.1
  have h2 := Pd.dep p.2
  simp only [PyData.depth, PyData.depthAll]
  omega, fun a b => by simp only [PyData.eqv, PyData.eqvAll, Bool.and_eq_true, Pd.eqv, Prod.ext_iff, and_true]⟩
instance pdT3 : Pd (T3 α β γ) := ⟨fun p => .tuple [Pd.pd p.a, Pd.pd p.b, Pd.pd p.c], fun ⟨p, x, y, z, a, b, c, d, f⟩ => by rw [a]; exact .tup (.inl (.inl b)) (.cons (Pd.dp c) (.cons (Pd.dp d) (.cons (Pd.dp f) .nil))), fun p => by simp [PyData.canLay0, PyData.canLayAll0, Pd.lay p.a, Pd.lay p.b, Pd.lay p.c], max (max (Pd.dn α) (Pd.dn β)) (Pd.dn γ) + 1, fun p => by
  have h1 := Pd.dep p.a
  have h2 := Pd.dep p.b
  have h3 := Pd.dep p.c
  simp only [PyData.depth, PyData.depthAll]
  omega, fun a b => by
  obtain ⟨a1, a2, a3⟩ := a
  obtain ⟨b1, b2, b3⟩ := b
  simp only [PyData.eqv, PyData.eqvAll, Bool.and_eq_true, Pd.eqv, T3.mk.injEq, and_true]⟩
/-- equal as data -/
def eqvB (a b : α) : Bool := PyData.eqv (Pd.pd a) (Pd.pd b)
theorem eqvB_iff {a b : α} : eqvB a b = true ↔ a = b := Pd.eqv a b
theorem eqvB_self {a : α} : eqvB a a = true := eqvB_iff.mpr rfl
theorem eqvB_dec [DecidableEq α] {a b : α} : eqvB a b = decide (a = b) := by
  by_cases h : a = b
  · rw [decide_eq_true h, eqvB_iff.mpr h]
  · rw [decide_eq_false h]
    exact Bool.eq_false_iff.mpr fun z => h (eqvB_iff.mp z)
def inB (a : α) (l : List α) : Bool := l.any fun z => eqvB z a
theorem inB_iff {a : α} {l : List α} : inB a l = true ↔ a ∈ l := by
  unfold inB
  rw [List.any_eq_true]
  exact ⟨fun ⟨x, h1, h2⟩ => eqvB_iff.mp h2 ▸ h1, fun h => ⟨a, h, eqvB_self⟩⟩
end
section
variable {G : Cn} {T : List Ty} {te ta tb tc : TE} {α β γ : Type} {r : Rp α} {r' : Rp β}
theorem shaped_of [p : @Pd α r] {a : α} (h : p.dn ≤ 64) : SeqAt.shaped (p.pd a) = true := by
  show ((p.pd a).canLay0 && decide ((p.pd a).depth ≤ 64)) = true
  rw [Bool.and_eq_true, p.lay a, decide_eq_true_eq]
  exact ⟨rfl, Nat.le_trans (p.dep a) h⟩
theorem ev_eqD [p : @Pd α r] {a b : α} (ha : EvH G ta T r a) (hb : EvH G tb T r b) (hd : p.dn ≤ 64 := by decide) : EvD G (tOp (rEqD G.K) ta tb) T rpBool (@eqvB α r p a b) := fun B H σ f Q q =>
  ha B H σ f _ fun v B1 H1 x1 e1 => hb B1 H1 σ (f.ext x1) _ fun u B2 H2 x2 e2 => ⟨_, _, p.dp (r.mono x2.h e1), p.dp e2, shaped_of hd, shaped_of hd, q _ B2 H2 (x1.trans x2) rfl⟩
theorem ev_neD [p : @Pd α r] {a b : α} (ha : EvH G ta T r a) (hb : EvH G tb T r b) (hd : p.dn ≤ 64 := by decide) : EvD G (tOp (rNeD G.K) ta tb) T rpBool (!(@eqvB α r p a b)) := fun B H σ f Q q =>
  ha B H σ f _ fun v B1 H1 x1 e1 => hb B1 H1 σ (f.ext x1) _ fun u B2 H2 x2 e2 => ⟨_, _, p.dp (r.mono x2.h e1), p.dp e2, shaped_of hd, shaped_of hd, q _ B2 H2 (x1.trans x2) rfl⟩
theorem any_pd [p : @Pd α r] {a : α} {l : List α} : (l.map p.pd).any (fun z => PyData.eqv z (p.pd a)) = @inB α r p a l := by
  unfold inB
  rw [List.any_map]
  rfl
theorem ev_inD [p : @Pd α r] {a : α} {l : List α} (ha : EvH G ta T r a) (hb : EvH G tb T (@rpList α r) l) (hd : p.dn ≤ 63 := by decide) : EvD G (tOp (rInD G.K) ta tb) T rpBool (@inB α r p a l) := fun B H σ f Q q =>
  ha B H σ f _ fun v B1 H1 x1 e1 => hb B1 H1 σ (f.ext x1) _ fun u B2 H2 x2 e2 => ⟨_, _, p.dp (r.mono x2.h e1), (@pdList α r p).dp e2, shaped_of (by omega), @shaped_of (List α) (@rpList α r) (@pdList α r p) l (by show p.dn + 1 ≤ 64; omega), q _ B2 H2 (x1.trans x2) (by rw [any_pd]; rfl)⟩
theorem ev_ninD [p : @Pd α r] {a : α} {l : List α} (ha : EvH G ta T r a) (hb : EvH G tb T (@rpList α r) l) (hd : p.dn ≤ 63 := by decide) : EvD G (tOp (rNotInD G.K) ta tb) T rpBool (!(@inB α r p a l)) := fun B H σ f Q q =>
  ha B H σ f _ fun v B1 H1 x1 e1 => hb B1 H1 σ (f.ext x1) _ fun u B2 H2 x2 e2 => ⟨_, _, p.dp (r.mono x2.h e1), (@pdList α r p).dp e2, shaped_of (by omega), @shaped_of (List α) (@rpList α r) (@pdList α r p) l (by show p.dn + 1 ≤ 64; omega), q _ B2 H2 (x1.trans x2) (by rw [any_pd]; rfl)⟩
theorem flat_ints (xs : List Int) : (xs.map V.int).all flatV = true := by
  rw [List.all_eq_true]
  intro v hv
  obtain ⟨i, _, rfl⟩ := List.mem_map.mp hv
  rfl
theorem inV_int {i : Int} {xs : List Int} : inV (.int i) (xs.map V.int) = decide (i ∈ xs) := by
  unfold inV
  rw [List.any_map]
  by_cases h : i ∈ xs
  · rw [decide_eq_true h, List.any_eq_true]
    exact ⟨i, h, by simp [eqV]⟩
  · rw [decide_eq_false h, List.any_eq_false]
    intro j hj z
    refine h ?_
    have : j = i := by simpa [eqV] using z
    exact this ▸ hj
/-- a whole number in a list of them -/
theorem ev_inI {i : Int} {xs : List Int} (ha : EvD G ta T rpInt i) (hb : EvC G tb T rpInt xs) : EvD G (tOp (rIn G.K false) ta tb) T rpBool (decide (i ∈ xs)) := fun B H σ f Q q =>
  ha B H σ f _ fun v B1 H1 x1 e1 => hb B1 H1 σ (f.ext x1) _ fun u B2 H2 x2 e2 => by
    obtain ⟨p, vs, rfl, s, z⟩ := e2
    have e := ints_of z
    subst e
    have ev : v = .int i := e1
    subst ev
    exact ⟨p, _, rfl, .inl s, rfl, flat_ints xs, q _ B2 H2 (x1.trans x2) (by rw [if_neg (by decide), inV_int]; rfl)⟩
theorem ev_ninI {i : Int} {xs : List Int} (ha : EvD G ta T rpInt i) (hb : EvC G tb T rpInt xs) : EvD G (tOp (rIn G.K true) ta tb) T rpBool (!decide (i ∈ xs)) := fun B H σ f Q q =>
  ha B H σ f _ fun v B1 H1 x1 e1 => hb B1 H1 σ (f.ext x1) _ fun u B2 H2 x2 e2 => by
    obtain ⟨p, vs, rfl, s, z⟩ := e2
    have e := ints_of z
    subst e
    have ev : v = .int i := e1
    subst ev
    exact ⟨p, _, rfl, .inl s, rfl, flat_ints xs, q _ B2 H2 (x1.trans x2) (by rw [if_pos rfl, inV_int]; rfl)⟩
/-! two lists glued, a list over and over -/
theorem ev_cat {xs ys : List α} (ha : EvN G ta T r xs) (hb : EvN G tb T r ys) (hz : xs.length + ys.length ≤ 100000) : EvN G (tOp rCat ta tb) T r (xs ++ ys) := fun B H σ f Q q =>
  ha B H σ f _ fun p vs B1 H1 x1 n1 n2 e1 z1 => hb B1 H1 σ (f.ext x1) _ fun p' ws B2 H2 x2 m1 m2 e2 z2 => ⟨p, p', vs, ws, rfl, rfl, x2.h _ _ e1, e2, by rw [← Paired.length z1, ← Paired.length z2]; exact sz_of hz, fun l hl => by
    have x3 := upd_extN (o := .lst (vs ++ ws)) x2.s hl
    exact q l _ B2 _ ((x1.trans x2).trans x3) (x1.h.free (x2.h.free hl)) (x2.s.free hl) upd_same (paired_append (paired_mono x2.b z1) z2)⟩
/-- a list that stands, tracked -/
def EvK (G : Cn) (te : TE) (T : List Ty) {α : Type} (r : Rp α) (xs : List α) : Prop := ∀ B H σ, Fr G B H σ T → ∀ Q : VK, (∀ p vs B' H', Ext B H B' H' → H' p = some (.lst vs) → Paired (r.rp G.K B') xs vs → Q (.ref p) H') → te σ H Q
theorem EvN.k {xs : List α} (h : EvN G te T r xs) : EvK G te T r xs := fun B H σ f Q q => h B H σ f Q fun p vs B' H' x n1 n2 e z => q p vs B' H' x e z
theorem EvD.k {xs : List α} (h : EvD G te T (@rpList α r) xs) : EvK G te T r xs := fun B H σ f Q q => h B H σ f Q fun v B' H' x z => by
  obtain ⟨p, vs, rfl, h1, h2⟩ := z
  exact q p vs B' H' x (x.s _ _ h1) h2
theorem ev_varMK {i : Nat} {a : ML α} (h : T[i]? = some (.ow (@owML α r) a)) : EvK G (tVar i) T r a.l := fun B H σ f Q q => by
  obtain ⟨own, _, sl⟩ := f.sl
  obtain ⟨s, e1, v, rfl, p, vs, rfl, _, _, hp, z⟩ := sl i _ h
  exact ⟨_, e1, q p vs B H (Ext.refl f.bh) hp z⟩
theorem ev_catK {xs ys : List α} (ha : EvK G ta T r xs) (hb : EvK G tb T r ys) (hz : xs.length + ys.length ≤ 100000) : EvN G (tOp rCat ta tb) T r (xs ++ ys) := fun B H σ f Q q =>
  ha B H σ f _ fun p vs B1 H1 x1 e1 z1 => hb B1 H1 σ (f.ext x1) _ fun p' ws B2 H2 x2 e2 z2 => ⟨p, p', vs, ws, rfl, rfl, x2.h _ _ e1, e2, by rw [← Paired.length z1, ← Paired.length z2]; exact sz_of hz, fun l hl => by
    have x3 := upd_extN (o := .lst (vs ++ ws)) x2.s hl
    exact q l _ B2 _ ((x1.trans x2).trans x3) (x1.h.free (x2.h.free hl)) (x2.s.free hl) upd_same (paired_append (paired_mono x2.b z1) z2)⟩
theorem paired_rep {F : α → β → Prop} {xs : List α} {ys : List β} (h : Paired F xs ys) : ∀ n : Nat, Paired F (List.replicate n xs).flatten (List.replicate n ys).flatten
  | 0 => .nil
  | n + 1 => by
    rw [List.replicate_succ, List.replicate_succ, List.flatten_cons, List.flatten_cons]
    exact paired_append h (paired_rep h n)
theorem ev_rep {xs : List α} {k : Int} (ha : EvK G ta T r xs) (hb : EvD G tb T rpInt k) (hk : -1000 ≤ k ∧ k ≤ 1000) (hz : xs.length * k.toNat ≤ 100000) : EvN G (tOp rRep ta tb) T r (List.replicate k.toNat xs).flatten := fun B H σ f Q q =>
  ha B H σ f _ fun p vs B1 H1 x1 e1 z1 => hb B1 H1 σ (f.ext x1) _ fun u B2 H2 x2 e2 => ⟨p, k, vs, rfl, e2, x2.h _ _ e1, by omega, by omega, by rw [← Paired.length z1]; exact sz_of hz, fun l hl => by
    have x3 := upd_extN (o := .lst (List.replicate k.toNat vs).flatten) x2.s hl
    exact q l _ B2 _ ((x1.trans x2).trans x3) (x1.h.free (x2.h.free hl)) (x2.s.free hl) upd_same (paired_rep (paired_mono x2.b z1) _)⟩
theorem ev_listR1 {n : Int} (h : EvD G te T rpInt n) (h0 : 0 ≤ n) (hn : n ≤ 100000) : EvN G (tLstRg (tRg1 te)) T rpInt (rng 0 n.toNat) := fun B H σ f Q q =>
  h B H σ f _ fun v B1 H1 x1 e1 => ⟨n, e1, RgOk.of_le (by omega) (by omega) (by omega) h0, fun l hl => by
    have x3 := upd_extN (o := .lst (rgV 0 n)) x1.s hl
    refine q l _ B1 _ (x1.trans x3) (x1.h.free hl) (x1.s.free hl) upd_same ?_
    have e : rgV 0 n = (rng 0 n.toNat).map V.int := by
      unfold rgV rng
      rw [List.map_map, show (n - 0).toNat = n.toNat by omega]
      rfl
    rw [e]
    exact of_ints⟩
theorem ev_int1 {i : Int} (h : EvD G te T rpInt i) : EvD G (tCB (fun xs H Q => (∃ i, xs = [.int i] ∧ Q (.int i) H) ∨ ∃ k, xs = [.bl k] ∧ Q (.int (if k then 1 else 0)) H) (tCons te tNil)) T rpInt i := fun B H σ f Q q =>
  h B H σ f _ fun v B1 H1 x1 e1 => .inl ⟨i, by rw [show v = V.int i from e1], q _ B1 H1 x1 rfl⟩
theorem ev_intB {k : Bool} (h : EvD G te T rpBool k) : EvD G (tCB (fun xs H Q => (∃ i, xs = [.int i] ∧ Q (.int i) H) ∨ ∃ k, xs = [.bl k] ∧ Q (.int (if k then 1 else 0)) H) (tCons te tNil)) T rpInt (if k then 1 else 0) := fun B H σ f Q q =>
  h B H σ f _ fun v B1 H1 x1 e1 => .inr ⟨k, by rw [show v = V.bl k from e1], q _ B1 H1 x1 rfl⟩
end
end DL

set_option Elab.async false
set_option linter.all false
set_option maxRecDepth 100000
set_option maxHeartbeats 4000000
namespace DL
open PySem PySem.Spec PyProof.Rows L2
section
variable {G : Cn} {T : List Ty} {te ta tb tc : TE} {α β γ : Type} {r : Rp α} {r' : Rp β} {D : Ends} {tz tu tw : TS} {k : L2.St → Hp → Prop}
/-! slices -/
theorem slv_from {xs : List α} {i : Int} (h : 0 ≤ i) : (xs.drop (HT.sIx xs.length 0 (some i))).take (HT.sIx xs.length xs.length none - HT.sIx xs.length 0 (some i)) = xs.drop i.toNat := by
  have e : (some i : Option Int) = some ((i.toNat : Nat) : Int) := by rw [Int.toNat_of_nonneg h]
  rw [e, HT.sIx_nat, HT.sIx_none]
  by_cases hl : i.toNat ≤ xs.length
  · rw [Nat.min_eq_left hl]
    exact List.take_of_length_le (by rw [List.length_drop]; omega)
  · rw [Nat.min_eq_right (by omega), List.drop_of_length_le (Nat.le_refl _), List.drop_of_length_le (by omega)]
    exact List.take_nil
theorem slv_to {xs : List α} {i : Int} (h : 0 ≤ i) : (xs.drop (HT.sIx xs.length 0 none)).take (HT.sIx xs.length xs.length (some i) - HT.sIx xs.length 0 none) = xs.take i.toNat := by
  have e : (some i : Option Int) = some ((i.toNat : Nat) : Int) := by rw [Int.toNat_of_nonneg h]
  rw [e, HT.sIx_nat, HT.sIx_none, List.drop_zero, Nat.sub_zero]
  by_cases hl : i.toNat ≤ xs.length
  · rw [Nat.min_eq_left hl]
  · rw [Nat.min_eq_right (by omega), List.take_of_length_le (Nat.le_refl _), List.take_of_length_le (by omega)]
theorem slv_mid {xs : List α} {i j : Int} (h : 0 ≤ i) (h' : 0 ≤ j) : (xs.drop (HT.sIx xs.length 0 (some i))).take (HT.sIx xs.length xs.length (some j) - HT.sIx xs.length 0 (some i)) = (xs.drop i.toNat).take (j.toNat - i.toNat) := by
  have e : (some i : Option Int) = some ((i.toNat : Nat) : Int) := by rw [Int.toNat_of_nonneg h]
  have e' : (some j : Option Int) = some ((j.toNat : Nat) : Int) := by rw [Int.toNat_of_nonneg h']
  rw [e, e', HT.sIx_nat, HT.sIx_nat]
  by_cases hl : i.toNat ≤ xs.length
  · rw [Nat.min_eq_left hl]
    by_cases hj : j.toNat ≤ xs.length
    · rw [Nat.min_eq_left hj]
    · rw [Nat.min_eq_right (by omega), List.take_of_length_le (by rw [List.length_drop]; omega), List.take_of_length_le (by rw [List.length_drop]; omega)]
  · rw [Nat.min_eq_right (show xs.length ≤ i.toNat by omega), List.drop_of_length_le (Nat.le_refl _), List.drop_of_length_le (by omega), List.take_nil, List.take_nil]
theorem ev_from {xs : List α} {i : Int} (h : EvC G te T r xs) (hi : EvD G ta T rpInt i) (h0 : 0 ≤ i) : EvN G (tSl (rSlL G.K) te (tPart ta) tNoPart) T r (xs.drop i.toNat) := (ev_slice h (eo_part hi) eo_none).is (slv_from h0)
theorem ev_to {xs : List α} {i : Int} (h : EvC G te T r xs) (hi : EvD G ta T rpInt i) (h0 : 0 ≤ i) : EvN G (tSl (rSlL G.K) te tNoPart (tPart ta)) T r (xs.take i.toNat) := (ev_slice h eo_none (eo_part hi)).is (slv_to h0)
theorem ev_mid {xs : List α} {i j : Int} (h : EvC G te T r xs) (hi : EvD G ta T rpInt i) (hj : EvD G tb T rpInt j) (h0 : 0 ≤ i) (h1 : 0 ≤ j) : EvN G (tSl (rSlL G.K) te (tPart ta) (tPart tb)) T r ((xs.drop i.toNat).take (j.toNat - i.toNat)) := (ev_slice h (eo_part hi) (eo_part hj)).is (slv_mid h0 h1)
/-- a slot told otherwise -/
theorem g_as {i : Nat} {a : α} {b : β} (hi : T[i]? = some (.im r a)) (e : ∀ {K : PySem.W.Frag} {B : Hp} {v : V}, r.rp K B a v → r'.rp K B b v) (q : Goes G (T.set i (.im r' b)) k) : Goes G T k := fun B H σ f => by
  obtain ⟨v, e1, z⟩ := f.get hi
  have f' := f.set_im i r' (e z)
  have es : σ.set i (some v) = σ := by
    obtain ⟨h1, h2⟩ := List.getElem?_eq_some_iff.mp e1
    rw [← h2]
    exact List.set_getElem_self h1
  rw [es] at f'
  exact q B H σ f'
theorem g_ofD [ToD α] {i : Nat} {a : α} (hi : T[i]? = some (.im rpD (ToD.d a))) (q : Goes G (T.set i (.im r a)) k) : Goes G T k := g_as hi (fun h => ToD.pr h) q
/-- xs.append(ys.pop(m)) -/
theorem g_appPop {i l j : Nat} {a b : ML α} {y : α} {m : Int} (hi : T[i]? = some (.ow (@owML α r) a)) (hl : T[l]? = some (.ow (@owML α r) b)) (hil : i ≠ l) (hm : EvD G tb T rpInt m) (hj : ixN b.l.length m = some j) (hy : b.l[j]? = some y) (hz : b.l.length ≤ 100000) (hz' : a.l.length < 100000)
    (q : Goes G ((T.set l (.ow (@owML α r) ⟨b.l.eraseIdx j⟩)).set i (.ow (@owML α r) ⟨a.l ++ [y]⟩)) D.nx) :
    Goes G T (tDrop (tBM G.K "list" rAppend (tVar i) (tCons (tBM G.K "list" rPopAt (tVar l) (tCons tb tNil)) tNil)) D) := fun B H σ f => by
  obtain ⟨p, vs, e1, e2, z, k⟩ := f.mutL hi
  obtain ⟨p', ws, d1, d2, z', k'⟩ := f.mutL hl
  obtain ⟨s1, s2, s3, s4⟩ := ixN_lt hj
  refine ⟨_, e1, .inl ⟨rfl, vs, .inl (.inl e2)⟩, _, d1, .inl ⟨rfl, ws, .inl (.inl d2)⟩, hm B H σ f _ fun u B1 H1 x1 h1 => ?_⟩
  obtain ⟨v, hv, rv⟩ := paired_get (paired_mono (K := G.K) (r := r) x1.b z') hy
  refine ⟨p', ws, m, j, v, rfl, by rw [show u = V.int m from h1], x1.h _ _ d2, by omega, by omega, by rw [← Paired.length z']; exact s1, hv, ?_⟩
  have f1 := k' B1 H1 (ws.eraseIdx j) (b.l.eraseIdx j) x1 (paired_erase j (paired_mono x1.b z'))
  have hi1 : (T.set l (.ow (@owML α r) ⟨b.l.eraseIdx j⟩))[i]? = some (.ow (@owML α r) a) := by rw [List.getElem?_set_ne (Ne.symm hil)]; exact hi
  obtain ⟨p2, vs2, c1, c2, z2, k2⟩ := f1.mutL hi1
  rw [e1] at c1
  cases c1
  refine ⟨p, vs2, v, rfl, rfl, c2, by rw [← Paired.length z2]; exact sz_lt hz', ?_⟩
  exact q B1 _ σ (k2 B1 _ (vs2 ++ [v]) (a.l ++ [y]) (Ext.refl f1.bh) (paired_append z2 (.cons rv .nil)))
theorem q_appPop {i l j : Nat} {a b : ML α} {y : α} {m : Int} (hi : T[i]? = some (.ow (@owML α r) a)) (hl : T[l]? = some (.ow (@owML α r) b)) (hil : i ≠ l) (hm : EvD G tb T rpInt m) (hj : ixN b.l.length m = some j) (hy : b.l[j]? = some y) (hz : b.l.length ≤ 100000) (hz' : a.l.length < 100000)
    (q : Goes G ((T.set l (.ow (@owML α r) ⟨b.l.eraseIdx j⟩)).set i (.ow (@owML α r) ⟨a.l ++ [y]⟩)) (tu D)) :
    Goes G T (tSeq (tDrop (tBM G.K "list" rAppend (tVar i) (tCons (tBM G.K "list" rPopAt (tVar l) (tCons tb tNil)) tNil))) tu D) := g_appPop (D := { D with nx := tu D }) hi hl hil hm hj hy hz hz' q
end
/-! ### at -/
theorem atI_toNat {α : Type} {xs : List α} {i : Int} {a : α} (h : 0 ≤ i) (e : xs[i.toNat]? = some a) : atI xs i = some a := by
  have := atI_nat e
  rw [Int.toNat_of_nonneg h] at this
  exact this
theorem ixN_toNat {n : Nat} {i : Int} (h : 0 ≤ i) (h1 : i < n) : ixN n i = some i.toNat := by
  unfold ixN
  rw [if_pos h, if_pos h1]
/-! ### factorials -/
def fac : Nat → Int
  | 0 => 1
  | n + 1 => ((n : Int) + 1) * fac n
theorem fac_pos : ∀ n, 0 < fac n
  | 0 => by decide
  | n + 1 => Int.mul_pos (by omega) (fac_pos n)
theorem fac_mono {m n : Nat} (h : m ≤ n) : fac m ≤ fac n := by
  induction h with
  | refl => exact Int.le_refl _
  | @step n h ih =>
    refine Int.le_trans ih ?_
    show fac n ≤ ((n : Int) + 1) * fac n
    have := fac_pos n
    have h1 : fac n * 1 ≤ fac n * ((n : Int) + 1) := Int.mul_le_mul_of_nonneg_left (by omega) (Int.le_of_lt this)
    rw [Int.mul_comm ((n : Int) + 1)]
    omega
end DL

set_option Elab.async false
set_option linter.all false
set_option maxRecDepth 100000
set_option maxHeartbeats 4000000
namespace DL
open PySem PySem.Spec PyProof.Rows L2
/-! ### lists of whole numbers, in order -/
theorem firstLt_lex (ns ms : List Int) : ∀ k i, min ns.length ms.length = i + k →
    SeqAt.firstLt (fun j => decide (ns.getD j 0 = ms.getD j 0)) (fun j => decide (ns.getD j 0 < ms.getD j 0)) (decide (ns.length < ms.length)) ((List.range (min ns.length ms.length)).drop i) = HT.lexLt (ns.drop i) (ms.drop i)
  | 0, i, h => by
    rw [List.drop_of_length_le (by rw [List.length_range]; omega)]
    show decide (ns.length < ms.length) = _
    by_cases h1 : ns.length ≤ i
    · rw [List.drop_of_length_le h1]
      by_cases h2 : ms.length ≤ i
      · rw [List.drop_of_length_le h2, decide_eq_false (by omega)] <;> rfl
      · rw [List.drop_eq_getElem_cons (by omega : i < ms.length), decide_eq_true (by omega)] <;> rfl
    · rw [List.drop_eq_getElem_cons (by omega : i < ns.length), List.drop_of_length_le (by omega : ms.length ≤ i), decide_eq_false (by omega)] <;> rfl
  | k + 1, i, h => by
    have h1 : i < ns.length := by omega
    have h2 : i < ms.length := by omega
    have hd : (List.range (min ns.length ms.length)).drop i = i :: (List.range (min ns.length ms.length)).drop (i + 1) := by
      rw [List.drop_eq_getElem_cons (by rw [List.length_range]; omega), List.getElem_range]
    rw [hd, List.drop_eq_getElem_cons h1, List.drop_eq_getElem_cons h2, HT.lexLt_cons]
    have e1 : ns.getD i 0 = ns[i] := by rw [List.getD_eq_getElem?_getD, List.getElem?_eq_getElem h1]; rfl
    have e2 : ms.getD i 0 = ms[i] := by rw [List.getD_eq_getElem?_getD, List.getElem?_eq_getElem h2]; rfl
    by_cases hc : ns[i] = ms[i]
    · rw [if_pos hc, SeqAt.firstLt_yes (decide_eq_true (by rw [e1, e2]; exact hc))]
      exact firstLt_lex ns ms k (i + 1) (by omega)
    · rw [if_neg hc, SeqAt.firstLt_no (decide_eq_false (by rw [e1, e2]; exact hc)), e1, e2]
def rLtL (K : PySem.W.Frag) : R2 := fun x y H Q => ∃ a b ns ms, x = .ref a ∧ y = .ref b ∧ SqL K H a (ns.map V.int) ∧ SqL K H b (ms.map V.int) ∧ Q (.bl (HT.lexLt ns ms)) H
theorem op_ltL {X : Cx} (hu : X.A.units < cLine) : OpR X (compareOp .Lt) (rLtL X.K) := by
  intro pins s σ H x y v u Q I rx ry h
  obtain ⟨a, b, ns, ms, rfl, rfl, ha, hb, q⟩ := h
  cases rx
  cases ry
  obtain ⟨its, r1, p1, _⟩ := I.list ha
  obtain ⟨its2, r2, p2, _⟩ := I.list hb
  have i1 : IntsAre its ns := Vals.ints r1
  have i2 : IntsAre its2 ms := Vals.ints r2
  have e1 : its.toArray.size = ns.length := by rw [List.size_toArray]; exact i1.length
  have e2 : its2.toArray.size = ms.length := by rw [List.size_toArray]; exact i2.length
  have at1 : ∀ j (h1 : j < its.toArray.size), ∃ t, its.toArray[j] = .int (ns.getD j 0) t := fun j h1 => PyProof.Rows.IntsAre.int_at i1 _ _ (by simp at h1; simp [h1])
  have at2 : ∀ j (h1 : j < its2.toArray.size), ∃ t, its2.toArray[j] = .int (ms.getD j 0) t := fun j h1 => PyProof.Rows.IntsAre.int_at i2 _ _ (by simp at h1; simp [h1])
  have R := SeqAt.RcLt.lists (A := X.A) (s := s) (e := fun j => decide (ns.getD j 0 = ms.getD j 0)) (r := fun j => decide (ns.getD j 0 < ms.getD j 0)) p1.isList p2.isList hu (fun j h1 h2 => by
    obtain ⟨t, et⟩ := at1 j h1
    obtain ⟨t', et'⟩ := at2 j h2
    rw [et, et']
    have z : (ns.getD j 0 == ms.getD j 0) = decide (ns.getD j 0 = ms.getD j 0) := by
      by_cases q : ns.getD j 0 = ms.getD j 0
      · rw [decide_eq_true q]; exact beq_iff_eq.mpr q
      · rw [decide_eq_false q]; exact beq_eq_false_iff_ne.mpr q
    rw [← z]
    exact SeqAt.EqAt.int_int _ _ _ _) (fun j h1 h2 _ => by
    obtain ⟨t, et⟩ := at1 j h1
    obtain ⟨t', et'⟩ := at2 j h2
    rw [et, et']
    exact Ob.RcOp.lt_int _ _ _ _)
  rw [e1, e2] at R
  have e3 := firstLt_lex ns ms (min ns.length ms.length) 0 (by omega)
  rw [List.drop_zero, List.drop_zero, List.drop_zero] at e3
  rw [e3] at R
  have z : wpAny (model X.prog X.w) X.A (compareOp .Lt (.ref a) (.ref b)) (EP X pins σ Q) X.xe s := R X.prog X.w X.xe (EP X pins σ Q) ⟨.bl _, H, I, rfl, q⟩
  exact z
theorem ko_ltL {X : Cx} {k : Nat} (K : PySem.W.Frag) (h : X.K = K) (hr : Room k X.A) : OpR X (compareOp .Lt) (rLtL K) := by subst h; exact op_ltL (by have := hr.un; omega)
theorem ev_ltL {G : Cn} {T : List Ty} {ta tb : TE} {xs ys : List Int} (ha : EvC G ta T rpInt xs) (hb : EvC G tb T rpInt ys) : EvD G (tOp (rLtL G.K) ta tb) T rpBool (HT.lexLt xs ys) := fun B H σ f Q q =>
  ha B H σ f _ fun v B1 H1 x1 e1 => hb B1 H1 σ (f.ext x1) _ fun u B2 H2 x2 e2 => by
    obtain ⟨p, vs, rfl, s, z⟩ := e1.ext x2
    obtain ⟨p', ws, rfl, s', z'⟩ := e2
    have a1 := ints_of z
    have a2 := ints_of z'
    subst a1 a2
    exact ⟨p, p', xs, ys, rfl, rfl, s, s', q _ B2 H2 (x1.trans x2) rfl⟩
/-! ### the law's end -/
def SpLaw (K : PySem.W.Frag) : Sp := SpX K (fun s : Scr => [.im rpScr s]) (fun s => s.cells.length ≤ 63) rpBool fun _ => .ok true
theorem spLaw_of {K : PySem.W.Frag} {H : Hp} {a : Addr} {ns : List Int} (hl : ns.length ≤ 63) (hS : SqL K H a (ns.map V.int)) : SpLaw K [.ref a] H (fun v _ => v = .bl true) fun _ _ _ => False :=
  ⟨H, ⟨ns⟩, Same.refl _, hl, ⟨⟨a, rfl, hS⟩, trivial⟩, fun b e v B' H' _ z => by cases e; exact z, fun C e => by cases e⟩
/-- what the top has written of a def: read by k_is -/
theorem defT_mk {K : PySem.W.Frag} {h : Heap} {mg : Str → Option Value} {x : Str} {st : Stmt} {ps : List Str} {f : Addr} {od an : Option Addr} {sl : Array (Option Value)} {oc kV dc pm cd ct : Value} (X : K.In h) (G : h.Ns mainGlobals mg)
    (a : PySem.W.nsIn K mainGlobals x = some (some (.ref f))) (l : K.lookup f = some ⟨oc, od, .func (PySem.W.fnOf x x (defArgs st) (defBody st) (defScope st) .none kV dc pm an cd ct), sl⟩) (c : PySem.W.codeIn K cd x = true) (k : PySem.W.keepIn K (.ref f) = true)
    (hb : ∀ (kV doc pm : Value) (an : Option Addr) (cdv ct : Value) (us : List Value), us.length = ps.length → bindArgs (PySem.W.fnOf x x (defArgs st) (defBody st) (defScope st) .none kV doc pm an cdv ct) ⟨us, []⟩ = pure (ps.zip us)) : DefT K mg x st ps :=
  ⟨f, _, fun_mk l c k, PySem.W.mg_of X G a, (fun_mk l c k).binds hb⟩
theorem ecls_mk {K : PySem.W.Frag} {h : Heap} {mg : Str → Option Value} {x : Str} {C : Addr} (X : K.In h) (G : h.Ns mainGlobals mg) (a : PySem.W.nsIn K mainGlobals x = some (some (.ref C))) (e : PySem.W.excIn K C [.type "ValueError", .type "Exception", .type "BaseException", .type "object"] "ValueError.__new__" = true)
    (k : PySem.W.keepIn K (.ref C) = true) (s : PySem.W.subIn K (.ref C) (.type "BaseException") = some true) (t : PySem.W.typeIn K (.ref C) = some (.type "type")) (d : PySem.W.hasDictIn K C = true) (f : PySem.W.subIn K (.ref C) (.ref C) = some true) : ECls K mg x C := ⟨PySem.W.mg_of X G a, e, k, s, t, d, f⟩
end DL

set_option Elab.async false
set_option linter.all false
set_option maxRecDepth 100000
set_option maxHeartbeats 4000000
namespace DL
open PySem PySem.Spec PyProof.Rows L2
/-! ### try .. except -/
section
variable {G : Cn} {T : List Ty} {te ta tb tc : TE} {α β γ : Type} {r : Rp α} {r' : Rp β} {D : Ends} {tz tu tw : TS} {ι : Type} {As : ι → List Ty} {pre : ι → Prop} {f : ι → Except Addr β} {fn : ι → Except Addr (List β)} {E : L2.St → XK} {tr : TA} {x : ι}
theorem ev_callT {b : β} (ha : EvA G tr T (As x)) (hp : pre x) (hf : f x = .ok b) : EvD G (tCallS (SpX G.K As pre r' f) E tr) T r' b := fun B H σ fr Q q => ha B H σ fr _ fun vs B1 H1 x1 ok =>
  ⟨B1, x, x1.s, hp, ok, fun b' e v B' H' y z => q v B' H' (x1.trans y) (by rw [hf] at e; cases e; exact z), fun C e => by rw [hf] at e; cases e⟩
theorem ev_callTN {b : List β} (ha : EvA G tr T (As x)) (hp : pre x) (hf : fn x = .ok b) : EvN G (tCallS (SpN G.K As pre r' fn) E tr) T r' b := fun B H σ fr Q q => ha B H σ fr _ fun vs B1 H1 x1 ok =>
  ⟨B1, x, x1.s, hp, ok, fun b' e p ws B' H' y n1 n2 h z => q p ws B' H' (x1.trans y) (x1.h.free n1) n2 h (by rw [hf] at e; cases e; exact z), fun C e => by rw [hf] at e; cases e⟩
/-- an expression within a try that raises: what is wished holds of the frame as it stands -/
def EvXT (G : Cn) (te : TE) (T : List Ty) (W : L2.St → Hp → Prop) : Prop := Goes G T W → ∀ B H σ, Fr G B H σ T → ∀ Q, te σ H Q
theorem Ext.raise {B H H' : Hp} (bh : Same B H) (s : Same H H') : Ext B H B H' := ⟨Same.refl _, s, bh.trans s, fun _ _ => rfl⟩
theorem ex_callT {C : Addr} (ha : EvAH G tr T (As x)) (hp : pre x) (hf : f x = .error C) : EvXT G (tCallS (SpX G.K As pre r' f) E tr) T (fun σ H => E σ (.ref C) none H) := fun w B H σ fr Q => ha B H σ fr _ fun vs B1 H1 x1 ok =>
  ⟨H1, x, Same.refl _, hp, ok, fun b' e => (by rw [hf] at e; cases e), fun C' e H' s => by rw [hf] at e; cases e; exact w B1 H' σ ((fr.ext x1).ext (Ext.raise x1.s s))⟩
theorem ex_callTN {C : Addr} (ha : EvAH G tr T (As x)) (hp : pre x) (hf : fn x = .error C) : EvXT G (tCallS (SpN G.K As pre r' fn) E tr) T (fun σ H => E σ (.ref C) none H) := fun w B H σ fr Q => ha B H σ fr _ fun vs B1 H1 x1 ok =>
  ⟨H1, x, Same.refl _, hp, ok, fun b' e => (by rw [hf] at e; cases e), fun C' e H' s => by rw [hf] at e; cases e; exact w B1 H' σ ((fr.ext x1).ext (Ext.raise x1.s s))⟩
theorem gt_drop {W : L2.St → Hp → Prop} (h : EvXT G te T W) (w : Goes G T W) : Goes G T (tDrop te D) := fun B H σ fr => h w B H σ fr _
theorem gt_ret {W : L2.St → Hp → Prop} (h : EvXT G te T W) (w : Goes G T W) : Goes G T (tRet te D) := fun B H σ fr => h w B H σ fr _
theorem gt_asg {g : TG} {W : L2.St → Hp → Prop} (h : EvXT G te T W) (w : Goes G T W) : Goes G T (tAsg te g D) := fun B H σ fr => h w B H σ fr _
theorem q_tryDrop {te : Ends → TE} {a : α} (h : EvD G (te { D with nx := tu D }) T r a) (q : Goes G T (tu D)) : Goes G T (tSeq (fun D σ H => tDrop (te D) D σ H) tu D) := g_drop (D := { D with nx := tu D }) h q
theorem q_tryDropX {te : Ends → TE} {W : L2.St → Hp → Prop} (h : EvXT G (te { D with nx := tu D }) T W) (w : Goes G T W) : Goes G T (tSeq (fun D σ H => tDrop (te D) D σ H) tu D) := gt_drop (D := { D with nx := tu D }) h w
/-- the clause takes it -/
theorem g_only {c C : Addr} {ts : Addr → Value → Option Addr → TS} {Wout : WX} (e : PySem.W.exmOne G.K (.ref C) (.ref c) = some true) (h : ∀ a, Goes G T (ts a (.ref C) none D)) : Goes G T (fun σ H => wOnly G.K (.ref c) ts Wout D (.ref C) none σ H) := fun B H σ fr =>
  ⟨true, e, fun _ a _ => h a B H σ fr, fun z => Bool.noConfusion z⟩
end
theorem ECls.exm {K : PySem.W.Frag} {mg mg' : Str → Option Value} {x y : Str} {C c : Addr} (hc : ECls K mg y c) (s : PySem.W.subIn K (.ref C) (.ref c) = some true) : PySem.W.exmOne K (.ref C) (.ref c) = some true := PySem.W.exm_ref hc.sb hc.hd hc.ty s
theorem ECls.exms {K : PySem.W.Frag} {mg : Str → Option Value} {x : Str} {C : Addr} (hc : ECls K mg x C) : PySem.W.exmOne K (.ref C) (.ref C) = some true := PySem.W.exm_ref hc.sb hc.hd hc.ty hc.sf
end DL
namespace DL
theorem perm_of_sub {α : Type} [DecidableEq α] : ∀ (xs ys : List α), xs.Nodup → (∀ x ∈ xs, x ∈ ys) → ys.length ≤ xs.length → xs.Perm ys
  | [], ys, _, _, h => by
    have : ys = [] := List.length_eq_zero_iff.mp (by simpa using h)
    subst this
    exact .nil
  | x :: xs, ys, hn, hs, hl => by
    obtain ⟨h1, h2⟩ := List.nodup_cons.mp hn
    have hx : x ∈ ys := hs x List.mem_cons_self
    have p1 : ys.Perm (x :: ys.erase x) := List.perm_cons_erase hx
    have l1 : ys.length = (ys.erase x).length + 1 := p1.length_eq
    have ih := perm_of_sub xs (ys.erase x) h2 (fun y hy => (List.mem_erase_of_ne (fun z => h1 (by rw [← z]; exact hy))).mpr (hs y (List.mem_cons_of_mem _ hy))) (by rw [List.length_cons] at hl; omega)
    exact (ih.cons x).trans p1.symm
end DL
namespace DL
open PySem PySem.Spec PyProof.Rows L2
/-! ### lists by their places -/
theorem getD_int {xs : List Int} {i : Nat} (h : i < xs.length) : xs[i]? = some (xs.getD i 0) := by rw [List.getD_eq_getElem?_getD, List.getElem?_eq_getElem h]; rfl
theorem rng_get' {lo : Int} {n i : Nat} (h : i < n) : (rng lo n)[i]? = some (lo + i) := by
  unfold rng
  rw [List.getElem?_map, List.getElem?_eq_getElem (by rw [List.length_range]; exact h), List.getElem_range] <;> rfl
theorem idxOf_at {xs : List Int} (hn : xs.Nodup) {i : Nat} {x : Int} (h : xs[i]? = some x) : xs.idxOf x = i := by
  obtain ⟨hl, e⟩ := List.getElem?_eq_some_iff.mp h
  have hm : x ∈ xs := e ▸ List.getElem_mem hl
  have h1 : xs.idxOf x < xs.length := List.idxOf_lt_length_of_mem hm
  have h2 : xs[xs.idxOf x] = x := List.getElem_idxOf h1
  exact (List.getElem_inj hn).mp (h2.trans e.symm)
theorem ord_mem {xs : List Int} (ho : IsOrd xs) {j : Int} (h0 : 0 ≤ j) (h1 : j < xs.length) : j ∈ xs := by
  have hs : ∀ x ∈ xs, x ∈ rng 0 xs.length := fun x hx => rng_mem.mpr (by have := ho.2.2.1 x hx; omega)
  have hp : xs.Perm (rng 0 xs.length) := perm_of_sub xs _ ho.2.2.2 hs (by rw [rng_len]; exact Nat.le_refl _)
  exact hp.symm.subset (rng_mem.mpr ⟨h0, by omega⟩)
theorem ord_get {xs : List Int} (ho : IsOrd xs) {i : Nat} (h : i < xs.length) : ∃ x, xs[i]? = some x ∧ 0 ≤ x ∧ x < xs.length := by
  refine ⟨xs[i], List.getElem?_eq_getElem h, ?_⟩
  exact ho.2.2.1 _ (List.getElem_mem h)
theorem ord_getD {xs : List Int} (ho : IsOrd xs) {i : Nat} (h : i < xs.length) : 0 ≤ xs.getD i 0 ∧ xs.getD i 0 < xs.length := by
  obtain ⟨x, h1, h2⟩ := ord_get ho h
  rw [List.getD_eq_getElem?_getD, h1]
  exact h2
theorem ord_inj {xs : List Int} (ho : IsOrd xs) {i j : Nat} (hi : i < xs.length) (hj : j < xs.length) (e : xs.getD i 0 = xs.getD j 0) : i = j := by
  have h1 := idxOf_at ho.2.2.2 (getD_int hi)
  have h2 := idxOf_at ho.2.2.2 (getD_int hj)
  rw [e] at h1
  omega
theorem nodup_of_get {xs : List Int} (h : ∀ i j, i < xs.length → j < xs.length → xs.getD i 0 = xs.getD j 0 → i = j) : xs.Nodup := by
  rw [List.nodup_iff_pairwise_ne, List.pairwise_iff_getElem]
  intro i j hi hj hij e
  have := h i j hi hj (by rw [List.getD_eq_getElem?_getD, List.getD_eq_getElem?_getD, List.getElem?_eq_getElem hi, List.getElem?_eq_getElem hj]; exact e)
  omega
theorem ord_of_get {xs : List Int} (h1 : 1 ≤ xs.length) (h2 : xs.length ≤ 16) (hb : ∀ i, i < xs.length → 0 ≤ xs.getD i 0 ∧ xs.getD i 0 < xs.length) (hi : ∀ i j, i < xs.length → j < xs.length → xs.getD i 0 = xs.getD j 0 → i = j) : IsOrd xs := by
  refine ⟨h1, h2, fun x hx => ?_, nodup_of_get hi⟩
  obtain ⟨i, hl, e⟩ := List.getElem_of_mem hx
  have := hb i hl
  rw [List.getD_eq_getElem?_getD, List.getElem?_eq_getElem hl] at this
  rw [← e]
  exact this
theorem ext_getD {xs ys : List Int} (hl : xs.length = ys.length) (h : ∀ i, i < xs.length → xs.getD i 0 = ys.getD i 0) : xs = ys := by
  apply List.ext_getElem hl
  intro i h1 h2
  have := h i h1
  rw [List.getD_eq_getElem?_getD, List.getD_eq_getElem?_getD, List.getElem?_eq_getElem h1, List.getElem?_eq_getElem h2] at this
  exact this
theorem ord_rng {n : Nat} (h1 : 1 ≤ n) (h2 : n ≤ 16) : IsOrd (rng 0 n) := by
  refine ⟨by rw [rng_len]; exact h1, by rw [rng_len]; exact h2, fun x hx => ?_, rng_nodup 0 n⟩
  have := rng_mem.mp hx
  rw [rng_len]
  omega
theorem foldl_take {α β : Type} {f : β → α → β} {xs : List α} {i : Nat} {x : α} {b : β} (h : xs[i]? = some x) : (xs.take (i + 1)).foldl f b = f ((xs.take i).foldl f b) x := by
  rw [List.take_add_one, h, List.foldl_append]
  rfl
end DL

set_option Elab.async false
set_option linter.all false
set_option maxRecDepth 100000
/-! a law's own layer, tenth part: branches that meet again -/
namespace DL
open PySem PySem.Spec PyProof.Rows L2
variable {G : Cn} {T : List Ty} {D : Ends} {c : TT} {tz tw tu : TS}
theorem q_ifJ {b : Bool} {T' : List Ty} (h : EvT G c T b) (h1 : b = true → Goes G T' (tu D) → Goes G T (tz { D with nx := tu D })) (h2 : b = false → Goes G T' (tu D) → Goes G T (tw { D with nx := tu D })) (q : Goes G T' (tu D)) : Goes G T (tSeq (tIfS c tz tw) tu D) := q_if h (fun hb => h1 hb q) (fun hb => h2 hb q)
theorem q_whenJ {b : Bool} {T' : List Ty} (h : EvT G c T b) (h1 : b = true → Goes G T' (tu D) → Goes G T (tz { D with nx := tu D })) (h2 : b = false → Goes G T' (tu D) → Goes G T (tu D)) (q : Goes G T' (tu D)) : Goes G T (tSeq (tIfS c tz tNext) tu D) := q_when h (fun hb => h1 hb q) (fun hb => h2 hb q)
theorem ord_perm {xs ys : List Int} (h : ys.Perm xs) (ho : IsOrd xs) : IsOrd ys := by
  obtain ⟨h1, h2, h3, h4⟩ := ho
  have hl := h.length_eq
  exact ⟨by rw [hl]; exact h1, by rw [hl]; exact h2, fun x hx => by rw [hl]; exact h3 x (h.mem_iff.mp hx), h.nodup_iff.mpr h4⟩
/-! ### except X as e: return isinstance(e, ValueError) -/
/-- what a base of own error classes must say -/
structure EBase (K : PySem.W.Frag) (mg : Str → Option Value) (x : Str) (S : Addr) : Prop where
  mg : mg x = some (.ref S)
  sb : PySem.W.subIn K (.ref S) (.type "BaseException") = some true
  ty : PySem.W.typeIn K (.ref S) = some (.type "type")
  hd : PySem.W.hasDictIn K S = true
/-- C stands under S and under ValueError -/
structure EUp (K : PySem.W.Frag) (C S : Addr) : Prop where
  sub : PySem.W.subIn K (.ref C) (.ref S) = some true
  kit : PySem.W.kitOne K (.ref C) (.type "ValueError") = some true
  exc : ExcC K C
theorem EBase.exm {K : PySem.W.Frag} {mg : Str → Option Value} {x : Str} {S C : Addr} (b : EBase K mg x S) (u : EUp K C S) : PySem.W.exmOne K (.ref C) (.ref S) = some true := PySem.W.exm_ref b.sb b.hd b.ty u.sub
/-- isinstance(e, c), e what the clause holds -/
def rIsEg (K : PySem.W.Frag) (cls : Value) (d : Option Addr) (a : Addr) : List V → Hp → VK → Prop := fun xs H Q => ∃ D, cls = .ref D ∧ d = none ∧ ExcC K D ∧ rIsE K D a xs H Q
theorem call_isEg {X : Cx} {a : Addr} {oe : Obj} {pn : List (Addr × Obj)} {cls : Value} {d : Option Addr} (hz : Zc cls d oe) (hf : ∃ vs, oe.data = .fields vs) : CallR (X.suite a ((a, oe) :: pn)) (.builtin "isinstance") (rIsEg X.K cls d a) := by
  intro pins s σ H xs us Q I r h
  obtain ⟨D, rfl, rfl, C, h⟩ := h
  exact call_isE C hz hf pins s σ H xs us Q I r h
theorem g_asBase {i : Nat} {c C : Addr} {Wout : WX} (hi : i < T.length) (e : PySem.W.exmOne G.K (.ref C) (.ref c) = some true) (x : ExcC G.K C) (k : PySem.W.kitOne G.K (.ref C) (.type "ValueError") = some true) (q : RetD G D.rt rpBool true) :
    Goes G T (fun σ H => wAs G.K (.ref c) i (fun a cls d => tRet (tCB (rIsEg G.K cls d a) (tCons (tVar i) (tCons (tC (.ty "ValueError")) tNil)))) Wout D (.ref C) none σ H) := fun B H σ fr =>
  ⟨true, e, fun _ a _ => ⟨.ref a, by rw [List.getElem?_set_self (by rw [fr.len]; exact hi)], C, rfl, rfl, x, .ty "ValueError", .type "ValueError", true, rfl, fun u r => by cases r; rfl, k, q (.bl true) B H fr.ext0 rfl⟩, fun z => Bool.noConfusion z⟩
/-! ### tuples of any length -/
structure TL (α : Type) where
  l : List α
instance rpTL {α : Type} [Rp α] : Rp (TL α) := ⟨fun K H as v => ∃ p vs, v = .ref p ∧ H p = some (.tup vs) ∧ Paired (Rp.rp K H) as.l vs, fun e ⟨p, vs, a, b, c⟩ => ⟨p, vs, a, e _ _ b, paired_mono e c⟩⟩
instance toTL {α : Type} [Rp α] [ToD α] : ToD (TL α) := ⟨fun l => DL.D.tup (l.l.map ToD.d), fun ⟨p, vs, a, b, c⟩ => ⟨p, vs, a, b, rpDs_paired.mpr (paired_map (fun _ _ h => ToD.rp h) c)⟩, fun ⟨p, vs, a, b, c⟩ => ⟨p, vs, a, b, paired_unmap (F := Rp.rp _ _) (G := rpDv _ _) (m := ToD.d) (fun _ _ h => ToD.pr h) (rpDs_paired.mp c)⟩⟩
instance tnTL {α : Type} [Rp α] : Tn (TL α) := ⟨fun _ => "tuple", fun ⟨p, vs, a, b, c⟩ => by rw [a]; exact .base (.tup b)⟩
section
variable {G : Cn} {T : List Ty} {te ta tb tc : TE} {α β γ : Type} {r : Rp α} {D : Ends}
theorem ev_tupL {t : TA} {xs : List α} (h : EvL G t T r xs) (hl : xs.length ≤ 100000) : EvD G (tTup t) T (@rpTL α r) ⟨xs⟩ := fun B H σ f Q q =>
  h B H σ f _ fun vs B1 H1 x1 e1 => ⟨by rw [← Paired.length e1]; exact sz_of hl, fun p hp => by
    have x2 := upd_ext (o := .tup vs) x1.s hp
    exact q (.ref p) _ _ (x1.trans x2) ⟨p, vs, rfl, upd_same, paired_mono x2.b e1⟩⟩
def rTupQ (K : PySem.W.Frag) : List V → Hp → VK → Prop := fun xs H Q => ∃ p ys, xs = [.ref p] ∧ ((SqL K H p ys ∧ ∀ l, H l = none → Q (.ref l) (upd H l (.tup ys))) ∨ (SqT K H p ys ∧ Q (.ref p) H))
theorem kr_tuple {X : Cx} (K : PySem.W.Frag) (h : X.K = K) : CallR X (.type "tuple") (rTupQ K) := by subst h; exact call_tuple_of
theorem ev_tuple {xs : List α} (h : EvC G te T r xs) : EvD G (tCB (rTupQ G.K) (tCons te tNil)) T (@rpTL α r) ⟨xs⟩ := fun B H σ f Q q =>
  h B H σ f _ fun v B1 H1 x1 e1 => by
    obtain ⟨p, vs, rfl, s, z⟩ := e1
    refine ⟨p, vs, rfl, .inl ⟨s, fun l hl => ?_⟩⟩
    have x2 := upd_ext (o := .tup vs) x1.s hl
    exact q (.ref l) _ _ (x1.trans x2) ⟨l, vs, rfl, upd_same, paired_mono x2.b z⟩
theorem ev_inT {i : Int} {xs : TL Int} (ha : EvD G ta T rpInt i) (hb : EvD G tb T (@rpTL Int rpInt) xs) : EvD G (tOp (rIn G.K false) ta tb) T rpBool (decide (i ∈ xs.l)) := fun B H σ f Q q =>
  ha B H σ f _ fun v B1 H1 x1 e1 => hb B1 H1 σ (f.ext x1) _ fun u B2 H2 x2 e2 => by
    obtain ⟨p, vs, rfl, s, z⟩ := e2
    have e := ints_of z
    subst e
    have ev : v = .int i := e1
    subst ev
    exact ⟨p, _, rfl, .inr (.inl (.of (x2.s _ _ s))), rfl, flat_ints xs.l, q _ B2 H2 (x1.trans x2) (by rw [if_neg (by decide), inV_int]; rfl)⟩
theorem ev_ninT {i : Int} {xs : TL Int} (ha : EvD G ta T rpInt i) (hb : EvD G tb T (@rpTL Int rpInt) xs) : EvD G (tOp (rIn G.K true) ta tb) T rpBool (!decide (i ∈ xs.l)) := fun B H σ f Q q =>
  ha B H σ f _ fun v B1 H1 x1 e1 => hb B1 H1 σ (f.ext x1) _ fun u B2 H2 x2 e2 => by
    obtain ⟨p, vs, rfl, s, z⟩ := e2
    have e := ints_of z
    subst e
    have ev : v = .int i := e1
    subst ev
    exact ⟨p, _, rfl, .inr (.inl (.of (x2.s _ _ s))), rfl, flat_ints xs.l, q _ B2 H2 (x1.trans x2) (by rw [if_pos rfl, inV_int]; rfl)⟩
theorem EvD.dt {l : List DL.D} (h : EvD G te T rpD (.tup l)) : EvD G te T (@rpTL DL.D rpD) ⟨l⟩ := fun B H σ f Q q => h B H σ f Q fun v B' H' x z => q v B' H' x (by
  obtain ⟨p, vs, a, b, c⟩ := z
  exact ⟨p, vs, a, b, rpDs_paired.mp c⟩)
theorem ev_lenT {xs : TL α} (h : EvD G te T (@rpTL α r) xs) : EvD G (tCB (rLenQ G.K) (tCons te tNil)) T rpInt (xs.l.length : Int) := fun B H σ f Q q =>
  h B H σ f _ fun v B1 H1 x1 e1 => by
    obtain ⟨p, vs, rfl, s, z⟩ := e1
    refine ⟨p, vs, rfl, .inr (.inl (.of (x1.s _ _ s))), ?_⟩
    rw [← Paired.length z]
    exact q _ B1 H1 x1 rfl
theorem ev_ixT {xs : TL α} {i : Int} {a : α} (hl : EvD G ta T (@rpTL α r) xs) (hi : EvD G tb T rpInt i) (e : atI xs.l i = some a) : EvD G (tOp (rIxT G.K) ta tb) T r a := fun B H σ f Q q =>
  hl B H σ f _ fun v B1 H1 x1 e1 => hi B1 H1 σ (f.ext x1) _ fun u B2 H2 x2 e2 => by
    obtain ⟨p, vs, rfl, s, z⟩ := e1
    obtain ⟨y, h1, h2⟩ := atI_paired (paired_mono x2.b z) e
    exact ⟨p, vs, i, y, rfl, e2, .inl (.of (x2.s _ _ (x2.b _ _ s))), h1, q _ B2 H2 (x1.trans x2) h2⟩
theorem ev_min2 {i j : Int} (ha : EvD G ta T rpInt i) (hb : EvD G tb T rpInt j) : EvD G (tCB (fun xs H Q => ∃ i j, xs = [.int i, .int j] ∧ Q (.int (if j < i then j else i)) H) (tCons ta (tCons tb tNil))) T rpInt (if j < i then j else i) := fun B H σ f Q q =>
  ha B H σ f _ fun v B1 H1 x1 e1 => hb B1 H1 σ (f.ext x1) _ fun u B2 H2 x2 e2 => ⟨i, j, by rw [show v = .int i from e1, show u = .int j from e2], q _ B2 H2 (x1.trans x2) rfl⟩
theorem ev_max2 {i j : Int} (ha : EvD G ta T rpInt i) (hb : EvD G tb T rpInt j) : EvD G (tCB (fun xs H Q => ∃ i j, xs = [.int i, .int j] ∧ Q (.int (if j > i then j else i)) H) (tCons ta (tCons tb tNil))) T rpInt (if j > i then j else i) := fun B H σ f Q q =>
  ha B H σ f _ fun v B1 H1 x1 e1 => hb B1 H1 σ (f.ext x1) _ fun u B2 H2 x2 e2 => ⟨i, j, by rw [show v = .int i from e1, show u = .int j from e2], q _ B2 H2 (x1.trans x2) rfl⟩
theorem ex_arg1 {sp : Sp} {dvs : List V} {E' : XK} {tr : TA} {W : Hp → Prop} (h : EvX G te T W) : EvX G (tCall sp dvs E' (tCons te tr)) T W := fun B H σ fr w Q => h B H σ fr w _
end
/-! ### rows sorted, plainly -/
def ins1 (x : Int) : List Int → List Int
  | [] => [x]
  | y :: r => if x ≤ y then x :: y :: r else y :: ins1 x r
def isort : List Int → List Int
  | [] => []
  | x :: r => ins1 x (isort r)
theorem ins1_perm (x : Int) : ∀ l, (ins1 x l).Perm (x :: l)
  | [] => List.Perm.refl _
  | y :: r => by
    unfold ins1
    split
    · exact List.Perm.refl _
    · exact ((ins1_perm x r).cons y).trans (List.Perm.swap x y r)
theorem isort_perm : ∀ l, (isort l).Perm l
  | [] => List.Perm.refl _
  | x :: r => (ins1_perm x (isort r)).trans ((isort_perm r).cons x)
theorem ins1_le (x : Int) : ∀ l : List Int, l.Pairwise (· ≤ ·) → (ins1 x l).Pairwise (· ≤ ·)
  | [], _ => List.pairwise_singleton _ _
  | y :: r, h => by
    have h1 := List.pairwise_cons.mp h
    unfold ins1
    split
    · rename_i hxy
      refine List.pairwise_cons.mpr ⟨fun z hz => ?_, h⟩
      rcases List.mem_cons.mp hz with rfl | hz
      · exact hxy
      · exact Int.le_trans hxy (h1.1 z hz)
    · rename_i hxy
      refine List.pairwise_cons.mpr ⟨fun z hz => ?_, ins1_le x r h1.2⟩
      rcases List.mem_cons.mp ((ins1_perm x r).mem_iff.mp hz) with rfl | hz
      · omega
      · exact h1.1 z hz
theorem isort_le : ∀ l : List Int, (isort l).Pairwise (· ≤ ·)
  | [] => List.Pairwise.nil
  | x :: r => ins1_le x _ (isort_le r)
theorem isort_is {l m : List Int} (hp : m.Perm l) (hs : m.Pairwise (· ≤ ·)) : m = isort l :=
  List.Perm.eq_of_pairwise (le := fun a b : Int => a ≤ b) (fun a b _ _ h1 h2 => Int.le_antisymm h1 h2) hs (isort_le l) (hp.trans (isort_perm l).symm)
end DL

set_option Elab.async false
set_option linter.all false
set_option maxRecDepth 100000
set_option maxHeartbeats 4000000
/-! a law's own layer, eleventh part: owned things moved -/
namespace DL
open PySem PySem.Spec PyProof.Rows L2
section
variable {G : Cn} {T : List Ty} {D : Ends} {k : L2.St → Hp → Prop} {α β : Type} {r : Rp α} {r' : Rp β}
/-- a name takes over what another one owns -/
theorem g_move {i j : Nat} {w : Ow α} {a : α} (hj : T[j]? = some (.ow w a)) (hij : i ≠ j) (hi : i < T.length) (q : Goes G ((T.set j .any).set i (.ow w a)) D.nx) : Goes G T (tAsg (tVar j) (gName i) D) := fun B H σ f => by
  obtain ⟨own, o0, sl⟩ := f.sl
  obtain ⟨s, e1, v, e2, z⟩ := sl j _ hj
  subst e2
  refine ⟨v, e1, q B H (σ.set i (some v)) ⟨f.bh, f.b0, f.h0, f.n0, by rw [List.length_set, List.length_set, List.length_set]; exact f.len, fun p => if own p = some j then some i else if own p = some i then none else own p, fun p n h => ?_, fun n t e => ?_⟩⟩
  · dsimp only at h
    split at h
    · rename_i h1; exact o0 p j h1
    · split at h
      · cases h
      · exact o0 p n h
  · by_cases hn : n = i
    · subst hn
      rw [List.getElem?_set_self (by rw [List.length_set]; exact hi)] at e
      cases e
      refine ⟨some v, List.getElem?_set_self (by rw [f.len]; exact hi), v, rfl, w.fr z (Same.refl _) fun p hp _ => ⟨?_, rfl, rfl⟩⟩
      show (if own p = some j then some n else _) = some n
      rw [if_pos hp]
    · rw [List.getElem?_set_ne (Ne.symm hn)] at e
      rw [List.getElem?_set_ne (Ne.symm hn)]
      by_cases hnj : n = j
      · subst hnj
        have hjl : n < T.length := (List.getElem?_eq_some_iff.mp hj).1
        rw [List.getElem?_set_self hjl] at e
        cases e
        exact ⟨some v, e1, trivial⟩
      · rw [List.getElem?_set_ne (Ne.symm hnj)] at e
        obtain ⟨s, e3, z3⟩ := sl n t e
        refine ⟨s, e3, ?_⟩
        have hF : ∀ p, own p = some n → (if own p = some j then some i else if own p = some i then none else own p) = some n := fun p hp => by
          rw [if_neg (by rw [hp]; intro z; cases z; exact hnj rfl), if_neg (by rw [hp]; intro z; cases z; exact hn rfl)]
          exact hp
        cases t with
        | im r a => exact z3
        | ow r a =>
          obtain ⟨u, e4, z4⟩ := z3
          exact ⟨u, e4, r.fr z4 (Same.refl _) fun p hp _ => ⟨hF p hp, rfl, rfl⟩⟩
        | un => exact z3
        | any => trivial
theorem q_move {tu : TS} {i j : Nat} {w : Ow α} {a : α} (hj : T[j]? = some (.ow w a)) (hij : i ≠ j) (hi : i < T.length) (q : Goes G ((T.set j .any).set i (.ow w a)) (tu D)) : Goes G T (tSeq (tAsg (tVar j) (gName i)) tu D) := g_move (D := { D with nx := tu D }) hj hij hi q
/-- an owned list seen as one of another kind -/
theorem g_mapM {i : Nat} {a : ML α} {b : ML β} (hi : T[i]? = some (.ow (@owML α r) a)) (e : ∀ {K : PySem.W.Frag} {B : Hp} {vs : List V}, Paired (r.rp K B) a.l vs → Paired (r'.rp K B) b.l vs) (q : Goes G (T.set i (.ow (@owML β r') b)) k) : Goes G T k := fun B H σ f => q B H σ (by
  obtain ⟨own, o0, sl⟩ := f.sl
  refine ⟨f.bh, f.b0, f.h0, f.n0, by rw [List.length_set]; exact f.len, own, o0, fun j t h => ?_⟩
  by_cases hj : i = j
  · subst hj
    have hl : i < T.length := (List.getElem?_eq_some_iff.mp hi).1
    rw [List.getElem?_set_self hl] at h
    cases h
    obtain ⟨s, e1, v, e2, p, vs, h1, h2, h3, h4, h5⟩ := sl i _ hi
    exact ⟨s, e1, v, e2, p, vs, h1, h2, h3, h4, e h5⟩
  · rw [List.getElem?_set_ne hj] at h
    exact sl j t h)
theorem g_toDM [ToD α] {i : Nat} {a : ML α} (hi : T[i]? = some (.ow (@owML α r) a)) (q : Goes G (T.set i (.ow (@owML DL.D rpD) ⟨a.l.map ToD.d⟩)) k) : Goes G T k := g_mapM (b := ⟨a.l.map ToD.d⟩) hi (fun h => paired_map (fun _ _ z => ToD.rp z) h) q
variable {ta te : TE} {tr : TA} {ι : Type} {As : ι → List Ty} {pre : ι → Prop} {f : ι → Except Addr β} {x : ι} {E : XK}
/-- a call that reads what is owned: what it gives is read as it then stands -/
theorem ev_callH {b : β} (ha : EvAH G tr T (As x)) (hp : pre x) (hf : f x = .ok b) : EvH G (tCall (SpX G.K As pre r' f) [] E tr) T r' b := fun B H σ fr Q q => ha B H σ fr _ fun vs B1 H1 x1 ok => by
  rw [List.append_nil]
  exact ⟨H1, x, Same.refl _, hp, ok, fun b' e v B' H' y z => q v B1 H' (x1.trans ⟨Same.refl _, y.h, x1.s.trans y.h, fun _ _ => rfl⟩) (by rw [hf] at e; cases e; exact r'.mono y.s z), fun C e => by rw [hf] at e; cases e⟩
theorem EvN.toDs [ToD α] {xs : List α} (h : EvN G te T r xs) : EvN G te T rpD (xs.map ToD.d) := fun B H σ f Q q => h B H σ f Q fun p vs B' H' x n1 n2 e z => q p vs B' H' x n1 n2 e (paired_map (fun _ _ y => ToD.rp y) z)
/-- a try's body told as it stands -/
theorem q_try {tb : Ends → TS} {tu : TS} (h : Goes G T (tb { D with nx := tu D } { D with nx := tu D })) : Goes G T (tSeq (fun D σ H => tb D D σ H) tu D) := h
theorem atI_getD {α : Type} {l : List α} {i : Int} {d : α} (h0 : 0 ≤ i) (h : i < l.length) : atI l i = some (l.getD i.toNat d) := atI_toNat h0 (by
  have hl : i.toNat < l.length := by omega
  rw [List.getD_eq_getElem?_getD, List.getElem?_eq_getElem hl]
  rfl)
end
end DL

set_option Elab.async false
set_option linter.all false
set_option maxRecDepth 100000
set_option maxHeartbeats 4000000
/-! a law's own layer, twelfth part: a dict of whole numbers that is filled in place -/
namespace DL
open PySem PySem.Spec PyProof.Rows L2
/-- its keys in order; what stands at them is True -/
structure MS where
  ks : List Int
def dkv (ks : List Int) : List (Key × V) := ks.map fun i => (Sum.inl i, V.bl true)
instance owMS : Ow MS := ⟨fun K B H a v F => ∃ p, v = .ref p ∧ F p ∧ B p = none ∧ H p = some (.dK (dkv a.ks)), fun ⟨p, e, f, n, h⟩ sb k => by
  obtain ⟨k1, k2, k3⟩ := k p f (by rw [h]; intro z; cases z)
  exact ⟨p, e, k1, k3.trans n, k2.trans h⟩⟩
theorem valV_dkv (i : Int) : ∀ ks : List Int, valV (dkv ks) (Sum.inl i : Key) = if i ∈ ks then some (V.bl true) else none
  | [] => rfl
  | k :: ks => by
    by_cases h : k = i
    · subst h
      rw [if_pos List.mem_cons_self]
      exact valV_pos (p := ((Sum.inl k : Key), V.bl true)) rfl
    · have : valV (dkv (k :: ks)) (Sum.inl i : Key) = valV (dkv ks) (Sum.inl i : Key) := valV_neg (p := ((Sum.inl k : Key), V.bl true)) (fun z => h (Sum.inl.inj z))
      rw [this, valV_dkv i ks]
      by_cases hm : i ∈ ks
      · rw [if_pos hm, if_pos (List.mem_cons_of_mem _ hm)]
      · rw [if_neg hm, if_neg (fun z => (List.mem_cons.mp z).elim (fun e => h e.symm) hm)]
section
variable {G : Cn} {T : List Ty} {D : Ends} {te ta tb : TE} {tu : TS}
theorem g_newD {i : Nat} (q : Goes G (T.set i (.ow owMS ⟨[]⟩)) D.nx) : Goes G T (tAsg tDNewK (gName i) D) := fun B H σ f p hp => by
  have x1 := upd_extN (o := .dK []) f.bh hp
  exact q B _ _ (f.set_ow i owMS (F := fun q => q = p) x1.s x1.b (fun q hq => by rw [hq]; exact hp) (fun q hq => ⟨by
    cases hH : H q with
    | none => exact absurd hH hq
    | some o => exact x1.h q o hH, x1.n q hq⟩) ⟨p, rfl, rfl, f.bh.free hp, upd_same⟩)
theorem q_newD {i : Nat} (q : Goes G (T.set i (.ow owMS ⟨[]⟩)) (tu D)) : Goes G T (tSeq (tAsg tDNewK (gName i)) tu D) := g_newD (D := { D with nx := tu D }) q
theorem ev_dnin {d : Nat} {a : MS} {i : Int} (hd : T[d]? = some (.ow owMS a)) (h : EvD G te T rpInt i) : EvD G (tDNotIn te (tVar d)) T rpBool (!decide (i ∈ a.ks)) := fun B H σ f Q q =>
  h B H σ f _ fun v B1 H1 x1 e1 => by
    obtain ⟨w, F, e2, ⟨p, rfl, hF, hB, hH⟩, _⟩ := (f.ext x1).mut hd
    refine ⟨.ref p, e2, p, valV (dkv a.ks) (.inl i), rfl, ?_, ?_⟩
    · rw [show v = kV (.inl i) from e1]
      exact DGet.k hH
    · rw [valV_dkv]
      refine q _ B1 H1 x1 ?_
      show V.bl _ = V.bl _
      by_cases hm : i ∈ a.ks
      · rw [if_pos hm, decide_eq_true hm] <;> rfl
      · rw [if_neg hm, decide_eq_false hm] <;> rfl
theorem g_dput {d : Nat} {a : MS} {i : Int} (hd : T[d]? = some (.ow owMS a)) (hv : EvD G ta T rpBool true) (h : EvD G tb T rpInt i) (hn : i ∉ a.ks) (hz : a.ks.length < 100000) (q : Goes G (T.set d (.ow owMS ⟨a.ks ++ [i]⟩)) D.nx) :
    Goes G T (sDPut (tVar d) tb ta D) := fun B H σ f =>
  hv B H σ f _ fun v B1 H1 x1 e1 => by
    obtain ⟨w, F0, e2, ⟨p, rfl, hF0, hB0, hH0⟩, _⟩ := (f.ext x1).mut hd
    refine ⟨.ref p, e2, h B1 H1 σ (f.ext x1) _ fun u B2 H2 x2 e3 => ?_⟩
    obtain ⟨w, F, e4, ⟨p', hp', hF, hB, hH⟩, k⟩ := ((f.ext x1).ext x2).mut hd
    have hpp : p = p' := by
      rw [hp', e2] at e4
      cases e4
      rfl
    subst hpp
    have hval : valV (dkv a.ks) (Sum.inl i : Key) = none := by rw [valV_dkv, if_neg hn]
    refine ⟨p, upd H2 p (.dK (putK (dkv a.ks) (.inl i) (.bl true))), rfl, ?_, ?_⟩
    · rw [show u = kV (.inl i) from e3, show v = .bl true from e1]
      exact DPut.k hH (by unfold dkv; rw [List.length_map]; exact sz_lt hz)
    · refine q B2 _ σ (k MS owMS (MS.mk (a.ks ++ [i])) B2 _ (fun q o hq => ?_) (Same.refl _) (fun _ _ => rfl) (fun q hq hnF => ?_) ⟨p, hp', hF, hB, ?_⟩)
      · rw [upd_ne (ne_of_none hq hB)]
        exact x2.s q o hq
      · rw [upd_ne fun z => hnF (by rw [z]; exact hF)]
      · rw [putK_new _ hval, upd_same]
        unfold dkv
        rw [List.map_append] <;> rfl
theorem q_dput {d : Nat} {a : MS} {i : Int} (hd : T[d]? = some (.ow owMS a)) (hv : EvD G ta T rpBool true) (h : EvD G tb T rpInt i) (hn : i ∉ a.ks) (hz : a.ks.length < 100000) (q : Goes G (T.set d (.ow owMS ⟨a.ks ++ [i]⟩)) (tu D)) :
    Goes G T (tSeq (sDPut (tVar d) tb ta) tu D) := g_dput (D := { D with nx := tu D }) hd hv h hn hz q
end
end DL

set_option Elab.async false
set_option linter.all false
set_option maxRecDepth 100000
set_option maxHeartbeats 4000000
/-! a law's own layer, thirteenth part: a def that takes over an owned list -/
namespace DL
open PySem PySem.Spec PyProof.Rows L2
def delH (H : Hp) (p : Addr) : Hp := fun q => if q = p then none else H q
theorem delH_ne {H : Hp} {p q : Addr} (h : q ≠ p) : delH H p q = H q := if_neg h
theorem delH_some {H : Hp} {p q : Addr} {o : HO} (h : delH H p q = some o) : q ≠ p ∧ H q = some o := by
  unfold delH at h
  split at h
  · cases h
  · rename_i hq; exact ⟨hq, h⟩
@[reducible] def rpAny : Rp Unit := ⟨fun _ _ _ _ => True, fun _ h => h⟩
/-- f(xs, y), xs an owned list that is given away: what comes is told, and xs is told no more -/
def SpO (K : PySem.W.Frag) {α γ β : Type} (r1 : Rp α) (r2 : Rp γ) (pre : List α × γ → Prop) (r : Rp β) (f : List α × γ → β) : Sp := fun vs H Q E => ∃ (B : Hp) (x : List α × γ) (p : Addr) (ws : List V) (v : V), Same B H ∧ pre x ∧ vs = [.ref p, v] ∧ B p = none ∧ H p = some (.lst ws) ∧ Paired (r1.rp K B) x.1 ws ∧ r2.rp K B x.2 v ∧
  ∀ u B' H', Ext B (delH H p) B' H' → r.rp K B' (f x) u → Q u H'
theorem Fr.entryO {K : PySem.W.Frag} {B H : Hp} {α γ : Type} {r1 : Rp α} {r2 : Rp γ} {l : List α} {a : γ} {p : Addr} {ws : List V} {v : V} {N : List Str} (hN : 2 ≤ N.length) (s : Same B H) (hB : B p = none) (hH : H p = some (.lst ws)) (hw : Paired (r1.rp K B) l ws) (hv : r2.rp K B a v) :
    Fr ⟨K, B, delH H p⟩ B H (L2.start N [.ref p, v]) ([.ow (@owML α r1) ⟨l⟩, .im r2 a] ++ List.replicate (N.length - 2) .un) := by
  have f := Fr.entry (K := K) (B := B) (H := H) (vs := [.ref p, v]) (As := [.im rpAny (), .im r2 a]) (N := N) s ⟨trivial, hv, trivial⟩
  obtain ⟨own, o0, sl⟩ := f.sl
  refine ⟨s, Same.refl _, fun q o h => (delH_some h).2, fun q h => rfl, by rw [f.len]; rfl, fun q => if q = p then some 0 else none, fun q i e => ?_, fun i t e => ?_⟩
  · dsimp only at e
    split at e
    · rename_i hq; subst hq; exact if_pos rfl
    · cases e
  · cases i with
    | zero =>
      cases e
      obtain ⟨z, e1, _⟩ := sl 0 _ rfl
      have e2 : (L2.start N [.ref p, v])[0]? = some (some (.ref p)) := rfl
      exact ⟨_, e2, .ref p, rfl, p, ws, rfl, if_pos rfl, hB, hH, hw⟩
    | succ j =>
      obtain ⟨z, e1, q⟩ := sl (j + 1) t e
      refine ⟨z, e1, ?_⟩
      have hm : t ∈ ((.im r2 a) :: List.replicate (N.length - 2) Ty.un) := List.mem_of_getElem? (i := j) e
      rcases List.mem_cons.mp hm with rfl | hm
      · exact q
      · rw [List.eq_of_mem_replicate hm] at q ⊢
        exact q
section
variable {P : Program} {w : World} {K : PySem.W.Frag} {mg : Str → Option Value} {base : Heap} {x qual : Str} {st : Stmt} {fa : Addr} {fd : FuncData} {N ps : List Str} {k : Nat} {α β γ : Type} {r1 : Rp α} {r2 : Rp γ} {r : Rp β} {pre : List α × γ → Prop} {f : List α × γ → β}
theorem def_okO (F : Fun K x qual st fa fd) (S : FnScope N ps (defScope st)) (len : ps.length = 2) (hN : 2 ≤ N.length)
    (hbody : ∀ (cdv : Value) (A : Around) (outer : List Env) (s : Shared) (H : Hp) (E : XK), Room k (A.deeper (envOfC qual (defScope st) s.heap.objs.size fa cdv)) →
      ∃ t, PSs (cxOf (L2.CX P w) P w K mg base N qual (defScope st) fa cdv A outer s H E) (defBody st) t ∧ ∀ (B H1 : Hp) (x : List α × γ) (Q : VK), pre x → RetD ⟨K, B, H1⟩ Q r (f x) →
        Goes ⟨K, B, H1⟩ ([.ow (@owML α r1) ⟨x.1⟩, .im r2 x.2] ++ List.replicate (N.length - 2) .un) (t { nx := fun _ H' => Q .non H', rt := Q })) :
    FnOk P w K mg base (L2.CX P w) (k + 1) fa fd ps (SpO K r1 r2 pre r f) := by
  refine F.okX S (fun vs H Q E h => ?_) (fun cdv A outer s H vs Q E hr h => ?_)
  · obtain ⟨B, x, p, ws, v, _, _, rfl, _⟩ := h
    exact len.symm
  · obtain ⟨B, x, p, ws, v, sB, hp, rfl, hB, hH, hw, hv, h1⟩ := h
    obtain ⟨t, ht, hg⟩ := hbody cdv A outer s H E hr
    exact ⟨t, ht, hg B (delH H p) x Q hp (fun u B' H' y z => h1 u B' H' y z) B H _ (Fr.entryO hN sB hB hH hw hv)⟩
end
section
variable {G : Cn} {T : List Ty} {D : Ends} {te : TE} {tu : TS} {α β γ : Type} {r1 : Rp α} {r2 : Rp γ} {r : Rp β} {pre : List α × γ → Prop} {f : List α × γ → β} {E : XK}
theorem g_callO {i j : Nat} {l : List α} {a : γ} {b : β} (hj : T[j]? = some (.ow (@owML α r1) ⟨l⟩)) (h : EvD G te T r2 a) (hp : pre (l, a)) (hf : f (l, a) = b) (q : Goes G ((T.set j .any).set i (.im r b)) D.nx) :
    Goes G T (tAsg (tCall (SpO G.K r1 r2 pre r f) [] E (tCons (tVar j) (tCons te tNil))) (gName i) D) := fun B H σ fr => by
  obtain ⟨own, o0, sl⟩ := fr.sl
  obtain ⟨s, e1, v, e2, p, ws, rfl, hF, hB, hH, hw⟩ := sl j _ hj
  subst e2
  refine ⟨.ref p, e1, h B H σ fr _ fun u B1 H1 x1 hu => ?_⟩
  have fr1 := fr.ext x1
  refine ⟨B1, (l, a), p, ws, u, x1.s, hp, rfl, x1.none hH hB, x1.h _ _ hH, paired_mono x1.b hw, hu, fun z B' H' y hz => ?_⟩
  rw [hf] at hz
  refine q B' H' (σ.set i (some z)) (Fr.set_im ?_ i r hz)
  have hp0 : G.H0 p = none := o0 p j hF
  have keep : ∀ q, q ≠ p → ∀ o, H1 q = some o → H' q = some o := fun q hq o ho => y.h q o (by rw [delH_ne hq]; exact ho)
  refine ⟨y.s, fr1.b0.trans y.b, fun q o ho => ?_, fun q hq => ?_, by rw [List.length_set]; exact fr.len, fun q => if q = p then none else own q, fun q n hn => ?_, fun n t e => ?_⟩
  · have hq : q ≠ p := fun z => by subst z; rw [hp0] at ho; cases ho
    exact keep q hq o (fr1.h0 q o ho)
  · have hqp : q ≠ p := fun z => by subst z; exact hq hp0
    have hq1 : H1 q ≠ none := fun z => hq (fr1.h0.free z)
    rw [y.n q (by rw [delH_ne hqp]; exact hq1), fr1.n0 q hq]
  · dsimp only at hn
    split at hn
    · cases hn
    · exact o0 q n hn
  · by_cases hnj : n = j
    · subst hnj
      have hl : n < T.length := (List.getElem?_eq_some_iff.mp hj).1
      rw [List.getElem?_set_self hl] at e
      cases e
      exact ⟨_, e1, trivial⟩
    · rw [List.getElem?_set_ne (Ne.symm hnj)] at e
      obtain ⟨s2, e3, z3⟩ := sl n t e
      have z4 := z3.ext x1
      refine ⟨s2, e3, ?_⟩
      cases t with
      | im r a => obtain ⟨v, ev, q⟩ := z4; exact ⟨v, ev, r.mono y.b q⟩
      | ow r a =>
        obtain ⟨v, ev, q⟩ := z4
        refine ⟨v, ev, r.fr q y.b fun q hq hn => ?_⟩
        have hqp : q ≠ p := fun z => by subst z; rw [hF] at hq; exact hnj (Option.some.inj hq).symm
        refine ⟨by show (if q = p then none else own q) = some n; rw [if_neg hqp]; exact hq, ?_, y.n q (by rw [delH_ne hqp]; exact hn)⟩
        cases hH1 : H1 q with
        | none => exact absurd hH1 hn
        | some o => exact keep q hqp o hH1
      | un => exact z4
      | any => trivial
theorem q_callO {i j : Nat} {l : List α} {a : γ} {b : β} (hj : T[j]? = some (.ow (@owML α r1) ⟨l⟩)) (h : EvD G te T r2 a) (hp : pre (l, a)) (hf : f (l, a) = b) (q : Goes G ((T.set j .any).set i (.im r b)) (tu D)) :
    Goes G T (tSeq (tAsg (tCall (SpO G.K r1 r2 pre r f) [] E (tCons (tVar j) (tCons te tNil))) (gName i)) tu D) := g_callO (D := { D with nx := tu D }) hj h hp hf q
end
end DL

set_option Elab.async false
set_option linter.all false
set_option maxRecDepth 100000
set_option maxHeartbeats 4000000
/-! a law's own layer, fourteenth part: xs[lo::2] -/
namespace DL
open PySem PySem.Spec PyProof.Rows L2
def ixK (lo : Option Int) (n : Nat) : List Nat := sliceRange (sliceBounds lo none (some 2) n).1 (sliceBounds lo none (some 2) n).2.1 (sliceBounds lo none (some 2) n).2.2
def pickK {α : Type} (xs : List α) (lo : Option Int) : List α := (ixK lo xs.length).filterMap (xs[·]?)
theorem ixK_len (lo : Option Int) (n : Nat) : (ixK lo n).length ≤ n := by
  have h : ∀ a : Int, 0 ≤ a → (sliceRange a (n : Int) 2).length ≤ n := fun a ha => by
    unfold sliceRange
    rw [List.length_map, List.length_range]
    rw [if_pos (by decide)]
    split <;> omega
  unfold ixK
  cases lo with
  | none => exact h 0 (Int.le_refl _)
  | some i =>
    refine h _ ?_
    show 0 ≤ max 0 (min _ _)
    exact Int.le_max_left _ _
theorem pick_rel {α β : Type} {F : α → β → Prop} {xs : List α} {ys : List β} (h : Paired F xs ys) : ∀ is : List Nat, Paired F (is.filterMap (xs[·]?)) (is.filterMap (ys[·]?))
  | [] => .nil
  | i :: is => by
    have ih := pick_rel h is
    have hl := Paired.length h
    rw [List.filterMap_cons, List.filterMap_cons]
    cases hx : xs[i]? with
    | none =>
      have : ys[i]? = none := by
        rw [List.getElem?_eq_none_iff] at hx ⊢
        omega
      rw [this]
      exact ih
    | some x =>
      obtain ⟨y, h1, h2⟩ := paired_get h hx
      rw [h1]
      exact .cons h2 ih
theorem pickK_rel {α β : Type} {F : α → β → Prop} {xs : List α} {ys : List β} (h : Paired F xs ys) (lo : Option Int) : Paired F (pickK xs lo) (pickK ys lo) := by
  unfold pickK
  rw [← Paired.length h]
  exact pick_rel h _
theorem pickK_len {α : Type} (xs : List α) (lo : Option Int) : (pickK xs lo).length ≤ xs.length := Nat.le_trans (List.length_filterMap_le _ _) (ixK_len lo xs.length)
/-- xs[lo::2] of a list: a new list -/
def rSlK (K : PySem.W.Frag) : V → Option Int → Hp → VK → Prop := fun x lo H Q => ∃ a xs, x = .ref a ∧ SqL K H a xs ∧ ∀ p, H p = none → Q (.ref p) (upd H p (.lst (pickK xs lo)))
def tSlK (K : PySem.W.Frag) (te : TE) (tl : TO) : TE := fun σ H Q => te σ H fun x H1 => tl σ H1 fun l H2 => rSlK K x l H2 Q
theorem pe_sliceK {X : Cx} (K : PySem.W.Frag) (hK : X.K = K) {e : Expr} {lo : Option Expr} {te : TE} {tl : TO} {p2 p3 pos : Pos} {j : Nat} (he : PE X e te) (hl : PO X lo tl) (h2 : PE X (.Constant (.int 2) j p3) (tC (.int 2))) : PE X (.Subscript e (.Slice lo none (some (.Constant (.int 2) j p3)) p2) pos) (tSlK K te tl) := by
  subst hK
  refine ⟨fun pins s σ H Q I h => ?_⟩
  refine Subscript_ (thn (he.run pins s σ H _ I h) fun v s1 ⟨x, H1, I1, r1, q1⟩ => ?_)
  refine wpAny_Slice (thn (hl.run pins s1 σ H1 _ I1 q1) fun vl s2 ⟨l, H2, I2, pl, q2⟩ => ?_)
  rw [evalPart_none]
  refine wpAny_pure ?_
  rw [evalPart_some]
  refine thn (h2.run pins s2 σ H2 (fun u H3 => u = .int 2 ∧ H3 = H2) I2 ⟨rfl, rfl⟩) fun vs s3 ⟨u, H3, I3, r3, q3, q4⟩ => ?_
  subst q3 q4
  obtain ⟨t, rfl⟩ := r3
  have I4 : Inv X pins σ H3 { s3 with heap := s3.heap.push { cls := .type "slice", data := .fields #[vl, .none, .int 2 t] } } := I3.kept (t' := s3.toks) fun b ob q => Heap.get?_push_of_some _ q
  obtain ⟨a, xs, rfl, hx, q⟩ := q2
  cases r1
  obtain ⟨its, r, ht, hz⟩ := I4.list hx
  have hlen := r.length
  show wpAny (model X.prog X.w) X.A (subscriptTail e (.Slice lo none (some (.Constant (.int 2) j p3)) p2) (.ref a) (.ref s3.heap.objs.size)) (EP X pins σ Q) X.xe { s3 with heap := s3.heap.push { cls := .type "slice", data := .fields #[vl, .none, .int 2 t] } }
  refine tail_any (ops := [.ref a, .ref s3.heap.objs.size]) ht.isList.typeIs slot_list_getitem.lookup ?_ (by with_unfolding_all rfl)
  refine wpAny_getItem_list_slice ht.isList (Heap.IsSliceOf.new ..) pl .none (.int 2 t) (by simp) ?_ (by rw [List.size_toArray] <;> omega)
  have e : slicePick its.toArray l none (some 2) = (pickK its l).toArray := by
    unfold slicePick pickK ixK
    rw [List.size_toArray]
    congr 1
    exact congrArg (fun f => List.filterMap f _) (funext fun i => by simp)
  rw [e]
  refine ⟨.ref _, _, I4.laid (t' := s3.toks) (o := .lst (pickK xs l)) (fun b ob q => Heap.get?_push_of_some _ q) (Nat.le_refl _) ?_, rfl, q _ (I4.hok.fresh (Nat.le_refl _))⟩
  exact ⟨Nat.le_trans (pickK_len xs l) hz, _, 0, pickK_rel r l, Heap.get?_push_size _ rfl⟩
section
variable {G : Cn} {T : List Ty} {te ta : TE} {α : Type} {r : Rp α}
theorem ev_sliceK {xs : List α} {tl : TO} {lo : Option Int} (h : EvC G te T r xs)
    (hl : ∀ B H σ, Fr G B H σ T → ∀ Q : Option Int → Hp → Prop, (∀ B' H', Ext B H B' H' → Q lo H') → tl σ H Q) : EvN G (tSlK G.K te tl) T r (pickK xs lo) := fun B H σ f Q q =>
  h B H σ f _ fun v B1 H1 x1 e1 => hl B1 H1 σ (f.ext x1) _ fun B2 H2 x2 => by
    obtain ⟨p, vs, rfl, s, z⟩ := e1.ext x2
    refine ⟨p, vs, rfl, s, fun l hl => ?_⟩
    have x3 := upd_extN (o := .lst (pickK vs lo)) x2.s hl
    exact q l _ B2 _ ((x1.trans x2).trans x3) (x1.h.free (x2.h.free hl)) (x2.s.free hl) upd_same (pickK_rel z lo)
variable {D : Ends} {tu : TS}
/-- extend by a list that stands -/
theorem g_extK {i : Nat} {a : ML α} {ys : List α} (hi : T[i]? = some (.ow (@owML α r) a)) (h : EvK G te T r ys) (hz : a.l.length + ys.length ≤ 100000) (q : Goes G (T.set i (.ow (@owML α r) ⟨a.l ++ ys⟩)) D.nx) :
    Goes G T (tDrop (tBM G.K "list" rExtend (tVar i) (tCons te tNil)) D) := fun B H σ f => by
  obtain ⟨p, vs, e1, e2, z, k⟩ := f.mutL hi
  refine ⟨_, e1, .inl ⟨rfl, vs, .inl (.inl e2)⟩, h B H σ f _ fun b ws B1 H1 x1 e w => ⟨p, b, vs, ws, rfl, rfl, x1.h _ _ e2, e, by rw [← Paired.length z, ← Paired.length w]; exact sz_of hz, ?_⟩⟩
  exact q B1 _ σ (k B1 H1 (vs ++ ws) (a.l ++ ys) x1 (paired_append (paired_mono x1.b z) w))
end
end DL

set_option Elab.async false
set_option linter.all false
set_option maxRecDepth 100000
set_option maxHeartbeats 4000000
/-! a law's own layer, fifteenth part: written dicts with numbers for keys, tuples of four, comparing by what is told as data -/
namespace DL
open PySem PySem.Spec PyProof.Rows L2
/-- a dict that is read alone, its keys whole numbers -/
structure DI (β : Type) where
  kv : List (Int × β)
def rpPr {β : Type} [Rp β] (K : PySem.W.Frag) (H : Hp) (a : Int × β) (b : Key × V) : Prop := b.1 = Sum.inl a.1 ∧ Rp.rp K H a.2 b.2
instance rpDI {β : Type} [Rp β] : Rp (DI β) := ⟨fun K H a v => ∃ p kvs, v = .ref p ∧ H p = some (.dK kvs) ∧ Paired (rpPr K H) a.kv kvs, fun e ⟨p, kvs, a, b, c⟩ => ⟨p, kvs, a, e _ _ b, Paired.mapP c fun _ _ z => ⟨z.1, Rp.mono e z.2⟩⟩⟩
def lookI {β : Type} (i : Int) : List (Int × β) → Option β
  | [] => none
  | (k, b) :: r => if k = i then some b else lookI i r
theorem valV_look {β : Type} [Rp β] {K : PySem.W.Frag} {H : Hp} {i : Int} {b : β} : ∀ {kv : List (Int × β)} {kvs : List (Key × V)}, Paired (rpPr K H) kv kvs → lookI i kv = some b → ∃ v, valV kvs (Sum.inl i : Key) = some v ∧ Rp.rp K H b v
  | _, _, .nil, e => by cases e
  | (k, c) :: kv, (k', v) :: kvs, .cons ⟨h1, h2⟩ t, e => by
    have h1 : k' = Sum.inl k := h1
    by_cases hk : k = i
    · have e : (if k = i then some c else lookI i kv) = some b := e
      rw [if_pos hk] at e
      cases e
      exact ⟨v, by subst hk h1; exact valV_pos (p := ((Sum.inl k : Key), v)) rfl, h2⟩
    · have e : (if k = i then some c else lookI i kv) = some b := e
      rw [if_neg hk] at e
      obtain ⟨u, e1, e2⟩ := valV_look t e
      exact ⟨u, by subst h1; exact (valV_neg (p := ((Sum.inl k : Key), v)) (fun z => hk (Sum.inl.inj z))).trans e1, e2⟩
theorem valV_none {k : Key} : ∀ {kvs : List (Key × V)}, k ∉ kvs.map (·.1) → valV kvs k = none
  | [], _ => rfl
  | (k', v) :: kvs, h => by
    rw [List.map_cons] at h
    exact (valV_neg (p := (k', v)) (fun z => h (by rw [← z]; exact List.mem_cons_self))).trans (valV_none fun z => h (List.mem_cons_of_mem _ z))
theorem mergeK_app : ∀ {more acc : List (Key × V)}, ((acc ++ more).map (·.1)).Nodup → mergeK acc more = acc ++ more
  | [], acc, _ => by rw [List.append_nil]; rfl
  | (k, v) :: more, acc, h => by
    show mergeK (putK acc k v) more = _
    have hk : k ∉ acc.map (·.1) := fun z => by
      rw [List.map_append, List.nodup_append] at h
      exact h.2.2 k z k (by rw [List.map_cons]; exact List.mem_cons_self) rfl
    rw [putK_new _ (valV_none hk), mergeK_app (by rw [List.append_assoc]; exact h), List.append_assoc]
    rfl
theorem pr_keys {β : Type} [Rp β] {K : PySem.W.Frag} {H : Hp} : ∀ {kv : List (Int × β)} {kvs : List (Key × V)}, Paired (rpPr K H) kv kvs → kvs.map (·.1) = kv.map fun a => (Sum.inl a.1 : Key)
  | _, _, .nil => rfl
  | (k, c) :: kv, (k', v) :: kvs, .cons h t => by
    rw [List.map_cons, List.map_cons, pr_keys t, show k' = Sum.inl k from h.1]
section
variable {G : Cn} {T : List Ty} {te ta tb tc td : TE} {α β γ δ : Type} {r : Rp α} {r' : Rp β} {r'' : Rp γ} {r3 : Rp δ}
def EvPs (G : Cn) (trs : List (TE × TE)) (T : List Ty) {β : Type} (r : Rp β) (kv : List (Int × β)) : Prop := ∀ B H σ, Fr G B H σ T → ∀ Q : List (V × V) → Hp → Prop, (∀ (kvs : List (Key × V)) B' H', Ext B H B' H' → Paired (rpPr G.K B') kv kvs → Q (kvs.map fun a => (kV a.1, a.2)) H') → tPairs trs σ H Q
theorem ep_nil : EvPs G [] T r [] := fun B H σ f Q q => q [] B H (Ext.refl f.bh) .nil
theorem ep_cons {trs : List (TE × TE)} {kv : List (Int × β)} {i : Int} {b : β} (hk : EvD G ta T rpInt i) (hv : EvD G tb T r' b) (hr : EvPs G trs T r' kv) : EvPs G ((ta, tb) :: trs) T r' ((i, b) :: kv) := fun B H σ f Q q =>
  hk B H σ f _ fun v B1 H1 x1 e1 => hv B1 H1 σ (f.ext x1) _ fun u B2 H2 x2 e2 => hr B2 H2 σ ((f.ext x1).ext x2) _ fun kvs B3 H3 x3 z => by
    have := q ((Sum.inl i, u) :: kvs) B3 H3 ((x1.trans x2).trans x3) (.cons ⟨rfl, r'.mono x3.b e2⟩ z)
    rw [show v = V.int i from e1]
    exact this
theorem ev_disp {trs : List (TE × TE)} {kv : List (Int × β)} (h : EvPs G trs T r' kv) (nd : (kv.map fun a => a.1).Nodup) (hl : kv.length ≤ 15) : EvD G (tDisp trs) T (@rpDI β r') ⟨kv⟩ := fun B H σ f Q q p hp => by
  have x1 := upd_extN (o := .dK []) f.bh hp
  refine h B _ σ (f.ext x1) _ fun kvs B2 H2 x2 z => ?_
  have hp2 : H2 p = some (.dK []) := x2.h _ _ upd_same
  have nB : B p = none := f.bh.free hp
  have nB2 : B2 p = none := (x2.n p (by rw [upd_same]; intro z; cases z)).trans nB
  have e : mergeK [] kvs = kvs := by
    refine mergeK_app (acc := []) ?_
    show (kvs.map (·.1)).Nodup
    rw [pr_keys z]
    have e1 : (kv.map fun a => (Sum.inl a.1 : Key)) = (kv.map fun a => a.1).map Sum.inl := by rw [List.map_map]; rfl
    rw [e1]
    have inj : ∀ l : List Int, l.Nodup → (l.map (Sum.inl : Int → Key)).Nodup := fun l hn => by
      rw [List.nodup_iff_pairwise_ne, List.pairwise_map]
      exact (List.nodup_iff_pairwise_ne.mp hn).imp fun h e => h (Sum.inl.inj e)
    exact inj _ nd
  refine ⟨hp2, kvs, rfl, by rw [← Paired.length z]; exact hl, ?_⟩
  rw [e]
  have x := x1.trans x2
  have sB : Same B2 (upd B2 p (.dK kvs)) := fun b o e => by
    rw [upd_ne (ne_of_none e nB2)]
    exact e
  refine q (.ref p) (upd B2 p (.dK kvs)) _ ⟨x.b.trans sB, fun b o e => ?_, fun b o e' => ?_, fun b hb => ?_⟩ ⟨p, kvs, rfl, upd_same, Paired.mapP z fun _ _ y => ⟨y.1, r'.mono sB y.2⟩⟩
  · rw [upd_ne (ne_of_none e hp)]
    exact x.h b o e
  · by_cases hb : b = p
    · subst hb; rw [upd_same] at e' ⊢; exact e'
    · rw [upd_ne hb] at e' ⊢; exact x.s b o e'
  · rw [upd_ne fun z => by subst z; exact hb hp]
    exact x.n b hb
theorem ev_dgetI {d : DI β} {i : Int} {b : β} (hd : EvD G td T (@rpDI β r') d) (hk : EvD G ta T rpInt i) (e : lookI i d.kv = some b) : EvD G (tDGet td ta) T r' b := fun B H σ f Q q =>
  hd B H σ f _ fun v B1 H1 x1 e1 => hk B1 H1 σ (f.ext x1) _ fun u B2 H2 x2 e2 => by
    obtain ⟨p, kvs, rfl, hp, z⟩ := (@rpDI β r').mono x2.b e1
    obtain ⟨w, e3, e4⟩ := valV_look z e
    refine ⟨p, w, rfl, ?_, q w B2 H2 (x1.trans x2) e4⟩
    rw [show u = kV (.inl i) from e2, ← e3]
    exact DGet.k (x2.s _ _ hp)
theorem ev_quad {a : α} {b : β} {c : γ} {d : δ} (ha : EvD G ta T r a) (hb : EvD G tb T r' b) (hc : EvD G tc T r'' c) (hd : EvD G td T r3 d) : EvD G (tTup (tCons ta (tCons tb (tCons tc (tCons td tNil))))) T (@rpT4 α β γ δ r r' r'' r3) ⟨a, b, c, d⟩ := fun B H σ f Q q =>
  ha B H σ f _ fun v B1 H1 x1 e1 => hb B1 H1 σ (f.ext x1) _ fun u B2 H2 x2 e2 => hc B2 H2 σ ((f.ext x1).ext x2) _ fun w B3 H3 x3 e3 => hd B3 H3 σ (((f.ext x1).ext x2).ext x3) _ fun w' B4 H4 x4 e4 => ⟨by show 4 ≤ sizeLine; decide, fun p hp => by
    have x5 := upd_ext (o := .tup [v, u, w, w']) x4.s hp
    exact q _ _ _ ((((x1.trans x2).trans x3).trans x4).trans x5) ⟨p, v, u, w, w', rfl, upd_same, r.mono (((x2.b.trans x3.b).trans x4.b).trans x5.b) e1, r'.mono ((x3.b.trans x4.b).trans x5.b) e2, r''.mono (x4.b.trans x5.b) e3, r3.mono x5.b e4⟩⟩
/-! compared as data, by what the two are told as -/
/-- a kind's things as data -/
structure PdF (α : Type) (r : Rp α) where
  pd : α → PyData
  dp : ∀ {K : PySem.W.Frag} {H : Hp} {a : α} {v : V}, r.rp K H a v → Dp K H v (pd a)
theorem ev_eqX (p : PdF α r) {a b : α} (ha : EvH G ta T r a) (hb : EvH G tb T r b) (sa : SeqAt.shaped (p.pd a) = true) (sb : SeqAt.shaped (p.pd b) = true) : EvD G (tOp (rEqD G.K) ta tb) T rpBool (PyData.eqv (p.pd a) (p.pd b)) := fun B H σ f Q q =>
  ha B H σ f _ fun v B1 H1 x1 e1 => hb B1 H1 σ (f.ext x1) _ fun u B2 H2 x2 e2 => ⟨_, _, p.dp (r.mono x2.h e1), p.dp e2, sa, sb, q _ B2 H2 (x1.trans x2) rfl⟩
theorem ev_neX (p : PdF α r) {a b : α} (ha : EvH G ta T r a) (hb : EvH G tb T r b) (sa : SeqAt.shaped (p.pd a) = true) (sb : SeqAt.shaped (p.pd b) = true) : EvD G (tOp (rNeD G.K) ta tb) T rpBool (!PyData.eqv (p.pd a) (p.pd b)) := fun B H σ f Q q =>
  ha B H σ f _ fun v B1 H1 x1 e1 => hb B1 H1 σ (f.ext x1) _ fun u B2 H2 x2 e2 => ⟨_, _, p.dp (r.mono x2.h e1), p.dp e2, sa, sb, q _ B2 H2 (x1.trans x2) rfl⟩
/-- the same thing twice -/
theorem ev_eqS1 (p : PdF α r) {a : α} (ha : EvH G ta T r a) (hb : EvH G tb T r a) (sa : SeqAt.shaped (p.pd a) = true) (he : PyData.eqv (p.pd a) (p.pd a) = true) : EvD G (tOp (rEqD G.K) ta tb) T rpBool true := (ev_eqX p ha hb sa sa).is he
theorem ev_neS1 (p : PdF α r) {a : α} (ha : EvH G ta T r a) (hb : EvH G tb T r a) (sa : SeqAt.shaped (p.pd a) = true) (he : PyData.eqv (p.pd a) (p.pd a) = true) : EvD G (tOp (rNeD G.K) ta tb) T rpBool false := (ev_neX p ha hb sa sa).is (by rw [he]; rfl)
/-! two lists side by side -/
theorem ei_zip {xs : List α} {ys : List β} (h1 : EvD G ta T (@rpList α r) xs) (h2 : EvD G tb T (@rpList β r') ys) : EvI G (iZip G.K (tCons ta (tCons tb tNil))) T (@rpPair α β r r') (xs.zip ys) := fun B H σ f R q => h1 B H σ f _ fun v0 B0 H0 x0 e0 => h2 B0 H0 σ (f.ext x0) _ fun u B1 H1 x1 e1 => by
  obtain ⟨p, vs, rfl, hp, z⟩ := (@rpList α r).mono x1.b e0
  obtain ⟨p', ws, rfl, hp', z'⟩ := e1
  have sq : ∀ B H, Same B1 B → Same B H → SqL G.K H p vs := fun B H a b => .inl (.inl (b _ _ (a _ _ hp)))
  have sq' : ∀ B H, Same B1 B → Same B H → SqL G.K H p' ws := fun B H a b => .inl (.inl (b _ _ (a _ _ hp')))
  have l1 := Paired.length z
  have l2 := Paired.length z'
  have zg : ∀ {i : Nat} {x : α × β}, (xs.zip ys)[i]? = some x → xs[i]? = some x.1 ∧ ys[i]? = some x.2 := fun {i x} e => by
    rw [List.getElem?_zip_eq_some] at e
    exact e
  refine ⟨p, p', vs, ws, rfl, .inl (.inl (x1.s _ _ hp)), .inl (.inl (x1.s _ _ hp')), q _ B1 H1 (x0.trans x1) ⟨fun B H i x a b e => ?_, fun B H a b => ⟨vs, ws, sq B H a b, sq' B H a b, by rw [List.length_zip]; omega⟩, fun B H i x v H' a b e y => ?_⟩⟩
  · obtain ⟨y1, g1, _⟩ := paired_get z (zg e).1
    obtain ⟨y2, g2, _⟩ := paired_get z' (zg e).2
    exact ⟨vs, ws, y1, y2, sq B H a b, sq' B H a b, g1, g2⟩
  · obtain ⟨t, u, w, rfl, nt, rfl, y1, y2⟩ := y
    obtain ⟨c1, g1, r1⟩ := paired_get z (zg e).1
    obtain ⟨c2, g2, r2⟩ := paired_get z' (zg e).2
    have e1 := Option.some.inj ((y1 vs (sq B _ a b)).symm.trans g1)
    have e2 := Option.some.inj ((y2 ws (sq' B _ a b)).symm.trans g2)
    subst e1 e2
    have x3 := upd_ext (o := .tup [u, w]) b nt
    exact ⟨_, x3, t, u, w, rfl, upd_same, r.mono (a.trans x3.b) r1, r'.mono (a.trans x3.b) r2⟩
end
end DL

set_option Elab.async false
set_option linter.all false
set_option maxRecDepth 100000
set_option maxHeartbeats 4000000
/-! a law's own layer, sixteenth part: a tuple of two lists that are changed in place -/
namespace DL
open PySem PySem.Spec PyProof.Rows L2
structure M2 (α : Type) where
  a : List α
  b : List α
instance owM2 {α : Type} [Rp α] : Ow (M2 α) := ⟨fun K B H x v F => ∃ t p q vs ws, v = .ref t ∧ F t ∧ F p ∧ F q ∧ p ≠ q ∧ B t = none ∧ B p = none ∧ B q = none ∧ H t = some (.tup [.ref p, .ref q]) ∧ H p = some (.lst vs) ∧ H q = some (.lst ws) ∧ Paired (Rp.rp K B) x.a vs ∧ Paired (Rp.rp K B) x.b ws,
  fun {K B H B' H' a v F F'} ⟨t, p, q, vs, ws, e, f1, f2, f3, pq, b1, b2, b3, h1, h2, h3, r1, r2⟩ sb k => by
    obtain ⟨k1, k2, k3⟩ := k t f1 (by rw [h1]; intro z; cases z)
    obtain ⟨l1, l2, l3⟩ := k p f2 (by rw [h2]; intro z; cases z)
    obtain ⟨m1, m2, m3⟩ := k q f3 (by rw [h3]; intro z; cases z)
    exact ⟨t, p, q, vs, ws, e, k1, l1, m1, pq, k3.trans b1, l3.trans b2, m3.trans b3, k2.trans h1, l2.trans h2, m2.trans h3, paired_mono sb r1, paired_mono sb r2⟩⟩
section
variable {G : Cn} {T : List Ty} {te ta tb tc td : TE} {α β γ δ : Type} {r : Rp α} {r' : Rp β} {r'' : Rp γ} {r3 : Rp δ} {D : Ends} {tu : TS} {k : L2.St → Hp → Prop}
theorem g_newM2 {i : Nat} {xs ys : List α} (h1 : EvN G ta T r xs) (h2 : EvN G tb T r ys) (q : Goes G (T.set i (.ow (@owM2 α r) ⟨xs, ys⟩)) D.nx) : Goes G T (tAsg (tTup (tCons ta (tCons tb tNil))) (gName i) D) := fun B H σ f =>
  h1 B H σ f _ fun p vs B1 H1 x1 n1 n2 e1 z1 => h2 B1 H1 σ (f.ext x1) _ fun p' ws B2 H2 x2 m1 m2 e2 z2 => ⟨by show 2 ≤ sizeLine; decide, fun t ht => by
    have x3 := upd_extN (o := .tup [.ref p, .ref p']) x2.s ht
    have hpp : p ≠ p' := fun z => by rw [z] at e1; rw [m1] at e1; cases e1
    have hp2 : H2 p = some (.lst vs) := x2.h _ _ e1
    have tp : p ≠ t := fun z => by rw [z, ht] at hp2; cases hp2
    have tp' : p' ≠ t := fun z => by rw [z, ht] at e2; cases e2
    have x := (x1.trans x2).trans x3
    have nH : H p' = none := x1.h.free m1
    have nt : H t = none := x1.h.free (x2.h.free ht)
    have nB : B2 p = none := x2.none e1 n2
    refine q B2 _ _ (f.set_ow i owM2 (F := fun q => q = t ∨ q = p ∨ q = p') x.s x.b (fun q hq => ?_) (fun q hq => ⟨?_, x.n q hq⟩) ⟨t, p, p', vs, ws, rfl, .inl rfl, .inr (.inl rfl), .inr (.inr rfl), hpp, x2.s.free ht, nB, m2, upd_same, (upd_ne tp).trans hp2, (upd_ne tp').trans e2, paired_mono x2.b z1, z2⟩)
    · rcases hq with rfl | rfl | rfl
      · exact nt
      · exact n1
      · exact nH
    · cases hH : H q with
      | none => exact absurd hH hq
      | some o => exact x.h q o hH⟩
theorem q_newM2 {i : Nat} {xs ys : List α} (h1 : EvN G ta T r xs) (h2 : EvN G tb T r ys) (q : Goes G (T.set i (.ow (@owM2 α r) ⟨xs, ys⟩)) (tu D)) : Goes G T (tSeq (tAsg (tTup (tCons ta (tCons tb tNil))) (gName i)) tu D) := g_newM2 (D := { D with nx := tu D }) h1 h2 q
/-- x[n][m] = y: n is 0 or 1 -/
theorem g_setM2 {i j : Nat} {a : M2 α} {y : α} {b : Bool} {n m : Int} (hi : T[i]? = some (.ow (@owM2 α r) a)) (h : EvD G te T r y) (hn : EvD G ta T rpInt n) (hm : EvD G tb T rpInt m) (nb : n = if b then 0 else 1) (hj : ixN (if b then a.a else a.b).length m = some j)
    (q : Goes G (T.set i (.ow (@owM2 α r) (if b then ⟨a.a.set j y, a.b⟩ else ⟨a.a, a.b.set j y⟩))) D.nx) : Goes G T (tAsg te (gSub (tOp (rIxT G.K) (tVar i) ta) tb rSetL) D) := fun B H σ f =>
  h B H σ f _ fun v B1 H1 x1 e1 => by
    obtain ⟨w, F0, s1, ⟨t, p, p', vs, ws, rfl, _⟩, _⟩ := (f.ext x1).mut hi
    refine ⟨_, s1, hn B1 H1 σ (f.ext x1) _ fun u B2 H2 x2 e2 => ?_⟩
    have f2 := (f.ext x1).ext x2
    obtain ⟨w, F, s2, ⟨t', p, p', vs, ws, rfl, f1, f3, f4, pq, b1, b2, b3, h1, h2, h3, r1, r2⟩, _⟩ := f2.mut hi
    have tt : t = t' := by rw [s1] at s2; cases s2; rfl
    subst tt
    cases b with
    | true =>
      refine ⟨t, _, n, .ref p, rfl, e2, .inl (.inl h1), by rw [nb]; rfl, hm B2 H2 σ f2 _ fun z B3 H3 x3 e3 => ?_⟩
      obtain ⟨w, F', s3, ⟨t'', p2, p2', vs', ws', rfl, f1, f3, f4, pq, b1, b2, b3, g1, g2, g3, r1, r2⟩, k⟩ := (f2.ext x3).mut hi
      have tt : t = t'' := by rw [s1] at s3; cases s3; rfl
      subst tt
      have e5 := x3.h _ _ h1
      rw [g1] at e5
      cases e5
      refine ⟨p, vs', m, j, rfl, e3, g2, by rw [← Paired.length r1]; exact hj, ?_⟩
      have tp : t ≠ p := fun z => by rw [z, g2] at g1; cases g1
      have ry := r.mono (x2.b.trans x3.b) e1
      refine q B3 _ σ (k (M2 α) owM2 ⟨a.a.set j y, a.b⟩ B3 (upd H3 p (.lst (vs'.set j v))) (fun b o hb => ?_) (Same.refl _) (fun _ _ => rfl) (fun b hb hF => ?_) ⟨t, p, p', _, ws', rfl, f1, f3, f4, pq, b1, b2, b3, (upd_ne tp).trans g1, upd_same, (upd_ne (Ne.symm pq)).trans g3, paired_set ry j r1, r2⟩)
      · rw [upd_ne (ne_of_none hb b2)]
        exact x3.s b o hb
      · exact upd_ne fun z => hF (by rw [z]; exact f3)
    | false =>
      refine ⟨t, _, n, .ref p', rfl, e2, .inl (.inl h1), by rw [nb]; rfl, hm B2 H2 σ f2 _ fun z B3 H3 x3 e3 => ?_⟩
      obtain ⟨w, F', s3, ⟨t'', p2, p2', vs', ws', rfl, f1, f3, f4, pq, b1, b2, b3, g1, g2, g3, r1, r2⟩, k⟩ := (f2.ext x3).mut hi
      have tt : t = t'' := by rw [s1] at s3; cases s3; rfl
      subst tt
      have e5 := x3.h _ _ h1
      rw [g1] at e5
      cases e5
      refine ⟨p', ws', m, j, rfl, e3, g3, by rw [← Paired.length r2]; exact hj, ?_⟩
      have tp : t ≠ p' := fun z => by rw [z, g3] at g1; cases g1
      have ry := r.mono (x2.b.trans x3.b) e1
      refine q B3 _ σ (k (M2 α) owM2 ⟨a.a, a.b.set j y⟩ B3 (upd H3 p' (.lst (ws'.set j v))) (fun b o hb => ?_) (Same.refl _) (fun _ _ => rfl) (fun b hb hF => ?_) ⟨t, p, p', vs', _, rfl, f1, f3, f4, pq, b1, b2, b3, (upd_ne tp).trans g1, (upd_ne pq).trans g2, upd_same, r1, paired_set ry j r2⟩)
      · rw [upd_ne (ne_of_none hb b3)]
        exact x3.s b o hb
      · exact upd_ne fun z => hF (by rw [z]; exact f4)
/-- the two are given back, seen as lists of another kind -/
theorem g_retM2 {i : Nat} {a : M2 α} {xs ys : List β} (h : T[i]? = some (.ow (@owM2 α r) a)) (c1 : ∀ {K : PySem.W.Frag} {B : Hp} {vs : List V}, Paired (r.rp K B) a.a vs → Paired (r'.rp K B) xs vs) (c2 : ∀ {K : PySem.W.Frag} {B : Hp} {vs : List V}, Paired (r.rp K B) a.b vs → Paired (r'.rp K B) ys vs)
    (q : RetD G D.rt (@rpPair (List β) (List β) (@rpList β r') (@rpList β r')) (xs, ys)) : Goes G T (tRet (tVar i) D) := fun B H σ f => by
  obtain ⟨own, o0, sl⟩ := f.sl
  obtain ⟨s, e1, v, rfl, t, p, p', vs, ws, rfl, f1, f3, f4, pq, b1, b2, b3, h1, h2, h3, r1, r2⟩ := sl i _ h
  have z1 := o0 t i f1
  have z2 := o0 p i f3
  have z3 := o0 p' i f4
  have tp : t ≠ p := fun z => by rw [z, h2] at h1; cases h1
  have tp' : t ≠ p' := fun z => by rw [z, h3] at h1; cases h1
  have sB : Same B (upd (upd (upd B p (.lst vs)) p' (.lst ws)) t (.tup [.ref p, .ref p'])) := fun b o e => by
    rw [upd_ne (ne_of_none e b1), upd_ne (ne_of_none e b3), upd_ne (ne_of_none e b2)]
    exact e
  have x := f.ext0
  refine ⟨_, e1, q (.ref t) _ H ⟨x.b.trans sB, x.h, fun b o e => ?_, fun b hb => ?_⟩ ⟨t, .ref p, .ref p', rfl, upd_same, ⟨p, vs, rfl, ?_, paired_mono sB (c1 r1)⟩, ⟨p', ws, rfl, ?_, paired_mono sB (c2 r2)⟩⟩⟩
  · by_cases y1 : b = t
    · subst y1; rw [upd_same] at e; cases e; exact h1
    · rw [upd_ne y1] at e
      by_cases y2 : b = p'
      · subst y2; rw [upd_same] at e; cases e; exact h3
      · rw [upd_ne y2] at e
        by_cases y3 : b = p
        · subst y3; rw [upd_same] at e; cases e; exact h2
        · rw [upd_ne y3] at e
          exact f.bh b o e
  · rw [upd_ne fun z => hb (by rw [z]; exact z1), upd_ne fun z => hb (by rw [z]; exact z3), upd_ne fun z => hb (by rw [z]; exact z2)]
    exact x.n b hb
  · rw [upd_ne (Ne.symm tp), upd_ne pq, upd_same]
  · rw [upd_ne (Ne.symm tp'), upd_same]
/-- the length of a tuple of four -/
theorem ev_len4 {x : T4 α β γ δ} (h : EvD G te T (@rpT4 α β γ δ r r' r'' r3) x) : EvD G (tCB (rLenQ G.K) (tCons te tNil)) T rpInt 4 := fun B H σ f Q q =>
  h B H σ f _ fun v B1 H1 x1 e1 => by
    obtain ⟨p, a, b, c, d, rfl, s, _⟩ := e1
    exact ⟨p, [a, b, c, d], rfl, .inr (.inl (.of (x1.s _ _ s))), q _ B1 H1 x1 rfl⟩
end
end DL

set_option Elab.async false
set_option linter.all false
set_option maxRecDepth 100000
set_option maxHeartbeats 4000000
/-! a law's own layer, seventeenth part: texts, told by their signs -/
namespace DL
open PySem PySem.Spec PyProof.Rows L2
abbrev tx (l : List Nat) : Str := ⟨l.toArray⟩
theorem tx_len (l : List Nat) : (tx l).length = l.length := rfl
theorem tx_cat (a b : List Nat) : tx a ++ tx b = tx (a ++ b) := SX.S_cat a b
theorem tx_inj {a b : List Nat} (h : tx a = tx b) : a = b := congrArg (fun x : Str => x.cps.toList) h
theorem tx_join (ys : List (List Nat)) : Txt.join (tx []) (ys.map tx) = tx ys.flatten := by
  have e : TL.joinL [] ys = ys.flatten := by
    induction ys with
    | nil => rfl
    | cons a l ih =>
      cases l with
      | nil => show a = [a].flatten; simp
      | cons b r =>
        show a ++ ([] ++ TL.joinL [] (b :: r)) = (a :: b :: r).flatten
        rw [ih]
        simp
  rw [← e]
  exact SX.join_S [] ys
section
variable {G : Cn} {T : List Ty} {te ta tb to : TE}
theorem ev_strI {i : Int} (h : EvD G te T rpInt i) (hb : i.natAbs.log2 < 1920) : EvD G (tCB (fun xs H Q => ∃ i : Int, xs = [.int i] ∧ i.natAbs.log2 < 1920 ∧ Q (.str (toString i)) H) (tCons te tNil)) T rpStr (Str.ofString (toString i)) := fun B H σ f Q q =>
  h B H σ f _ fun v B1 H1 x1 e1 => ⟨i, by rw [show v = .int i from e1], hb, q _ B1 H1 x1 rfl⟩
theorem strs_of {K : PySem.W.Frag} {B : Hp} : ∀ {xs : List Str} {vs : List V}, Paired (rpStr.rp K B) xs vs → vs = xs.map V.str
  | [], _, .nil => rfl
  | x :: xs, _, .cons h t => by rw [show _ = V.str x from h, strs_of t] <;> rfl
def tJoin (K : PySem.W.Frag) (to te : TE) : TE := tM1 (fun x xs H Q => ∃ a p, ∃ ys : List Str, x = .str a ∧ xs = [.ref p] ∧ (SqL K H p (ys.map V.str) ∨ SqT K H p (ys.map V.str)) ∧ (ys.map (·.length)).sum + ys.length * a.length ≤ 16777216 ∧ Q (.str (Txt.join a ys)) H) to te
theorem ke_join {X : Cx} {o e : Expr} {apos pos : Pos} (K : PySem.W.Frag) (h : X.K = K) (ho : PE X o to) (he : PE X e te) (hs : starEach [e] X.env = [(false, eval e X.env)] := by rfl) (hbase : attributeBase o "join" X.env (eval o X.env) = eval o X.env := by rfl) (hline : (apos.endLine == pos.line) = true := by rfl) :
    PE X (.Call (.Attribute o "join" apos) [e] [] pos) (tJoin K to te) := by subst h; exact pe_join ho he hs hbase hline
theorem ev_join {a : Str} {ys : List Str} (ho : EvD G to T rpStr a) (h : EvC G te T rpStr ys) (hz : (ys.map (·.length)).sum + ys.length * a.length ≤ 100000) : EvD G (tJoin G.K to te) T rpStr (Txt.join a ys) := fun B H σ f Q q =>
  ho B H σ f _ fun v B1 H1 x1 e1 => ⟨⟨a, e1⟩, h B1 H1 σ (f.ext x1) _ fun u B2 H2 x2 e2 => by
    obtain ⟨p, vs, rfl, s, z⟩ := e2
    have e := strs_of z
    subst e
    exact ⟨a, p, ys, e1, rfl, .inl s, Nat.le_trans hz (by decide), q _ B2 H2 (x1.trans x2) rfl⟩⟩
theorem ev_catS {a b : Str} (ha : EvD G ta T rpStr a) (hb : EvD G tb T rpStr b) (hz : a.length + b.length ≤ 100000) : EvD G (tOp (fun x y H Q => ∃ i j, x = .str i ∧ y = .str j ∧ i.length + j.length ≤ sizeLine ∧ Q (.str (i ++ j)) H) ta tb) T rpStr (a ++ b) := fun B H σ f Q q =>
  ha B H σ f _ fun v B1 H1 x1 e1 => hb B1 H1 σ (f.ext x1) _ fun u B2 H2 x2 e2 => ⟨a, b, e1, e2, sz_of hz, q _ B2 H2 (x1.trans x2) rfl⟩
theorem ev_lenS {a : Str} (h : EvH G te T rpStr a) (hz : a.length ≤ 100000) : EvD G (tCB (fun xs H Q => ∃ z, xs = [.str z] ∧ z.length ≤ sizeLine ∧ Q (.int z.length) H) (tCons te tNil)) T rpInt (a.length : Int) := fun B H σ f Q q =>
  h B H σ f _ fun v B1 H1 x1 e1 => ⟨a, by rw [show v = .str a from e1], sz_of hz, q _ B1 H1 x1 rfl⟩
theorem ev_intS {a : Str} {n : Int} (h : EvD G te T rpStr a) (hn : PySem.intText? a = some n) (hz : a.length ≤ 640) : EvD G (tCB (fun xs H Q => ∃ a n, xs = [.str a] ∧ PySem.intText? a = some n ∧ a.length ≤ 640 ∧ Q (.int n) H) (tCons te tNil)) T rpInt n := fun B H σ f Q q =>
  h B H σ f _ fun v B1 H1 x1 e1 => ⟨a, n, by rw [show v = .str a from e1], hn, hz, q _ B1 H1 x1 rfl⟩
theorem cutS_tx (l : List Nat) (lo hi : Option Int) : cutS (tx l) lo hi = tx ((l.drop (HT.sIx l.length 0 lo)).take (HT.sIx l.length l.length hi - HT.sIx l.length 0 lo)) := rfl
theorem ev_slS {l : List Nat} {tl th : TO} {lo hi : Option Int} (h : EvD G te T rpStr (tx l)) (hz : l.length ≤ 100000)
    (h1 : ∀ B H σ, Fr G B H σ T → ∀ Q : Option Int → Hp → Prop, (∀ B' H', Ext B H B' H' → Q lo H') → tl σ H Q) (h2 : ∀ B H σ, Fr G B H σ T → ∀ Q : Option Int → Hp → Prop, (∀ B' H', Ext B H B' H' → Q hi H') → th σ H Q) :
    EvD G (tSl rSlS te tl th) T rpStr (tx ((l.drop (HT.sIx l.length 0 lo)).take (HT.sIx l.length l.length hi - HT.sIx l.length 0 lo))) := fun B H σ f Q q =>
  h B H σ f _ fun v B1 H1 x1 e1 => h1 B1 H1 σ (f.ext x1) _ fun B2 H2 x2 => h2 B2 H2 σ ((f.ext x1).ext x2) _ fun B3 H3 x3 => ⟨tx l, e1, sz_of hz, q _ B3 H3 ((x1.trans x2).trans x3) rfl⟩
theorem ev_fromS {l : List Nat} {i : Int} (h : EvD G te T rpStr (tx l)) (hz : l.length ≤ 100000) (hi : EvD G ta T rpInt i) (h0 : 0 ≤ i) : EvD G (tSl rSlS te (tPart ta) tNoPart) T rpStr (tx (l.drop i.toNat)) := (ev_slS h hz (eo_part hi) eo_none).is (congrArg tx (slv_from h0))
theorem ev_toS {l : List Nat} {i : Int} (h : EvD G te T rpStr (tx l)) (hz : l.length ≤ 100000) (hi : EvD G ta T rpInt i) (h0 : 0 ≤ i) : EvD G (tSl rSlS te tNoPart (tPart ta)) T rpStr (tx (l.take i.toNat)) := (ev_slS h hz eo_none (eo_part hi)).is (congrArg tx (slv_to h0))
theorem ev_midS {l : List Nat} {i j : Int} (h : EvD G te T rpStr (tx l)) (hz : l.length ≤ 100000) (hi : EvD G ta T rpInt i) (hj : EvD G tb T rpInt j) (h0 : 0 ≤ i) (h1 : 0 ≤ j) : EvD G (tSl rSlS te (tPart ta) (tPart tb)) T rpStr (tx ((l.drop i.toNat).take (j.toNat - i.toNat))) := (ev_slS h hz (eo_part hi) (eo_part hj)).is (congrArg tx (slv_mid h0 h1))
theorem ei_str {l : List Nat} (h : EvD G te T rpStr (tx l)) : EvI G (iStr te) T rpStr (l.map fun c => tx [c]) := fun B H σ f R q => h B H σ f _ fun v B1 H1 x1 e1 =>
  ⟨tx l, e1, q _ B1 H1 x1 ⟨fun B H i x a b e => by
    have := (List.getElem?_eq_some_iff.mp e).1
    rw [List.length_map] at this
    exact this, fun B H a b => by rw [List.length_map]; exact Nat.le_refl _, fun B H i x v H' a b e y => by
    obtain ⟨rfl, c, hc, rfl⟩ := y
    refine ⟨B, Ext.refl b, ?_⟩
    rw [List.getElem?_map] at e
    have hc : l[i]? = some c := by rw [← hc]; simp
    rw [hc] at e
    show V.str (tx [c]) = V.str x
    rw [← Option.some.inj e]⟩⟩
theorem ev_inS {c : Nat} {l : List Nat} (ha : EvD G ta T rpStr (tx [c])) (hb : EvD G tb T rpStr (tx l)) : EvD G (tOp (fun x y H Q => ∃ (c : Nat) (z : Str), x = .str ⟨#[c]⟩ ∧ y = .str z ∧ Q (.bl (decide (c ∈ z.cps.toList))) H) ta tb) T rpBool (decide (c ∈ l)) := fun B H σ f Q q =>
  ha B H σ f _ fun v B1 H1 x1 e1 => hb B1 H1 σ (f.ext x1) _ fun u B2 H2 x2 e2 => ⟨c, tx l, e1, e2, q _ B2 H2 (x1.trans x2) rfl⟩
theorem ev_ninS {c : Nat} {l : List Nat} (ha : EvD G ta T rpStr (tx [c])) (hb : EvD G tb T rpStr (tx l)) : EvD G (tOp (fun x y H Q => ∃ (c : Nat) (z : Str), x = .str ⟨#[c]⟩ ∧ y = .str z ∧ Q (.bl (!decide (c ∈ z.cps.toList))) H) ta tb) T rpBool (!decide (c ∈ l)) := fun B H σ f Q q =>
  ha B H σ f _ fun v B1 H1 x1 e1 => hb B1 H1 σ (f.ext x1) _ fun u B2 H2 x2 e2 => ⟨c, tx l, e1, e2, q _ B2 H2 (x1.trans x2) rfl⟩
theorem ev_ixS {l : List Nat} {i : Int} {c : Nat} (ha : EvD G ta T rpStr (tx l)) (hb : EvD G tb T rpInt i) (hz : l.length ≤ 100000) (e : atI l i = some c) : EvD G (tOp rIxS ta tb) T rpStr (tx [c]) := fun B H σ f Q q =>
  ha B H σ f _ fun v B1 H1 x1 e1 => hb B1 H1 σ (f.ext x1) _ fun u B2 H2 x2 e2 => ⟨tx l, i, c, e1, e2, sz_of hz, e, q _ B2 H2 (x1.trans x2) rfl⟩
end
end DL

set_option Elab.async false
set_option linter.all false
set_option maxRecDepth 100000
set_option maxHeartbeats 4000000
/-! a law's own layer, eighteenth part: branches that meet in one of many frames -/
namespace DL
open PySem PySem.Spec PyProof.Rows L2
variable {G : Cn} {T : List Ty} {D : Ends} {c : TT} {tz tw tu : TS}
theorem q_ifA {b : Bool} (I : List Ty → Prop) (h : EvT G c T b) (h1 : b = true → (∀ T', I T' → Goes G T' (tu D)) → Goes G T (tz { D with nx := tu D })) (h2 : b = false → (∀ T', I T' → Goes G T' (tu D)) → Goes G T (tw { D with nx := tu D })) (q : ∀ T', I T' → Goes G T' (tu D)) : Goes G T (tSeq (tIfS c tz tw) tu D) := q_if h (fun hb => h1 hb q) (fun hb => h2 hb q)
theorem q_whenA {b : Bool} (I : List Ty → Prop) (h : EvT G c T b) (h1 : b = true → (∀ T', I T' → Goes G T' (tu D)) → Goes G T (tz { D with nx := tu D })) (h2 : b = false → (∀ T', I T' → Goes G T' (tu D)) → Goes G T (tu D)) (q : ∀ T', I T' → Goes G T' (tu D)) : Goes G T (tSeq (tIfS c tz tNext) tu D) := q_when h (fun hb => h1 hb q) (fun hb => h2 hb q)
end DL

set_option Elab.async false
set_option linter.all false
set_option maxRecDepth 100000
set_option maxHeartbeats 4000000
/-! a law's own layer, nineteenth part: owned things told with the very addresses they stand on; calls that change them -/
namespace DL
open PySem PySem.Spec PyProof.Rows L2
class Ox (α : Type) [Rp α] where
  ox : PySem.W.Frag → Hp → Hp → α → V → (Addr → Prop) → Prop
  fr : ∀ {K : PySem.W.Frag} {B H B' H' : Hp} {a : α} {v : V} {S : Addr → Prop}, ox K B H a v S → Same B B' → (∀ q, S q → H' q = H q ∧ B' q = none) → ox K B' H' a v S
  nb : ∀ {K : PySem.W.Frag} {B H : Hp} {a : α} {v : V} {S : Addr → Prop}, ox K B H a v S → ∀ q, S q → B q = none ∧ H q ≠ none
  rd : ∀ {K : PySem.W.Frag} {B H : Hp} {a : α} {v : V} {S : Addr → Prop}, ox K B H a v S → ∀ H', Same B H' → (∀ q, S q → H' q = H q) → Rp.rp K H' a v
@[reducible] def owV {α : Type} [Rp α] (u : V) (w : Ox α) : Ow α := ⟨fun K B H a v F => v = u ∧ ∃ S, (∀ q, S q → F q) ∧ w.ox K B H a v S, fun ⟨e, S, hS, h⟩ sb k => ⟨e, S, fun q hq => (k q (hS q hq) (w.nb h q hq).2).1, w.fr h sb fun q hq => by
  obtain ⟨_, k2, k3⟩ := k q (hS q hq) (w.nb h q hq).2
  exact ⟨k2, k3.trans (w.nb h q hq).1⟩⟩⟩
noncomputable def delS (H : Hp) (S : Addr → Prop) : Hp := fun q => open Classical in if S q then none else H q
theorem delS_in {H : Hp} {S : Addr → Prop} {q : Addr} (h : S q) : delS H S q = none := by unfold delS; exact if_pos h
theorem delS_ne {H : Hp} {S : Addr → Prop} {q : Addr} (h : ¬ S q) : delS H S q = H q := by unfold delS; exact if_neg h
theorem delS_some {H : Hp} {S : Addr → Prop} {q : Addr} {o : HO} (h : delS H S q = some o) : ¬ S q ∧ H q = some o := by
  by_cases hq : S q
  · rw [delS_in hq] at h; cases h
  · rw [delS_ne hq] at h; exact ⟨hq, h⟩
noncomputable def glue (S : Addr → Prop) (H B : Hp) : Hp := fun q => open Classical in if S q then H q else B q
theorem glue_in {H B : Hp} {S : Addr → Prop} {q : Addr} (h : S q) : glue S H B q = H q := by unfold glue; exact if_pos h
theorem glue_ne {H B : Hp} {S : Addr → Prop} {q : Addr} (h : ¬ S q) : glue S H B q = B q := by unfold glue; exact if_neg h
theorem glue_up {S : Addr → Prop} {H B : Hp} (h : ∀ q, S q → B q = none) : Same B (glue S H B) := fun q o e => by
  rw [glue_ne fun z => by rw [h q z] at e; cases e]
  exact e
theorem glue_le {S : Addr → Prop} {H B : Hp} (h : Same B H) : Same (glue S H B) H := fun q o e => by
  by_cases hq : S q
  · rw [glue_in hq] at e; exact e
  · rw [glue_ne hq] at e; exact h q o e
section
variable {G : Cn} {T : List Ty} {D : Ends} {α β γ : Type}
theorem Fr.getO [Rp α] {w : Ox α} {B H : Hp} {σ : L2.St} (f : Fr G B H σ T) {j : Nat} {a : α} {u : V} (hj : T[j]? = some (.ow (owV u w) a)) : ∃ S, σ[j]? = some (some u) ∧ w.ox G.K B H a u S := by
  obtain ⟨own, _, sl⟩ := f.sl
  obtain ⟨s, e1, v, rfl, rfl, S, hS, h⟩ := sl j _ hj
  exact ⟨S, e1, h⟩
/-- a slot's own things are given up, or some of them: they stand for good -/
theorem Fr.freezeG {B H : Hp} {σ : L2.St} (f : Fr G B H σ T) {j : Nat} {w : Ow β} {b : β} (hj : T[j]? = some (.ow w b)) :
    ∃ (v : V) (F : Addr → Prop), σ[j]? = some (some v) ∧ w.ow G.K B H b v F ∧ ∀ (S : Addr → Prop) (t : Ty), (∀ q, S q → F q ∧ B q = none) → Slot G.K (glue S H B) H (fun q => F q ∧ ¬ S q) (some v) t → Fr G (glue S H B) H σ (T.set j t) := by
  classical
  obtain ⟨own, o0, sl⟩ := f.sl
  obtain ⟨s, e1, v, rfl, q⟩ := sl j _ hj
  refine ⟨v, _, e1, q, fun S t hS ht => ?_⟩
  have sB := glue_up (H := H) fun q hq => (hS q hq).2
  refine ⟨glue_le f.bh, f.b0.trans sB, f.h0, fun q hq => ?_, by rw [List.length_set]; exact f.len, fun q => if S q then none else own q, fun q i e => ?_, fun i t' e => ?_⟩
  · rw [glue_ne fun z => hq (o0 _ _ (hS q z).1), f.n0 q hq]
  · dsimp only at e
    by_cases z : S q
    · rw [if_pos z] at e; cases e
    · rw [if_neg z] at e; exact o0 q i e
  · by_cases hi : j = i
    · subst hi
      have hj' : j < T.length := (List.getElem?_eq_some_iff.mp hj).1
      rw [List.getElem?_set_self hj'] at e
      cases e
      refine ⟨_, e1, ?_⟩
      have ef : (fun q => own q = some j ∧ ¬ S q) = fun q => (if S q then none else own q) = some j := by
        funext q
        by_cases z : S q
        · rw [if_pos z]; simp [z]
        · rw [if_neg z]; simp [z]
      rw [← ef]
      exact ht
    · rw [List.getElem?_set_ne hi] at e
      obtain ⟨s, e1, q⟩ := sl i t' e
      refine ⟨s, e1, ?_⟩
      cases t' with
      | im r a => obtain ⟨v, e, q⟩ := q; exact ⟨v, e, r.mono sB q⟩
      | ow r a =>
        obtain ⟨v, e, q⟩ := q
        refine ⟨v, e, r.fr q sB fun x hx hn => ?_⟩
        have nS : ¬ S x := fun z => hi (Option.some.inj ((hS x z).1.symm.trans hx))
        exact ⟨by show (if S x then none else own x) = some i; rw [if_neg nS]; exact hx, rfl, glue_ne nS⟩
      | un => exact q
      | any => trivial
theorem g_letO {k : L2.St → Hp → Prop} [r : Rp α] {w : Ox α} {i : Nat} {a : α} {u : V} (h : T[i]? = some (.ow (owV u w) a)) (q : Goes G (T.set i (.im r a)) k) : Goes G T k := fun B H σ f => by
  obtain ⟨v, F, e1, ⟨rfl, S, hS, ho⟩, kk⟩ := f.freezeG h
  exact q _ H σ (kk S _ (fun q hq => ⟨hS q hq, (w.nb ho q hq).1⟩) ⟨v, rfl, w.rd ho _ (glue_up fun q hq => (w.nb ho q hq).1) fun q hq => glue_in hq⟩)
/-- changed in place, by what changes nothing else -/
theorem Fr.mutO [Rp α] {w : Ox α} {B H : Hp} {σ : L2.St} (f : Fr G B H σ T) {j : Nat} {a : α} {u : V} (hj : T[j]? = some (.ow (owV u w) a)) :
    ∃ S, σ[j]? = some (some u) ∧ w.ox G.K B H a u S ∧ (∀ q, S q → G.H0 q = none) ∧ ∀ (γ : Type) (rg : Rp γ) (w' : @Ox γ rg) (b : γ) (B' H' : Hp) (S' : Addr → Prop), Ext B (delS H S) B' H' → (∀ q, S' q → delS H S q = none) → @Ox.ox γ rg w' G.K B' H' b u S' → Fr G B' H' σ (T.set j (.ow (@owV γ rg u w') b)) := by
  classical
  obtain ⟨own, o0, sl⟩ := f.sl
  obtain ⟨s, e1, v, rfl, rfl, S, hS, ho⟩ := sl j _ hj
  refine ⟨S, e1, ho, fun q hq => o0 q j (hS q hq), fun γ rg w' b B' H' S' x hS' ho' => ?_⟩
  have nS : ∀ q, G.H0 q ≠ none → ¬ S q := fun q hq z => hq (o0 q j (hS q z))
  have keep : ∀ q, ¬ S q → H q ≠ none → H' q = H q ∧ B' q = B q := fun q hq hn => by
    refine ⟨?_, x.n q (by rw [delS_ne hq]; exact hn)⟩
    cases hH : H q with
    | none => exact absurd hH hn
    | some o => exact x.h q o (by rw [delS_ne hq]; exact hH)
  refine ⟨x.s, f.b0.trans x.b, fun q o e => ?_, fun q hq => ?_, by rw [List.length_set]; exact f.len, fun q => if S' q then some j else own q, fun q i e => ?_, fun i t e => ?_⟩
  · have e2 := f.h0 q o e
    rw [(keep q (nS q (by rw [e]; intro z; cases z)) (by rw [e2]; intro z; cases z)).1]
    exact e2
  · rw [(keep q (nS q hq) fun z => hq (f.h0.free z)).2, f.n0 q hq]
  · dsimp only at e
    by_cases z : S' q
    · have := hS' q z
      by_cases y : S q
      · exact o0 q j (hS q y)
      · rw [delS_ne y] at this
        exact f.h0.free this
    · rw [if_neg z] at e; exact o0 q i e
  · by_cases hi : j = i
    · subst hi
      have hj' : j < T.length := (List.getElem?_eq_some_iff.mp hj).1
      rw [List.getElem?_set_self hj'] at e
      cases e
      exact ⟨some v, e1, v, rfl, rfl, S', fun q hq => if_pos hq, ho'⟩
    · rw [List.getElem?_set_ne hi] at e
      obtain ⟨s, e1, q⟩ := sl i t e
      refine ⟨s, e1, ?_⟩
      cases t with
      | im r a => obtain ⟨v, e, q⟩ := q; exact ⟨v, e, r.mono x.b q⟩
      | ow r a =>
        obtain ⟨v, e, q⟩ := q
        refine ⟨v, e, r.fr q x.b fun y hy hn => ?_⟩
        have ny : ¬ S y := fun z => hi (Option.some.inj ((hS y z).symm.trans hy))
        have ny' : ¬ S' y := fun z => by
          have := hS' y z
          rw [delS_ne ny] at this
          exact hn this
        exact ⟨by show (if S' y then some j else own y) = some i; rw [if_neg ny']; exact hy, keep y ny hn⟩
      | un => exact q
      | any => trivial
theorem Fr.newO [Rp α] {w : Ox α} {B H B' H' : Hp} {σ : L2.St} (f : Fr G B H σ T) (j : Nat) {a : α} {u : V} {S : Addr → Prop} (x : Ext B H B' H') (hS : ∀ q, S q → H q = none) (h : w.ox G.K B' H' a u S) : Fr G B' H' (σ.set j (some u)) (T.set j (.ow (owV u w) a)) :=
  f.set_ow j (owV u w) (F := S) x.s x.b hS (fun q hq => ⟨by
    cases hH : H q with
    | none => exact absurd hH hq
    | some o => exact x.h q o hH, x.n q hq⟩) ⟨rfl, S, fun _ z => z, h⟩
/-! new owned things -/
def EvO (G : Cn) (te : TE) (T : List Ty) {α : Type} [Rp α] (w : Ox α) (a : α) : Prop := ∀ B H σ, Fr G B H σ T → ∀ Q : VK, (∀ u B' H' S, Ext B H B' H' → (∀ q, S q → H q = none) → w.ox G.K B' H' a u S → Q u H') → te σ H Q
theorem ext_glue [Rp α] {w : Ox α} {K : PySem.W.Frag} {B H B' H' : Hp} {a : α} {u : V} {S : Addr → Prop} (x : Ext B H B' H') (hS : ∀ q, S q → H q = none) (h : w.ox K B' H' a u S) : Ext B H (glue S H' B') H' ∧ Rp.rp K (glue S H' B') a u := by
  have sB := glue_up (H := H') (B := B') fun q hq => (w.nb h q hq).1
  exact ⟨⟨x.b.trans sB, x.h, glue_le x.s, fun q hq => (glue_ne fun z => hq (hS q z)).trans (x.n q hq)⟩, w.rd h _ sB fun q hq => glue_in hq⟩
theorem EvO.d [r : Rp α] {w : Ox α} {te : TE} {a : α} (h : EvO G te T w a) : EvD G te T r a := fun B H σ f Q q => h B H σ f Q fun u B' H' S x hS ho => by
  obtain ⟨y, z⟩ := ext_glue x hS ho
  exact q u _ H' y z
theorem g_asgO [Rp α] {w : Ox α} {te : TE} {i : Nat} {a : α} (h : EvO G te T w a) (q : ∀ u, Goes G (T.set i (.ow (owV u w) a)) D.nx) : Goes G T (tAsg te (gName i) D) := fun B H σ f => h B H σ f _ fun u B' H' S x hS ho => q u B' H' _ (f.newO i x hS ho)
theorem q_asgO [Rp α] {w : Ox α} {te : TE} {tu : TS} {i : Nat} {a : α} (h : EvO G te T w a) (q : ∀ u, Goes G (T.set i (.ow (owV u w) a)) (tu D)) : Goes G T (tSeq (tAsg te (gName i)) tu D) := g_asgO (D := { D with nx := tu D }) h q
def RetO (G : Cn) (rt : VK) {α : Type} [Rp α] (w : Ox α) (a : α) : Prop := ∀ u B H S, Ext G.B0 G.H0 B H → (∀ q, S q → G.H0 q = none) → w.ox G.K B H a u S → rt u H
theorem RetO.root [Rp α] {w : Ox α} {B1 : Hp} {rt : VK} {a : α} (h : RetO G rt w a) (u : Up G B1) : RetO (G.at B1) rt w a := fun v B H S x => h v B H S (u.ext x)
theorem RetO.of [r : Rp α] {w : Ox α} {rt : VK} {a : α} (h : RetD G rt r a) : RetO G rt w a := fun u B H S x hS ho => by
  obtain ⟨y, z⟩ := ext_glue x hS ho
  exact h u _ H y z
theorem g_retO [Rp α] {w : Ox α} {i : Nat} {a : α} {u : V} (h : T[i]? = some (.ow (owV u w) a)) (q : RetO G D.rt w a) : Goes G T (tRet (tVar i) D) := fun B H σ f => by
  obtain ⟨own, o0, sl⟩ := f.sl
  obtain ⟨s, e1, v, rfl, rfl, S, hS, ho⟩ := sl i _ h
  exact ⟨_, e1, q v B H S f.ext0 (fun p hp => o0 p i (hS p hp)) ho⟩
theorem g_retOE [Rp α] {w : Ox α} {te : TE} {a : α} (h : EvO G te T w a) (q : RetO G D.rt w a) : Goes G T (tRet te D) := fun B H σ f => h B H σ f _ fun u B' H' S x hS ho => q u B' H' S (f.ext x).ext0 (fun p hp => f.h0.free (hS p hp)) ho
/-- read as it stands -/
theorem ev_varO [r : Rp α] {w : Ox α} {i : Nat} {a : α} {u : V} (h : T[i]? = some (.ow (owV u w) a)) : EvH G (tVar i) T r a := fun B H σ f Q q => by
  obtain ⟨S, e1, ho⟩ := f.getO h
  exact ⟨u, e1, q u B H (Ext.refl f.bh) (w.rd ho H f.bh fun _ _ => rfl)⟩
/-! a def that gives a new owned thing -/
def SpW (K : PySem.W.Frag) {ι α : Type} [Rp α] (As : ι → List Ty) (pre : ι → Prop) (w : Ox α) (f : ι → Except Addr α) : Sp := fun vs H Q E => ∃ (B : Hp) (x : ι), Same B H ∧ pre x ∧ ArgsOk K B vs (As x) ∧
  (∀ a, f x = .ok a → ∀ u B' H' S, Ext B H B' H' → (∀ q, S q → H q = none) → w.ox K B' H' a u S → Q u H') ∧ (∀ C, f x = .error C → ∀ H', Same H H' → E (.ref C) none H')
section
variable {ι : Type} {As : ι → List Ty} {pre : ι → Prop} [r : Rp α] {w : Ox α} {f : ι → Except Addr α} {E : XK} {tr : TA} {x : ι}
theorem ev_callO {b : α} (ha : EvA G tr T (As x)) (hp : pre x) (hf : f x = .ok b) : EvO G (tCall (SpW G.K As pre w f) [] E tr) T w b := fun B H σ fr Q q => ha B H σ fr _ fun vs B1 H1 x1 ok => by
  rw [List.append_nil]
  exact ⟨B1, x, x1.s, hp, ok, fun b' e u B' H' S y hS ho => q u B' H' S (x1.trans y) (fun p hp => x1.h.free (hS p hp)) (by rw [hf] at e; cases e; exact ho), fun C e => by rw [hf] at e; cases e⟩
theorem ex_callO {C : Addr} (ha : EvAH G tr T (As x)) (hp : pre x) (hf : f x = .error C) : EvX G (tCall (SpW G.K As pre w f) [] E tr) T (fun H => E (.ref C) none H) := fun B H σ fr k Q => ha B H σ fr _ fun vs B1 H1 x1 ok => by
  rw [List.append_nil]
  exact ⟨H1, x, Same.refl _, hp, ok, fun b' e => (by rw [hf] at e; cases e), fun C' e H' s => by rw [hf] at e; cases e; exact k H' ((fr.h0.trans x1.h).trans s)⟩
theorem ex_callOT {C : Addr} {E : L2.St → XK} (ha : EvAH G tr T (As x)) (hp : pre x) (hf : f x = .error C) : EvXT G (tCallS (SpW G.K As pre w f) E tr) T (fun σ H => E σ (.ref C) none H) := fun k B H σ fr Q => ha B H σ fr _ fun vs B1 H1 x1 ok =>
  ⟨H1, x, Same.refl _, hp, ok, fun b' e => (by rw [hf] at e; cases e), fun C' e H' s => by rw [hf] at e; cases e; exact k B1 H' σ ((fr.ext x1).ext (Ext.raise x1.s s))⟩
variable {P : Program} {wd : World} {K : PySem.W.Frag} {mg : Str → Option Value} {base : Heap} {nm qual : Str} {st : Stmt} {fa : Addr} {fd : FuncData} {N ps : List Str} {k : Nat}
theorem def_okW (F : Fun K nm qual st fa fd) (S : FnScope N ps (defScope st)) (len : ∀ x, (As x).length = ps.length)
    (hbody : ∀ (cdv : Value) (A : Around) (outer : List Env) (s : Shared) (H : Hp) (E : XK), Room k (A.deeper (envOfC qual (defScope st) s.heap.objs.size fa cdv)) →
      ∃ t, PSs (cxOf (L2.CX P wd) P wd K mg base N qual (defScope st) fa cdv A outer s H E) (defBody st) t ∧ ∀ (B : Hp) (x : ι) (Q : VK), pre x → (∀ b, f x = .ok b → RetO ⟨K, B, H⟩ Q w b) → (∀ C, f x = .error C → ∀ H', Same H H' → E (.ref C) none H') →
        Goes ⟨K, B, H⟩ (As x ++ List.replicate (N.length - (As x).length) .un) (t { nx := fun _ H' => Q .non H', rt := Q })) :
    FnOk P wd K mg base (L2.CX P wd) (k + 1) fa fd ps (SpW K As pre w f) := by
  refine F.okX S (fun vs H Q E h => ?_) (fun cdv A outer s H vs Q E hr h => ?_)
  · obtain ⟨B, x, _, _, ok, _⟩ := h
    exact (args_len ok).trans (len x)
  · obtain ⟨B, x, sB, hp, ok, h1, h2⟩ := h
    obtain ⟨t, ht, hg⟩ := hbody cdv A outer s H E hr
    exact ⟨t, ht, hg B x Q hp (fun b e u B' H' S y hS ho => h1 b e u B' H' S y hS ho) h2 B H _ (Fr.entry sB ok)⟩
end
/-! a def that changes its first argument -/
def SpM (K : PySem.W.Frag) {α ι β : Type} [Rp α] (w : Ox α) (As : ι → List Ty) (pre : α × ι → Prop) (r : Rp β) (f : α × ι → Except Addr (β × α)) : Sp := fun vs H Q E => ∃ (B : Hp) (a : α) (x : ι) (u : V) (us : List V) (S : Addr → Prop), Same B H ∧ pre (a, x) ∧ vs = u :: us ∧ w.ox K B H a u S ∧ ArgsOk K B us (As x) ∧
  (∀ y a', f (a, x) = .ok (y, a') → ∀ v B' H' S', Ext B (delS H S) B' H' → (∀ q, S' q → delS H S q = none) → w.ox K B' H' a' u S' → r.rp K B' y v → Q v H') ∧
  (∀ C, f (a, x) = .error C → ∀ B' H' S', Ext B (delS H S) B' H' → (∀ q, S' q → delS H S q = none) → w.ox K B' H' a u S' → E (.ref C) none H')
def RetM (G : Cn) (rt : VK) {α β : Type} [Rp α] (u : V) (w : Ox α) (r : Rp β) (y : β) (a : α) : Prop := ∀ v B H S, Ext G.B0 G.H0 B H → (∀ q, S q → G.H0 q = none) → w.ox G.K B H a u S → r.rp G.K B y v → rt v H
def RaiM (G : Cn) (E : XK) {α : Type} [Rp α] (u : V) (w : Ox α) (C : Addr) (a : α) : Prop := ∀ B H S, Ext G.B0 G.H0 B H → (∀ q, S q → G.H0 q = none) → w.ox G.K B H a u S → E (.ref C) none H
theorem RetM.root [Rp α] {w : Ox α} {r : Rp β} {y : β} {u : V} {B1 : Hp} {rt : VK} {a : α} (h : RetM G rt u w r y a) (up : Up G B1) : RetM (G.at B1) rt u w r y a := fun v B H S x => h v B H S (up.ext x)
theorem RaiM.root [Rp α] {w : Ox α} {C : Addr} {u : V} {B1 : Hp} {E : XK} {a : α} (h : RaiM G E u w C a) (up : Up G B1) : RaiM (G.at B1) E u w C a := fun B H S x => h B H S (up.ext x)
theorem g_retV [Rp α] {w : Ox α} {r : Rp β} {te : TE} {y : β} {u : V} {i : Nat} {a : α} (hi : T[i]? = some (.ow (owV u w) a)) (h : EvD G te T r y) (q : RetM G D.rt u w r y a) : Goes G T (tRet te D) := fun B H σ f => h B H σ f _ fun v B1 H1 x1 e1 => by
  have f1 := f.ext x1
  obtain ⟨own, o0, sl⟩ := f1.sl
  obtain ⟨s, _, u', rfl, rfl, S, hS, ho⟩ := sl i _ hi
  exact q v B1 H1 S f1.ext0 (fun p hp => o0 p i (hS p hp)) ho e1
theorem g_endV [Rp α] {w : Ox α} {u : V} {i : Nat} {a : α} {Q : VK} (hi : T[i]? = some (.ow (owV u w) a)) (q : RetM G Q u w rpUnit () a) : Goes G T fun _ H' => Q .non H' := fun B H σ f => by
  obtain ⟨own, o0, sl⟩ := f.sl
  obtain ⟨s, _, u', rfl, rfl, S, hS, ho⟩ := sl i _ hi
  exact q .non B H S f.ext0 (fun p hp => o0 p i (hS p hp)) ho rfl
theorem g_raiV [Rp α] {w : Ox α} {u : V} {i : Nat} {a : α} {E : XK} {C : Addr} (hi : T[i]? = some (.ow (owV u w) a)) (q : RaiM G E u w C a) : Goes G T fun _ H => E (.ref C) none H := fun B H σ f => by
  obtain ⟨own, o0, sl⟩ := f.sl
  obtain ⟨s, _, u', rfl, rfl, S, hS, ho⟩ := sl i _ hi
  exact q B H S f.ext0 (fun p hp => o0 p i (hS p hp)) ho
theorem Fr.entryM {K : PySem.W.Frag} {B H : Hp} [Rp α] {w : Ox α} {a : α} {u : V} {us : List V} {S : Addr → Prop} {As : List Ty} {N : List Str} (s : Same B H) (ho : w.ox K B H a u S) (h : ArgsOk K B us As) :
    Fr ⟨K, B, delS H S⟩ B H (L2.start N (u :: us)) ((Ty.ow (owV u w) a :: As) ++ List.replicate (N.length - (As.length + 1)) Ty.un) := by
  classical
  have f := Fr.entry (K := K) (B := B) (H := H) (vs := u :: us) (As := Ty.im rpAny () :: As) (N := N) s ⟨trivial, h⟩
  obtain ⟨own, o0, sl⟩ := f.sl
  refine ⟨s, Same.refl _, fun q o e => (delS_some e).2, fun q _ => rfl, by rw [f.len]; rfl, fun q => if S q then some 0 else none, fun q i e => ?_, fun i t e => ?_⟩
  · dsimp only at e
    split at e
    · rename_i hq; exact delS_in hq
    · cases e
  · cases i with
    | zero =>
      cases e
      exact ⟨some u, rfl, u, rfl, rfl, S, fun q hq => if_pos hq, ho⟩
    | succ j =>
      obtain ⟨z, e1, q⟩ := sl (j + 1) t e
      refine ⟨z, e1, ?_⟩
      have hm : (∃ (δ : Type) (r : Rp δ) (b : δ), t = Ty.im r b) ∨ t = Ty.un := by
        have e' : (As ++ List.replicate (N.length - (As.length + 1)) Ty.un)[j]? = some t := e
        by_cases hj : j < As.length
        · rw [List.getElem?_append_left hj] at e'
          refine .inl ?_
          clear e q e1 sl o0 f
          have aux : ∀ (us : List V) (As : List Ty), ArgsOk K B us As → ∀ (j : Nat) (t : Ty), As[j]? = some t → ∃ (δ : Type) (r : Rp δ) (b : δ), t = Ty.im r b := by
            intro us As
            induction As generalizing us with
            | nil => intro _ j t e; simp at e
            | cons A As ih =>
              intro h j t e
              cases us with
              | nil => cases h
              | cons v us =>
                cases A with
                | im r b =>
                  cases j with
                  | zero => simp at e; exact ⟨_, r, b, e.symm⟩
                  | succ j => exact ih us h.2 j t (by simpa using e)
                | ow r b => cases h
                | un => cases h
                | any => cases h
          exact aux us As h j t e'
        · rw [List.getElem?_append_right (by omega)] at e'
          exact .inr (List.eq_of_mem_replicate (List.mem_of_getElem? e'))
      rcases hm with ⟨δ, r, b, rfl⟩ | rfl
      · exact q
      · exact q
section
variable {ι : Type} {As : ι → List Ty} [ra : Rp α] {w : Ox α} {pre : α × ι → Prop} {r : Rp β} {f : α × ι → Except Addr (β × α)}
variable {P : Program} {wd : World} {K : PySem.W.Frag} {mg : Str → Option Value} {base : Heap} {nm qual : Str} {st : Stmt} {fa : Addr} {fd : FuncData} {N ps : List Str} {k : Nat}
theorem def_okM (F : Fun K nm qual st fa fd) (S : FnScope N ps (defScope st)) (len : ∀ x, (As x).length + 1 = ps.length)
    (hbody : ∀ (cdv : Value) (A : Around) (outer : List Env) (s : Shared) (H : Hp) (E : XK), Room k (A.deeper (envOfC qual (defScope st) s.heap.objs.size fa cdv)) →
      ∃ t, PSs (cxOf (L2.CX P wd) P wd K mg base N qual (defScope st) fa cdv A outer s H E) (defBody st) t ∧ ∀ (B H1 : Hp) (a : α) (x : ι) (u : V) (Q : VK), pre (a, x) → (∀ y a', f (a, x) = .ok (y, a') → RetM ⟨K, B, H1⟩ Q u w r y a') → (∀ C, f (a, x) = .error C → RaiM ⟨K, B, H1⟩ E u w C a) →
        Goes ⟨K, B, H1⟩ ((.ow (owV u w) a :: As x) ++ List.replicate (N.length - ((As x).length + 1)) .un) (t { nx := fun _ H' => Q .non H', rt := Q })) :
    FnOk P wd K mg base (L2.CX P wd) (k + 1) fa fd ps (SpM K w As pre r f) := by
  refine F.okX S (fun vs H Q E h => ?_) (fun cdv A outer s H vs Q E hr h => ?_)
  · obtain ⟨B, a, x, u, us, S, _, _, rfl, _, ok, _⟩ := h
    show us.length + 1 = _
    rw [args_len ok]
    exact len x
  · obtain ⟨B, a, x, u, us, S, sB, hp, rfl, ho, ok, h1, h2⟩ := h
    obtain ⟨t, ht, hg⟩ := hbody cdv A outer s H E hr
    exact ⟨t, ht, hg B (delS H S) a x u Q hp (fun y a' e v B' H' S' y2 hS ho' hy => h1 y a' e v B' H' S' y2 hS ho' hy) (fun C e B' H' S' y2 hS ho' => h2 C e B' H' S' y2 hS ho') B H _ (Fr.entryM sB ho ok)⟩
end
/-- an expression that changes a slot's thing -/
def EvM (G : Cn) (te : TE) (T : List Ty) {β : Type} (r : Rp β) (y : β) (T' : List Ty) : Prop := ∀ B H σ, Fr G B H σ T → ∀ Q : VK, (∀ v B' H', Fr G B' H' σ T' → r.rp G.K B' y v → Q v H') → te σ H Q
theorem g_asgM {te : TE} {r : Rp β} {y : β} {T' : List Ty} {i : Nat} (h : EvM G te T r y T') (q : Goes G (T'.set i (.im r y)) D.nx) : Goes G T (tAsg te (gName i) D) := fun B H σ f => h B H σ f _ fun v B' H' f' e => q B' H' _ (f'.set_im i r e)
theorem q_asgM {te : TE} {tu : TS} {r : Rp β} {y : β} {T' : List Ty} {i : Nat} (h : EvM G te T r y T') (q : Goes G (T'.set i (.im r y)) (tu D)) : Goes G T (tSeq (tAsg te (gName i)) tu D) := g_asgM (D := { D with nx := tu D }) h q
theorem g_dropM {te : TE} {r : Rp β} {y : β} {T' : List Ty} (h : EvM G te T r y T') (q : Goes G T' D.nx) : Goes G T (tDrop te D) := fun B H σ f => h B H σ f _ fun v B' H' f' _ => q B' H' _ f'
theorem q_dropM {te : TE} {tu : TS} {r : Rp β} {y : β} {T' : List Ty} (h : EvM G te T r y T') (q : Goes G T' (tu D)) : Goes G T (tSeq (tDrop te) tu D) := g_dropM (D := { D with nx := tu D }) h q
theorem g_retMV [Rp α] {w : Ox α} {te : TE} {r : Rp β} {y : β} {T' : List Ty} {i : Nat} {a : α} {u : V} (h : EvM G te T r y T') (hi : T'[i]? = some (.ow (owV u w) a)) (q : RetM G D.rt u w r y a) : Goes G T (tRet te D) := fun B H σ f => h B H σ f _ fun v B1 H1 f1 e1 => by
  obtain ⟨own, o0, sl⟩ := f1.sl
  obtain ⟨s, _, u', rfl, rfl, S, hS, ho⟩ := sl i _ hi
  exact q v B1 H1 S f1.ext0 (fun p hp => o0 p i (hS p hp)) ho e1
theorem g_retMD {te : TE} {r : Rp β} {y : β} {T' : List Ty} (h : EvM G te T r y T') (q : RetD G D.rt r y) : Goes G T (tRet te D) := fun B H σ f => h B H σ f _ fun v B1 H1 f1 e1 => q v B1 H1 f1.ext0 e1
section
variable {ι : Type} {As : ι → List Ty} [ra : Rp α] {w : Ox α} {pre : α × ι → Prop} {r : Rp β} {f : α × ι → Except Addr (β × α)} {E : XK} {ES : L2.St → XK} {tr : TA} {x : ι} {a a' : α} {y : β} {u : V} {j : Nat}
/-- f(x, ..), x changed -/
theorem ev_callM (hj : T[j]? = some (.ow (owV u w) a)) (ha : EvA G tr T (As x)) (hp : pre (a, x)) (hf : f (a, x) = .ok (y, a')) : EvM G (tCall (SpM G.K w As pre r f) [] E (tCons (tVar j) tr)) T r y (T.set j (.ow (owV u w) a')) := fun B H σ fr Q q => by
  obtain ⟨S0, e1, _⟩ := fr.getO hj
  refine ⟨u, e1, ha B H σ fr _ fun vs B1 H1 x1 ok => ?_⟩
  have fr1 := fr.ext x1
  obtain ⟨S, e2, ho, hS0, k⟩ := fr1.mutO hj
  show SpM G.K w As pre r f ((u :: vs) ++ []) H1 Q E
  rw [List.append_nil]
  exact ⟨B1, a, x, u, vs, S, x1.s, hp, rfl, ho, ok, fun y' b' e v B' H' S' z hS' ho' hy => by
    rw [hf] at e
    cases e
    exact q v B' H' (k α ra w a' B' H' S' z hS' ho') hy, fun C e => by rw [hf] at e; cases e⟩
theorem ev_callMT (hj : T[j]? = some (.ow (owV u w) a)) (ha : EvA G tr T (As x)) (hp : pre (a, x)) (hf : f (a, x) = .ok (y, a')) : EvM G (tCallS (SpM G.K w As pre r f) ES (tCons (tVar j) tr)) T r y (T.set j (.ow (owV u w) a')) := fun B H σ fr Q q => by
  obtain ⟨S0, e1, _⟩ := fr.getO hj
  refine ⟨u, e1, ha B H σ fr _ fun vs B1 H1 x1 ok => ?_⟩
  have fr1 := fr.ext x1
  obtain ⟨S, e2, ho, hS0, k⟩ := fr1.mutO hj
  exact ⟨B1, a, x, u, vs, S, x1.s, hp, rfl, ho, ok, fun y' b' e v B' H' S' z hS' ho' hy => by
    rw [hf] at e
    cases e
    exact q v B' H' (k α ra w a' B' H' S' z hS' ho') hy, fun C e => by rw [hf] at e; cases e⟩
theorem set_same {T : List Ty} {j : Nat} {t : Ty} (h : T[j]? = some t) : T.set j t = T := by
  obtain ⟨h1, h2⟩ := List.getElem?_eq_some_iff.mp h
  rw [← h2]
  exact List.set_getElem_self h1
theorem ex_callM {C : Addr} (hj : T[j]? = some (.ow (owV u w) a)) (ha : EvA G tr T (As x)) (hp : pre (a, x)) (hf : f (a, x) = .error C) : EvXT G (tCall (SpM G.K w As pre r f) [] E (tCons (tVar j) tr)) T (fun _ H => E (.ref C) none H) := fun kk B H σ fr Q => by
  obtain ⟨S0, e1, _⟩ := fr.getO hj
  refine ⟨u, e1, ha B H σ fr _ fun vs B1 H1 x1 ok => ?_⟩
  have fr1 := fr.ext x1
  obtain ⟨S, e2, ho, hS0, k⟩ := fr1.mutO hj
  show SpM G.K w As pre r f ((u :: vs) ++ []) H1 Q E
  rw [List.append_nil]
  exact ⟨B1, a, x, u, vs, S, x1.s, hp, rfl, ho, ok, fun y' b' e => (by rw [hf] at e; cases e), fun C' e B' H' S' z hS' ho' => by
    rw [hf] at e
    cases e
    have f2 := k α ra w a B' H' S' z hS' ho'
    rw [set_same hj] at f2
    exact kk B' H' σ f2⟩
theorem ex_callMT {C : Addr} (hj : T[j]? = some (.ow (owV u w) a)) (ha : EvA G tr T (As x)) (hp : pre (a, x)) (hf : f (a, x) = .error C) : EvXT G (tCallS (SpM G.K w As pre r f) ES (tCons (tVar j) tr)) T (fun σ H => ES σ (.ref C) none H) := fun kk B H σ fr Q => by
  obtain ⟨S0, e1, _⟩ := fr.getO hj
  refine ⟨u, e1, ha B H σ fr _ fun vs B1 H1 x1 ok => ?_⟩
  have fr1 := fr.ext x1
  obtain ⟨S, e2, ho, hS0, k⟩ := fr1.mutO hj
  exact ⟨B1, a, x, u, vs, S, x1.s, hp, rfl, ho, ok, fun y' b' e => (by rw [hf] at e; cases e), fun C' e B' H' S' z hS' ho' => by
    rw [hf] at e
    cases e
    have f2 := k α ra w a B' H' S' z hS' ho'
    rw [set_same hj] at f2
    exact kk B' H' σ f2⟩
end
end
end DL

set_option Elab.async false
set_option linter.all false
set_option maxRecDepth 100000
set_option maxHeartbeats 4000000
/-! a law's own layer, twentieth part: a list of lists, all changed in place -/
namespace DL
open PySem PySem.Spec PyProof.Rows L2
structure MT (α : Type) where
  rows : List (List α)
instance rpMT {α : Type} [Rp α] : Rp (MT α) := ⟨fun K H a v => (@rpList (List α) rpList).rp K H a.rows v, fun {K H H' a v} e h => (@rpList (List α) rpList).mono e h⟩
/-- one row, as it stands -/
def rowAt {α : Type} [Rp α] (K : PySem.W.Frag) (B H : Hp) (row : List α) (a : Addr) : Prop := B a = none ∧ ∃ ws, H a = some (.lst ws) ∧ Paired (Rp.rp K B) row ws
theorem paired_memR {α β : Type} {F : α → β → Prop} {xs : List α} {ys : List β} {y : β} (h : Paired F xs ys) (hy : y ∈ ys) : ∃ x, x ∈ xs ∧ F x y := paired_mem h hy
theorem paired_upd {α β : Type} {F F' : α → β → Prop} : ∀ {xs : List α} {ys : List β}, Paired F xs ys → (∀ x y, y ∈ ys → F x y → F' x y) → Paired F' xs ys
  | _, _, .nil, _ => .nil
  | _, _, .cons r t, h => .cons (h _ _ List.mem_cons_self r) (paired_upd t fun x y hy => h x y (List.mem_cons_of_mem _ hy))
instance oxMT {α : Type} [Rp α] : Ox (MT α) where
  ox K B H x v S := ∃ (p : Addr) (as : List Addr), v = .ref p ∧ (∀ q, S q ↔ q = p ∨ q ∈ as) ∧ p ∉ as ∧ as.Nodup ∧ B p = none ∧ H p = some (.lst (as.map V.ref)) ∧ Paired (rowAt K B H) x.rows as
  fr := by
    rintro K B H B' H' a v S ⟨p, as, e, hS, n1, n2, b, h, r⟩ sb k
    refine ⟨p, as, e, hS, n1, n2, (k p ((hS p).mpr (.inl rfl))).2, (k p ((hS p).mpr (.inl rfl))).1.trans h, paired_upd r fun row a ha ⟨c1, ws, c2, c3⟩ => ?_⟩
    obtain ⟨k1, k2⟩ := k a ((hS a).mpr (.inr ha))
    exact ⟨k2, ws, k1.trans c2, paired_mono sb c3⟩
  nb := by
    rintro K B H a v S ⟨p, as, e, hS, n1, n2, b, h, r⟩ q hq
    rcases (hS q).mp hq with rfl | hq
    · exact ⟨b, by rw [h]; intro z; cases z⟩
    · obtain ⟨row, _, c1, ws, c2, _⟩ := paired_mem r hq
      exact ⟨c1, by rw [c2]; intro z; cases z⟩
  rd := by
    rintro K B H a v S ⟨p, as, e, hS, n1, n2, b, h, r⟩ H' sb k
    refine ⟨p, as.map V.ref, e, (k p ((hS p).mpr (.inl rfl))).trans h, ?_⟩
    have r2 : Paired (fun row a => (@rpList α _).rp K H' row (V.ref a)) a.rows as := paired_upd r fun row a ha ⟨c1, ws, c2, c3⟩ => ⟨a, ws, rfl, (k a ((hS a).mpr (.inr ha))).trans c2, paired_mono sb c3⟩
    clear e hS n1 n2 h r
    generalize a.rows = rows at r2
    show Paired _ rows _
    induction r2 with
    | nil => exact .nil
    | cons x _ ih => exact .cons x ih
section
variable {G : Cn} {T : List Ty} {D : Ends} {te ta tb tc td : TE} {tu : TS} {k : L2.St → Hp → Prop} {α β γ : Type} [ri : Rp α]
theorem oxMT_ref {K : PySem.W.Frag} {B H : Hp} {x : MT α} {u : V} {S : Addr → Prop} (h : oxMT.ox K B H x u S) : ∃ p, u = .ref p := ⟨h.choose, h.choose_spec.choose_spec.1⟩
theorem paired_app1 {F : α → β → Prop} {xs : List α} {ys : List β} {x : α} {y : β} (h : Paired F xs ys) (e : F x y) : Paired F (xs ++ [x]) (ys ++ [y]) := paired_append h (.cons e .nil)
theorem ev_newMT0 : EvO G (tLst tNil) T (oxMT (α := α)) ⟨[]⟩ := fun B H σ f Q q => ⟨Nat.zero_le _, fun p hp => by
  have x := upd_extN (o := .lst []) f.bh hp
  exact q (.ref p) B _ (fun q => q = p) x (fun q hq => by rw [hq]; exact hp) ⟨p, [], rfl, fun q => by simp, List.not_mem_nil, List.nodup_nil, f.bh.free hp, upd_same, .nil⟩⟩
/-- xs.append(row), row an owned list -/
theorem g_appMT {i j : Nat} {u : V} {a : MT α} {row : ML α} (hi : T[i]? = some (.ow (owV u oxMT) a)) (hj : T[j]? = some (.ow (@owML α ri) row)) (hij : i ≠ j) (hz : a.rows.length < 100000) (q : Goes G ((T.set j .any).set i (.ow (owV u oxMT) ⟨a.rows ++ [row.l]⟩)) D.nx) :
    Goes G T (tDrop (tBM G.K "list" rAppend (tVar i) (tCons (tVar j) tNil)) D) := fun B H σ f => by
  classical
  obtain ⟨own, o0, sl⟩ := f.sl
  obtain ⟨s, e1, v, rfl, rfl, S, hS, p, as, rfl, hSp, n1, n2, b, h, r⟩ := sl i _ hi
  obtain ⟨s, d1, v, rfl, p', vs, rfl, hp', nb', hH', r'⟩ := sl j _ hj
  have hpo : own p = some i := hS p ((hSp p).mpr (.inl rfl))
  have hpp : p' ≠ p := fun z => by rw [z, hpo] at hp'; exact hij (Option.some.inj hp')
  have hpas : p' ∉ as := fun z => by
    have := hS p' ((hSp p').mpr (.inr z))
    rw [this] at hp'
    exact hij (Option.some.inj hp')
  refine ⟨_, e1, .inl ⟨rfl, _, .inl (.inl h)⟩, _, d1, p, _, .ref p', rfl, rfl, h, by rw [List.length_map, ← Paired.length r]; exact sz_lt hz, ?_⟩
  have oth : ∀ x, x ≠ p → upd H p (.lst (as.map V.ref ++ [V.ref p'])) x = H x := fun x hx => upd_ne hx
  refine q B _ σ ⟨fun x o hx => ?_, f.b0, fun x o hx => ?_, f.n0, by rw [List.length_set, List.length_set]; exact f.len, fun x => if x = p' then some i else own x, fun x n hx => ?_, fun n t e => ?_⟩
  · rw [oth x (ne_of_none hx b)]
    exact f.bh x o hx
  · rw [oth x fun z => by rw [z, o0 p i hpo] at hx; cases hx]
    exact f.h0 x o hx
  · dsimp only at hx
    split at hx
    · rename_i z; rw [z]; exact o0 p' j hp'
    · exact o0 x n hx
  · by_cases hn : n = i
    · subst hn
      have hl : n < (T.set j .any).length := by rw [List.length_set]; exact (List.getElem?_eq_some_iff.mp hi).1
      rw [List.getElem?_set_self hl] at e
      cases e
      refine ⟨_, e1, _, rfl, rfl, fun x => x = p ∨ x ∈ as ++ [p'], fun x hx => ?_, p, as ++ [p'], rfl, fun x => Iff.rfl, ?_, ?_, b, ?_, ?_⟩
      · show (if x = p' then some n else own x) = some n
        by_cases hx' : x = p'
        · rw [if_pos hx']
        · rw [if_neg hx']
          rcases hx with hx | hx
          · rw [hx]; exact hpo
          · rcases List.mem_append.mp hx with hx | hx
            · exact hS x ((hSp x).mpr (.inr hx))
            · exact absurd (List.mem_singleton.mp hx) hx'
      · intro z
        rcases List.mem_append.mp z with z | z
        · exact n1 z
        · exact hpp (List.mem_singleton.mp z).symm
      · exact List.nodup_append.mpr ⟨n2, List.nodup_cons.mpr ⟨List.not_mem_nil, List.nodup_nil⟩, fun x hx y hy => by rw [List.mem_singleton.mp hy]; intro z; rw [z] at hx; exact hpas hx⟩
      · rw [upd_same, List.map_append]; rfl
      · refine paired_append (paired_upd r fun row x hx ⟨c1, ws, c2, c3⟩ => ⟨c1, ws, (oth x fun z => n1 (by rw [← z]; exact hx)).trans c2, c3⟩) (.cons ⟨nb', vs, (oth p' hpp).trans hH', r'⟩ .nil)
    · rw [List.getElem?_set_ne (Ne.symm hn)] at e
      by_cases hnj : n = j
      · subst hnj
        have hl : n < T.length := (List.getElem?_eq_some_iff.mp hj).1
        rw [List.getElem?_set_self hl] at e
        cases e
        exact ⟨_, d1, trivial⟩
      · rw [List.getElem?_set_ne (Ne.symm hnj)] at e
        obtain ⟨s, e3, z3⟩ := sl n t e
        refine ⟨s, e3, ?_⟩
        cases t with
        | im r a => exact z3
        | ow r a =>
          obtain ⟨v, ev, z4⟩ := z3
          refine ⟨v, ev, r.fr z4 (Same.refl _) fun x hx _ => ⟨?_, oth x fun z => ?_, rfl⟩⟩
          · show (if x = p' then some i else own x) = some n
            rw [if_neg fun z => by rw [z, hp'] at hx; exact hnj (Option.some.inj hx).symm]
            exact hx
          · rw [z, hpo] at hx; exact hn (Option.some.inj hx).symm
        | un => exact z3
        | any => trivial
theorem q_appMT {i j : Nat} {u : V} {a : MT α} {row : ML α} (hi : T[i]? = some (.ow (owV u oxMT) a)) (hj : T[j]? = some (.ow (@owML α ri) row)) (hij : i ≠ j) (hz : a.rows.length < 100000) (q : Goes G ((T.set j .any).set i (.ow (owV u oxMT) ⟨a.rows ++ [row.l]⟩)) (tu D)) :
    Goes G T (tSeq (tDrop (tBM G.K "list" rAppend (tVar i) (tCons (tVar j) tNil))) tu D) := g_appMT (D := { D with nx := tu D }) hi hj hij hz q
/-- xs.append(new list) -/
theorem g_appMTN {i : Nat} {u : V} {a : MT α} {row : List α} (hi : T[i]? = some (.ow (owV u oxMT) a)) (h : EvN G te T ri row) (hz : a.rows.length < 100000) (q : Goes G (T.set i (.ow (owV u oxMT) ⟨a.rows ++ [row]⟩)) D.nx) :
    Goes G T (tDrop (tBM G.K "list" rAppend (tVar i) (tCons te tNil)) D) := fun B H σ f => by
  obtain ⟨S, e1, ⟨p, as, rfl, hSp, n1, n2, b, hH, r⟩, hS0, kk⟩ := f.mutO hi
  refine ⟨_, e1, .inl ⟨rfl, _, .inl (.inl hH)⟩, h B H σ f _ fun p' ws B1 H1 x1 m1 m2 hp' rw' => ?_⟩
  refine ⟨p, _, .ref p', rfl, rfl, x1.h _ _ hH, by rw [List.length_map, ← Paired.length r]; exact sz_lt hz, ?_⟩
  have hpp : p' ≠ p := fun z => by rw [z] at m1; rw [hH] at m1; cases m1
  have hpas : p' ∉ as := fun z => by
    obtain ⟨row, _, c1, ws, c2, _⟩ := paired_mem r z
    rw [m1] at c2; cases c2
  have oth : ∀ x, x ≠ p → upd H1 p (.lst (as.map V.ref ++ [V.ref p'])) x = H1 x := fun x hx => upd_ne hx
  have bp : B1 p = none := x1.none hH b
  refine q B1 _ σ (kk (MT α) rpMT oxMT ⟨a.rows ++ [row]⟩ B1 _ (fun x => x = p ∨ x ∈ as ++ [p']) ⟨x1.b, fun x o hx => ?_, fun x o hx => ?_, fun x hx => ?_⟩ (fun x hx => ?_) ⟨p, as ++ [p'], rfl, fun x => Iff.rfl, ?_, ?_, bp, ?_, ?_⟩)
  · obtain ⟨g1, g2⟩ := delS_some hx
    rw [oth x fun z => g1 ((hSp x).mpr (.inl z))]
    exact x1.h _ _ g2
  · rw [oth x (ne_of_none hx bp)]
    exact x1.s x o hx
  · refine x1.n x fun z => hx ?_
    by_cases hs : S x
    · exact delS_in hs
    · rw [delS_ne hs]; exact z
  · by_cases hs : S x
    · exact delS_in hs
    · rw [delS_ne hs]
      rcases hx with hx | hx
      · exact absurd ((hSp x).mpr (.inl hx)) hs
      · rcases List.mem_append.mp hx with hx | hx
        · exact absurd ((hSp x).mpr (.inr hx)) hs
        · rw [List.mem_singleton.mp hx]; exact m1
  · intro z
    rcases List.mem_append.mp z with z | z
    · exact n1 z
    · exact hpp (List.mem_singleton.mp z).symm
  · exact List.nodup_append.mpr ⟨n2, List.nodup_cons.mpr ⟨List.not_mem_nil, List.nodup_nil⟩, fun x hx y hy => by rw [List.mem_singleton.mp hy]; intro z; rw [z] at hx; exact hpas hx⟩
  · rw [upd_same, List.map_append]; rfl
  · exact paired_append (paired_upd r fun row x hx ⟨c1, vs, c2, c3⟩ => ⟨x1.none c2 c1, vs, (oth x fun z => n1 (by rw [← z]; exact hx)).trans (x1.h _ _ c2), paired_mono x1.b c3⟩) (.cons ⟨m2, ws, (oth p' hpp).trans hp', rw'⟩ .nil)
/-- a row's object -/
theorem row_get {K : PySem.W.Frag} {B H : Hp} {rows : List (List α)} {as : List Addr} {n : Int} {row : List α} (r : Paired (rowAt K B H) rows as) (e : atI rows n = some row) : ∃ (j : Nat) (x : Addr), rows[j]? = some row ∧ as[j]? = some x ∧ ixN rows.length n = some j ∧ atI (as.map V.ref) n = some (.ref x) ∧ rowAt K B H row x := by
  unfold atI at e
  cases q : ixN rows.length n with
  | none => rw [q] at e; cases e
  | some j =>
    rw [q] at e
    have e : rows[j]? = some row := e
    obtain ⟨x, h1, h2⟩ := paired_get r e
    refine ⟨j, x, e, h1, rfl, ?_, h2⟩
    unfold atI
    rw [List.length_map, ← Paired.length r, q]
    show (as.map V.ref)[j]? = _
    rw [List.getElem?_map, h1]
    rfl
theorem nodup_get {as : List Addr} (h : as.Nodup) {i j : Nat} {x : Addr} (hi : as[i]? = some x) (hj : as[j]? = some x) : i = j := by
  obtain ⟨h1, e1⟩ := List.getElem?_eq_some_iff.mp hi
  obtain ⟨h2, e2⟩ := List.getElem?_eq_some_iff.mp hj
  exact (List.getElem_inj h).mp (e1.trans e2.symm)
theorem rows_set {K : PySem.W.Frag} {B H : Hp} {a : Addr} {ws : List V} {row : List α} : ∀ {rows : List (List α)} {as : List Addr} (j : Nat), Paired (rowAt K B H) rows as → as.Nodup → as[j]? = some a → Paired (Rp.rp K B) row ws → Paired (rowAt K B (upd H a (.lst ws))) (rows.set j row) as
  | _, _, _, .nil, _, h, _ => by simp at h
  | _ :: _, x :: as, 0, .cons r t, nd, h, hr => by
    simp at h
    subst h
    have nd := List.nodup_cons.mp nd
    exact .cons ⟨r.1, ws, upd_same, hr⟩ (paired_upd t fun row y hy ⟨c1, vs, c2, c3⟩ => ⟨c1, vs, (upd_ne fun z => nd.1 (by rw [← z]; exact hy)).trans c2, c3⟩)
  | _ :: _, x :: as, j + 1, .cons r t, nd, h, hr => by
    have nd := List.nodup_cons.mp nd
    have h : as[j]? = some a := by simpa using h
    have hxa : x ≠ a := fun z => nd.1 (by rw [z]; exact List.mem_of_getElem? h)
    obtain ⟨c1, vs, c2, c3⟩ := r
    exact .cons ⟨c1, vs, (upd_ne hxa).trans c2, c3⟩ (rows_set j t nd.2 h hr)
/-- a row changed, all else as it stands -/
theorem Fr.rowSet {B H : Hp} {σ : L2.St} (f : Fr G B H σ T) {i : Nat} {u : V} {a : MT α} {n : Int} {row : List α} (hi : T[i]? = some (.ow (owV u oxMT) a)) (e : atI a.rows n = some row) :
    ∃ (p x : Addr) (vs : List V) (ws : List V) (j : Nat), u = .ref p ∧ H p = some (.lst vs) ∧ atI vs n = some (.ref x) ∧ H x = some (.lst ws) ∧ Paired (ri.rp G.K B) row ws ∧ ixN a.rows.length n = some j ∧ ∀ (row' : List α) (ws' : List V), Paired (ri.rp G.K B) row' ws' → Fr G B (upd H x (.lst ws')) σ (T.set i (.ow (owV u oxMT) ⟨a.rows.set j row'⟩)) := by
  obtain ⟨S, e1, ⟨p, as, rfl, hSp, n1, n2, b, hH, r⟩, hS0, kk⟩ := f.mutO hi
  obtain ⟨j, x, g1, g2, g3, g4, c1, ws, c2, c3⟩ := row_get r e
  refine ⟨p, x, _, ws, j, rfl, hH, g4, c2, c3, g3, fun row' ws' hr => ?_⟩
  have hx := List.mem_of_getElem? g2
  have hpx : p ≠ x := fun z => n1 (by rw [z]; exact hx)
  refine kk (MT α) rpMT oxMT _ B _ S ⟨Same.refl _, fun y o hy => ?_, fun y o hy => ?_, fun _ _ => rfl⟩ (fun y hy => delS_in hy) ⟨p, as, rfl, hSp, n1, n2, b, (upd_ne hpx).trans hH, rows_set j r n2 g2 hr⟩
  · obtain ⟨k1, k2⟩ := delS_some hy
    rw [upd_ne fun z => k1 ((hSp y).mpr (.inr (by rw [z]; exact hx)))]
    exact k2
  · rw [upd_ne (ne_of_none hy c1)]
    exact f.bh y o hy
/-- xs[n][m] = y -/
theorem g_setMT {i : Nat} {u : V} {a : MT α} {y : α} {n m : Int} {row : List α} {jn jm : Nat} (hi : T[i]? = some (.ow (owV u oxMT) a)) (h : EvD G te T ri y) (hn : EvD G ta T rpInt n) (hm : EvD G tb T rpInt m) (er : atI a.rows n = some row) (ejn : ixN a.rows.length n = some jn) (ejm : ixN row.length m = some jm)
    (q : Goes G (T.set i (.ow (owV u oxMT) ⟨a.rows.set jn (row.set jm y)⟩)) D.nx) : Goes G T (tAsg te (gSub (tOp (rIxL G.K) (tVar i) ta) tb rSetL) D) := fun B H σ f =>
  h B H σ f _ fun v B1 H1 x1 h1 => by
    obtain ⟨S, e1, _⟩ := f.getO hi
    refine ⟨u, e1, hn B1 H1 σ (f.ext x1) _ fun w B2 H2 x2 h2 => ?_⟩
    have f2 := (f.ext x1).ext x2
    obtain ⟨p, x, vs, ws, j, rfl, hp, g1, g2, g3, g4, kk⟩ := f2.rowSet hi er
    refine ⟨p, vs, n, .ref x, rfl, h2, .inl (.inl hp), g1, hm B2 H2 σ f2 _ fun z B3 H3 x3 h3 => ?_⟩
    obtain ⟨p3, x', vs', ws', j', ep, hp', g1', g2', g3', g4', kk2⟩ := (f2.ext x3).rowSet hi er
    cases ep
    have ev : vs' = vs := by have := (x3.h _ _ hp).symm.trans hp'; cases this; rfl
    subst ev
    have ex : x' = x := by rw [g1] at g1'; cases g1'; rfl
    subst ex
    have ej : j' = jn := by rw [g4'] at ejn; cases ejn; rfl
    subst ej
    refine ⟨x', ws', m, jm, rfl, h3, g2', by rw [← Paired.length g3']; exact ejm, ?_⟩
    exact q B3 _ σ (kk2 _ _ (paired_set (ri.mono (x2.b.trans x3.b) h1) jm g3'))
/-- xs[n].append(y) -/
theorem g_appRow {i : Nat} {u : V} {a : MT α} {y : α} {n : Int} {row : List α} {jn : Nat} (hi : T[i]? = some (.ow (owV u oxMT) a)) (hn : EvD G ta T rpInt n) (h : EvD G te T ri y) (er : atI a.rows n = some row) (ejn : ixN a.rows.length n = some jn) (hz : row.length < 100000)
    (q : Goes G (T.set i (.ow (owV u oxMT) ⟨a.rows.set jn (row ++ [y])⟩)) D.nx) : Goes G T (tDrop (tBM G.K "list" rAppend (tOp (rIxL G.K) (tVar i) ta) (tCons te tNil)) D) := fun B H σ f => by
  obtain ⟨S, e1, _⟩ := f.getO hi
  refine ⟨u, e1, hn B H σ f _ fun w B2 H2 x2 h2 => ?_⟩
  have f2 := f.ext x2
  obtain ⟨p, x, vs, ws, j, rfl, hp, g1, g2, g3, g4, kk⟩ := f2.rowSet hi er
  refine ⟨p, vs, n, .ref x, rfl, h2, .inl (.inl hp), g1, .inl ⟨rfl, _, .inl (.inl g2)⟩, h B2 H2 σ f2 _ fun v B3 H3 x3 h3 => ?_⟩
  obtain ⟨p3, x', vs', ws', j', ep, hp', g1', g2', g3', g4', kk2⟩ := (f2.ext x3).rowSet hi er
  cases ep
  have ev : vs' = vs := by have := (x3.h _ _ hp).symm.trans hp'; cases this; rfl
  subst ev
  have ex : x' = x := by rw [g1] at g1'; cases g1'; rfl
  subst ex
  have ej : j' = jn := by rw [g4'] at ejn; cases ejn; rfl
  subst ej
  refine ⟨x', ws', v, rfl, rfl, g2', by rw [← Paired.length g3']; exact sz_lt hz, ?_⟩
  exact q B3 _ σ (kk2 _ _ (paired_append g3' (.cons h3 .nil)))
theorem q_appRow {i : Nat} {u : V} {a : MT α} {y : α} {n : Int} {row : List α} {jn : Nat} (hi : T[i]? = some (.ow (owV u oxMT) a)) (hn : EvD G ta T rpInt n) (h : EvD G te T ri y) (er : atI a.rows n = some row) (ejn : ixN a.rows.length n = some jn) (hz : row.length < 100000)
    (q : Goes G (T.set i (.ow (owV u oxMT) ⟨a.rows.set jn (row ++ [y])⟩)) (tu D)) : Goes G T (tSeq (tDrop (tBM G.K "list" rAppend (tOp (rIxL G.K) (tVar i) ta) (tCons te tNil))) tu D) := g_appRow (D := { D with nx := tu D }) hi hn h er ejn hz q
/-- its rows let stand -/
theorem g_rowsMT {i : Nat} {u : V} {a : MT α} (hi : T[i]? = some (.ow (owV u oxMT) a)) (q : Goes G (T.set i (.ow (@owML (List α) (@rpList α ri)) ⟨a.rows⟩)) k) : Goes G T k := fun B H σ f => by
  obtain ⟨v, F, e1, ⟨rfl, S, hS, p, as, rfl, hSp, n1, n2, b, hH, r⟩, kk⟩ := f.freezeG hi
  have hb : ∀ q, q ∈ as → B q = none := fun q hq => by
    obtain ⟨row, _, c1, _⟩ := paired_mem r hq
    exact c1
  refine q _ H σ (kk (fun q => q ∈ as) _ (fun q hq => ⟨hS q ((hSp q).mpr (.inr hq)), hb q hq⟩) ⟨_, rfl, p, as.map V.ref, rfl, ⟨hS p ((hSp p).mpr (.inl rfl)), n1⟩, (glue_ne n1).trans b, hH, ?_⟩)
  have sB := glue_up (H := H) hb
  have r2 : Paired (fun row a => (@rpList α _).rp G.K (glue (fun q => q ∈ as) H B) row (V.ref a)) a.rows as := paired_upd r fun row x hx ⟨c1, ws, c2, c3⟩ => ⟨x, ws, rfl, (glue_in hx).trans c2, paired_mono sB c3⟩
  clear e1 kk hS hSp n1 n2 hH r hb q hi sB f
  show Paired _ a.rows _
  generalize glue (fun q => q ∈ as) H B = B2 at r2 ⊢
  generalize a.rows = rows at r2 ⊢
  induction r2 with
  | nil => exact .nil
  | cons x _ ih => exact .cons x ih
/-- seen as a table of another kind -/
theorem g_mapMT [r2 : Rp β] {i : Nat} {u : V} {a : MT α} {b : MT β} (hi : T[i]? = some (.ow (owV u (oxMT (α := α))) a)) (e : ∀ {K : PySem.W.Frag} {B H : Hp} {as : List Addr}, Paired (rowAt K B H) a.rows as → Paired (rowAt K B H) b.rows as) (q : Goes G (T.set i (.ow (owV u (oxMT (α := β))) b)) k) : Goes G T k := fun B H σ f => q B H σ (by
  obtain ⟨own, o0, sl⟩ := f.sl
  refine ⟨f.bh, f.b0, f.h0, f.n0, by rw [List.length_set]; exact f.len, own, o0, fun j t h => ?_⟩
  by_cases hj : i = j
  · subst hj
    have hl : i < T.length := (List.getElem?_eq_some_iff.mp hi).1
    rw [List.getElem?_set_self hl] at h
    cases h
    obtain ⟨s, e1, v, e2, e3, S, hS, p, as, h1, h2, h3, h4, h5, h6, h7⟩ := sl i _ hi
    exact ⟨s, e1, v, e2, e3, S, hS, p, as, h1, h2, h3, h4, h5, h6, e h7⟩
  · rw [List.getElem?_set_ne hj] at h
    exact sl j t h)
theorem g_toDMT [ToD α] {i : Nat} {u : V} {a : MT α} (hi : T[i]? = some (.ow (owV u (oxMT (α := α))) a)) (q : Goes G (T.set i (.ow (owV u (oxMT (α := DL.D))) ⟨a.rows.map fun row => row.map ToD.d⟩)) k) : Goes G T k := g_mapMT (b := ⟨a.rows.map fun row => row.map ToD.d⟩) hi (fun h => paired_map (F := rowAt _ _ _) (fun row x ⟨c1, ws, c2, c3⟩ => ⟨c1, ws, c2, paired_map (fun _ _ z => ToD.rp z) c3⟩) h) q
/-- [new list for .. in ..] -/
theorem ev_lcT {δ : Type} [r2 : Rp δ] {r : Rp γ} {wi : TI} {g : TG} {vs : List Nat} {xs : List γ} (f : γ → List δ) (hi : EvI G wi T r xs) (ho : Own g vs)
    (hs : ∀ x, x ∈ xs → ∃ T2, EvG G g (wipeT T vs) r x T2 ∧ EvN G te T2 r2 (f x)) (hz : xs.length ≤ 90000) : EvO G (tLc wi g tYes te vs) T (oxMT (α := δ)) ⟨xs.map f⟩ := fun B H σ fr Q q => hi B H σ fr _ fun J B1 H1 x1 ok => by
  refine fun Dl hD => ?_
  have nD : H Dl = none := x1.h.free hD
  have nB : B1 Dl = none := x1.s.free hD
  have x1' : Ext B H B1 (upd H1 Dl (.lst [])) := x1.trans (upd_extN x1.s hD)
  refine ⟨fun i m H' => m = xs.length - i ∧ i ≤ xs.length ∧ ∃ B' as, Ext B H B' H' ∧ Same B1 B' ∧ B' Dl = none ∧ H' Dl = some (.lst (as.map V.ref)) ∧ Dl ∉ as ∧ as.Nodup ∧ (∀ a ∈ as, H a = none) ∧ Paired (rowAt G.K B' H') ((xs.take i).map f) as,
    ⟨xs.length, rfl, Nat.zero_le _, B1, [], x1', Same.refl _, nB, upd_same, List.not_mem_nil, List.nodup_nil, fun a h => absurd h List.not_mem_nil, by rw [List.take_zero]; exact .nil⟩, ?_⟩
  rintro i m H' ⟨rfl, hle, B', as, x', s1, nB', hDl, nd1, nd2, nf, pw⟩
  by_cases hlt : i < xs.length
  · have ex : xs[i]? = some xs[i] := List.getElem?_eq_getElem hlt
    obtain ⟨T2, hg, he⟩ := hs xs[i] (List.getElem_mem hlt)
    have etk : xs.take (i + 1) = xs.take i ++ [xs[i]] := by rw [List.take_add_one, ex] <;> rfl
    refine .inr ⟨ok.go B' H' i _ s1 x'.s ex, fun H3 => ∃ B3 as3, Ext B H B3 H3 ∧ Same B1 B3 ∧ B3 Dl = none ∧ H3 Dl = some (.lst (as3.map V.ref)) ∧ Dl ∉ as3 ∧ as3.Nodup ∧ (∀ a ∈ as3, H a = none) ∧ Paired (rowAt G.K B3 H3) ((xs.take (i + 1)).map f) as3, fun H3 h3 => ⟨xs.length - (i + 1), by omega, rfl, hlt, h3⟩, fun v H2 y => ?_⟩
    obtain ⟨B2, x2, rv⟩ := ok.yld B' H' i _ v H2 s1 x'.s ex y
    have fr2 : Fr G B2 H2 (L2.wipe σ vs) (wipeT T vs) := ((fr.ext x').ext x2).wipe vs
    refine ho v _ H2 (fun σ2 H4 => H4 = H2 ∧ Fr G B2 H2 σ2 T2) _ (fun σ2 hw hq => ?_) (hg B2 H2 _ v fr2 rv _ fun σ2 f2 => ⟨rfl, f2⟩)
    obtain ⟨_, f2⟩ := hq
    refine ⟨by rw [hw, wipe_wipe], ?_⟩
    refine et_yes (G := G) (T := T2) B2 H2 σ2 f2 _ fun B5 H5 x5 => ?_
    refine iteT (he B5 H5 σ2 (f2.ext x5) _ fun p' ws B6 H6 x6 m1 m2 hp' rw6 => ?_)
    have x25 := x2.trans x5
    have x26 := x25.trans x6
    have hD5 : H5 Dl = some (.lst (as.map V.ref)) := x5.h _ _ (x2.h _ _ hDl)
    have nB6 : B6 Dl = none := x26.none hDl nB'
    have hpD : p' ≠ Dl := fun z => by rw [z, hD5] at m1; cases m1
    have hpas : p' ∉ as := fun z => by
      obtain ⟨row, _, c1, vs', c2, _⟩ := paired_mem pw z
      rw [x25.h _ _ c2] at m1; cases m1
    have hl : (as.map V.ref).length < 100000 := by
      rw [List.length_map, ← Paired.length pw, List.length_map]
      have h2 := List.length_take_le i xs
      omega
    refine ⟨as.map V.ref, x6.h _ _ hD5, sz_lt hl, B6, as ++ [p'], ⟨(x'.trans x26).b, fun b o e => ?_, fun b o e => ?_, (x'.trans x26).n⟩, s1.trans x26.b, nB6, ?_, ?_, ?_, ?_, ?_⟩
    · rw [upd_ne (ne_of_none e nD)]; exact (x'.trans x26).h b o e
    · rw [upd_ne (ne_of_none e nB6)]; exact x26.s b o e
    · rw [upd_same, List.map_append]; rfl
    · intro z
      rcases List.mem_append.mp z with z | z
      · exact nd1 z
      · exact hpD (List.mem_singleton.mp z).symm
    · exact List.nodup_append.mpr ⟨nd2, List.nodup_cons.mpr ⟨List.not_mem_nil, List.nodup_nil⟩, fun x hx y hy => by rw [List.mem_singleton.mp hy]; intro z; rw [z] at hx; exact hpas hx⟩
    · intro a ha
      rcases List.mem_append.mp ha with ha | ha
      · exact nf a ha
      · rw [List.mem_singleton.mp ha]
        exact x'.h.free (x25.h.free m1)
    · rw [etk, List.map_append]
      exact paired_append (paired_upd pw fun row x hx ⟨c1, vs', c2, c3⟩ => ⟨x26.none c2 c1, vs', (upd_ne fun z => nd1 (by rw [← z]; exact hx)).trans (x26.h _ _ c2), paired_mono x26.b c3⟩) (.cons ⟨m2, ws, (upd_ne hpD).trans hp', rw6⟩ .nil)
  · have e : i = xs.length := by omega
    subst e
    rw [List.take_length] at pw
    refine .inl ⟨ok.stop B' H' s1 x'.s, q (.ref Dl) B' H' (fun a => a = Dl ∨ a ∈ as) x' (fun a ha => ?_) ⟨Dl, as, rfl, fun _ => Iff.rfl, nd1, nd2, nB', hDl, pw⟩⟩
    rcases ha with rfl | ha
    · exact nD
    · exact nf a ha
end
end DL

set_option Elab.async false
set_option linter.all false
set_option maxRecDepth 100000
set_option maxHeartbeats 4000000
/-! a law's own layer, twenty-first part: a def that takes over its first argument for good; greatest numbers -/
namespace DL
open PySem PySem.Spec PyProof.Rows L2
/-- nothing at all -/
structure Nul where
instance rpNul : Rp Nul := ⟨fun _ _ _ _ => True, fun _ h => h⟩
instance oxNul : Ox Nul where
  ox _ _ _ _ _ S := ∀ q, ¬ S q
  fr h _ _ := h
  nb h q hq := absurd hq (h q)
  rd _ _ _ _ := trivial
def SpT (K : PySem.W.Frag) {α ι β : Type} [Rp α] (w : Ox α) (As : ι → List Ty) (pre : α × ι → Prop) (r : Rp β) (f : α × ι → β) : Sp := fun vs H Q E => ∃ (B : Hp) (a : α) (x : ι) (u : V) (us : List V) (S : Addr → Prop), Same B H ∧ pre (a, x) ∧ vs = u :: us ∧ w.ox K B H a u S ∧ ArgsOk K B us (As x) ∧
  ∀ v B' H', Ext B (delS H S) B' H' → r.rp K B' (f (a, x)) v → Q v H'
section
variable {ι α β : Type} {As : ι → List Ty} [ra : Rp α] {w : Ox α} {pre : α × ι → Prop} {r : Rp β} {f : α × ι → β}
variable {P : Program} {wd : World} {K : PySem.W.Frag} {mg : Str → Option Value} {base : Heap} {nm qual : Str} {st : Stmt} {fa : Addr} {fd : FuncData} {N ps : List Str} {k : Nat}
theorem def_okT (F : Fun K nm qual st fa fd) (S : FnScope N ps (defScope st)) (len : ∀ x, (As x).length + 1 = ps.length)
    (hbody : ∀ (cdv : Value) (A : Around) (outer : List Env) (s : Shared) (H : Hp) (E : XK), Room k (A.deeper (envOfC qual (defScope st) s.heap.objs.size fa cdv)) →
      ∃ t, PSs (cxOf (L2.CX P wd) P wd K mg base N qual (defScope st) fa cdv A outer s H E) (defBody st) t ∧ ∀ (B H1 : Hp) (a : α) (x : ι) (u : V) (Q : VK), pre (a, x) → RetD ⟨K, B, H1⟩ Q r (f (a, x)) →
        Goes ⟨K, B, H1⟩ ((.ow (owV u w) a :: As x) ++ List.replicate (N.length - ((As x).length + 1)) .un) (t { nx := fun _ H' => Q .non H', rt := Q })) :
    FnOk P wd K mg base (L2.CX P wd) (k + 1) fa fd ps (SpT K w As pre r f) := by
  refine F.okX S (fun vs H Q E h => ?_) (fun cdv A outer s H vs Q E hr h => ?_)
  · obtain ⟨B, a, x, u, us, S, _, _, rfl, _, ok, _⟩ := h
    show us.length + 1 = _
    rw [args_len ok]
    exact len x
  · obtain ⟨B, a, x, u, us, S, sB, hp, rfl, ho, ok, h1⟩ := h
    obtain ⟨t, ht, hg⟩ := hbody cdv A outer s H E hr
    exact ⟨t, ht, hg B (delS H S) a x u Q hp (fun v B' H' y z => h1 v B' H' y z) B H _ (Fr.entryM sB ho ok)⟩
variable {G : Cn} {T : List Ty} {D : Ends} {tu : TS} {E : XK} {tr : TA} {x : ι} {a : α} {b : β} {u : V} {i j : Nat}
theorem ev_callTk (hj : T[j]? = some (.ow (owV u w) a)) (ha : EvA G tr T (As x)) (hp : pre (a, x)) (hf : f (a, x) = b) : EvM G (tCall (SpT G.K w As pre r f) [] E (tCons (tVar j) tr)) T r b (T.set j (.ow (owV u oxNul) ⟨⟩)) := fun B H σ fr Q q => by
  obtain ⟨S0, e1, _⟩ := fr.getO hj
  refine ⟨u, e1, ha B H σ fr _ fun vs B1 H1 x1 ok => ?_⟩
  have fr1 := fr.ext x1
  obtain ⟨S, e2, ho, hS0, k⟩ := fr1.mutO hj
  show SpT G.K w As pre r f ((u :: vs) ++ []) H1 Q E
  rw [List.append_nil]
  exact ⟨B1, a, x, u, vs, S, x1.s, hp, rfl, ho, ok, fun v B' H' z hy => q v B' H' (k Nul rpNul oxNul ⟨⟩ B' H' (fun _ => False) z (fun q hq => hq.elim) fun _ z => z) (by rw [hf] at hy; exact hy)⟩
end
theorem EvO.dt {G : Cn} {T : List Ty} {te : TE} {α : Type} [r : Rp α] {t : List (List α)} (h : EvO G te T (oxMT (α := α)) ⟨t⟩) : EvD G te T (@rpList (List α) (@rpList α r)) t := fun B H σ f Q q => EvO.d h B H σ f Q q
/-! ### the greatest number of a list -/
def maxL : List Int → Int
  | [] => 0
  | [x] => x
  | x :: y :: r => max x (maxL (y :: r))
theorem maxL_ok : ∀ {xs : List Int}, xs ≠ [] → maxL xs ∈ xs ∧ ∀ y ∈ xs, y ≤ maxL xs
  | [], h => absurd rfl h
  | [x], _ => ⟨List.mem_singleton.mpr rfl, fun y hy => by rw [List.mem_singleton.mp hy]; exact Int.le_refl _⟩
  | x :: y :: r, _ => by
    obtain ⟨h1, h2⟩ := maxL_ok (xs := y :: r) (by simp)
    refine ⟨?_, fun z hz => ?_⟩
    · show max x (maxL (y :: r)) ∈ _
      by_cases h : x ≤ maxL (y :: r)
      · rw [Int.max_eq_right h]; exact List.mem_cons_of_mem _ h1
      · rw [Int.max_eq_left (by omega)]; exact List.mem_cons_self
    · show z ≤ max x (maxL (y :: r))
      rcases List.mem_cons.mp hz with rfl | hz
      · exact Int.le_max_left _ _
      · exact Int.le_trans (h2 z hz) (Int.le_max_right _ _)
theorem maxL_is {xs : List Int} {k : Int} (hk : k ∈ xs) (h : ∀ y ∈ xs, y ≤ k) : k = maxL xs := by
  have hne : xs ≠ [] := fun z => by rw [z] at hk; cases hk
  obtain ⟨h1, h2⟩ := maxL_ok hne
  exact Int.le_antisymm (h2 k hk) (h _ h1)
end DL

set_option Elab.async false
set_option linter.all false
set_option maxRecDepth 100000
set_option maxHeartbeats 4000000
/-! a law's own layer, twenty-second part: reading what is owned, as the heap stands -/
namespace DL
open PySem PySem.Spec PyProof.Rows L2
section
variable {G : Cn} {T : List Ty} {te ta tb : TE} {α β : Type} {r : Rp α} {D : Ends} {k : L2.St → Hp → Prop}
theorem ev_lenH {xs : List α} (h : EvH G te T (@rpList α r) xs) : EvD G (tCB (rLenQ G.K) (tCons te tNil)) T rpInt (xs.length : Int) := fun B H σ f Q q =>
  h B H σ f _ fun v B1 H1 x1 e1 => by
    obtain ⟨p, vs, rfl, hp, z⟩ := e1
    refine ⟨p, vs, rfl, .inl (.inl (.inl hp)), ?_⟩
    rw [← Paired.length z]
    exact q _ B1 H1 x1 rfl
theorem ev_ixH {xs : List α} {i : Int} {a : α} (hl : EvH G ta T (@rpList α r) xs) (hi : EvD G tb T rpInt i) (e : atI xs i = some a) : EvH G (tOp (rIxL G.K) ta tb) T r a := fun B H σ f Q q =>
  hl B H σ f _ fun v B1 H1 x1 e1 => hi B1 H1 σ (f.ext x1) _ fun u B2 H2 x2 e2 => by
    obtain ⟨p, vs, rfl, hp, z⟩ := (@rpList α r).mono x2.h e1
    obtain ⟨y, h1, h2⟩ := atI_paired z e
    exact ⟨p, vs, i, y, rfl, e2, .inl (.inl hp), h1, q _ B2 H2 (x1.trans x2) h2⟩
theorem EvH.mt [r : Rp α] {t : List (List α)} (h : EvH G te T (rpMT (α := α)) ⟨t⟩) : EvH G te T (@rpList (List α) (@rpList α r)) t := fun B H σ f Q q => h B H σ f Q q
theorem g_letT [r : Rp α] {i : Nat} {u : V} {t : List (List α)} (h : T[i]? = some (.ow (owV u (oxMT (α := α))) ⟨t⟩)) (q : Goes G (T.set i (.im (@rpList (List α) (@rpList α r)) t)) k) : Goes G T k := by
  refine g_letO h ?_
  have hi : i < T.length := (List.getElem?_eq_some_iff.mp h).1
  refine g_as (r := rpMT) (r' := @rpList (List α) (@rpList α r)) (i := i) (a := (⟨t⟩ : MT α)) (b := t) (List.getElem?_set_self hi) (fun z => z) ?_
  rw [List.set_set]
  exact q
end
end DL

set_option Elab.async false
set_option linter.all false
set_option maxRecDepth 100000
set_option maxHeartbeats 4000000
/-! a law's own layer, twenty-third part: parts of an owned thing; methods, calls of a class -/
namespace DL
open PySem PySem.Spec PyProof.Rows L2
/-! ### a part that stands by itself within what a slot owns -/
def Has (G : Cn) (te : TE) (T : List Ty) {α : Type} [Rp α] (w : Ox α) (a : α) (U : α → List Ty) : Prop := ∀ B H σ, Fr G B H σ T → ∃ u, (∀ Q : VK, Q u H → te σ H Q) ∧ ∀ B2 H2, Ext B H B2 H2 → ∃ S, w.ox G.K B2 H2 a u S ∧ ∀ a' B' H' S', Ext B2 (delS H2 S) B' H' → (∀ q, S' q → delS H2 S q = none) → w.ox G.K B' H' a' u S' → Fr G B' H' σ (U a')
section
variable {G : Cn} {T : List Ty} {D : Ends} {te ta tb tc td ty tv : TE} {tu : TS} {k : L2.St → Hp → Prop} {α β γ : Type} [ri : Rp α]
theorem has_var {w : Ox α} {j : Nat} {a : α} {u : V} (h : T[j]? = some (.ow (owV u w) a)) : Has G (tVar j) T w a fun a' => T.set j (.ow (owV u w) a') := fun B H σ f => by
  obtain ⟨S0, e1, _⟩ := f.getO h
  refine ⟨u, fun Q q => ⟨u, e1, q⟩, fun B2 H2 x => ?_⟩
  obtain ⟨S, _, ho, _, kk⟩ := (f.ext x).mutO h
  exact ⟨S, ho, fun a' B' H' S' y hS h' => kk α ri w a' B' H' S' y hS h'⟩
/-- xs[n][m] = y -/
theorem g_setHas {a : MT α} {U : MT α → List Ty} {y : α} {n m : Int} {row : List α} {jn jm : Nat} (hi : Has G td T (oxMT (α := α)) a U) (h : EvD G te T ri y) (hn : EvD G ta T rpInt n) (hm : EvD G tb T rpInt m) (er : atI a.rows n = some row) (ejn : ixN a.rows.length n = some jn) (ejm : ixN row.length m = some jm)
    (q : Goes G (U ⟨a.rows.set jn (row.set jm y)⟩) D.nx) : Goes G T (tAsg te (gSub (tOp (rIxL G.K) td ta) tb rSetL) D) := fun B H σ f =>
  h B H σ f _ fun v B1 H1 x1 h1 => by
    obtain ⟨u, eu, ku⟩ := hi B1 H1 σ (f.ext x1)
    refine eu _ (hn B1 H1 σ (f.ext x1) _ fun w B2 H2 x2 h2 => ?_)
    obtain ⟨S, ⟨p, as, rfl, hSp, n1, n2, b, hH, r⟩, _⟩ := ku B2 H2 x2
    obtain ⟨j, x, g1, g2, g3, g4, c1, ws, c2, c3⟩ := row_get r er
    refine ⟨p, _, n, .ref x, rfl, h2, .inl (.inl hH), g4, hm B2 H2 σ ((f.ext x1).ext x2) _ fun z B3 H3 x3 h3 => ?_⟩
    obtain ⟨S3, ⟨p3, as3, ep, hSp, n1, n2, b, hH3, r⟩, kk⟩ := ku B3 H3 (x2.trans x3)
    cases ep
    have ea : as3.map V.ref = as.map V.ref := (HO.lst.inj (Option.some.inj ((x3.h _ _ hH).symm.trans hH3))).symm
    obtain ⟨j3, x', g1, g2, g3, g4', c1, ws, c2, c3⟩ := row_get r er
    rw [ea, g4] at g4'
    cases g4'
    rw [g3] at ejn
    cases ejn
    have hx := List.mem_of_getElem? g2
    have hpx : p ≠ x := fun z => n1 (by rw [z]; exact hx)
    refine ⟨x, ws, m, jm, rfl, h3, c2, by rw [← Paired.length c3]; exact ejm, ?_⟩
    refine q B3 _ σ (kk ⟨a.rows.set jn (row.set jm y)⟩ B3 _ S3 ⟨Same.refl _, fun y o hy => ?_, fun y o hy => ?_, fun _ _ => rfl⟩ (fun y hy => delS_in hy) ⟨p, as3, rfl, hSp, n1, n2, b, (upd_ne hpx).trans hH3, rows_set jn r n2 g2 (paired_set (ri.mono (x2.b.trans x3.b) h1) jm c3)⟩)
    · obtain ⟨k1, k2⟩ := delS_some hy
      rw [upd_ne fun z => k1 ((hSp y).mpr (.inr (by rw [z]; exact hx)))]
      exact k2
    · rw [upd_ne (ne_of_none hy c1)]
      exact x3.s y o hy
theorem q_setHas {a : MT α} {U : MT α → List Ty} {y : α} {n m : Int} {row : List α} {jn jm : Nat} (hi : Has G td T (oxMT (α := α)) a U) (h : EvD G te T ri y) (hn : EvD G ta T rpInt n) (hm : EvD G tb T rpInt m) (er : atI a.rows n = some row) (ejn : ixN a.rows.length n = some jn) (ejm : ixN row.length m = some jm)
    (q : Goes G (U ⟨a.rows.set jn (row.set jm y)⟩) (tu D)) : Goes G T (tSeq (tAsg te (gSub (tOp (rIxL G.K) td ta) tb rSetL)) tu D) := g_setHas (D := { D with nx := tu D }) hi h hn hm er ejn ejm q
/-! ### a dict that is changed in place, its keys whole numbers -/
instance oxDI {β : Type} [Rp β] : Ox (DI β) where
  ox K B H x v S := ∃ (p : Addr) (kvs : List (Key × V)), v = .ref p ∧ (∀ q, S q ↔ q = p) ∧ B p = none ∧ H p = some (.dK kvs) ∧ Paired (rpPr K B) x.kv kvs
  fr := by
    rintro K B H B' H' a v S ⟨p, kvs, e, hS, b, h, r⟩ sb k
    obtain ⟨k1, k2⟩ := k p ((hS p).mpr rfl)
    exact ⟨p, kvs, e, hS, k2, k1.trans h, Paired.mapP r fun _ _ z => ⟨z.1, Rp.mono sb z.2⟩⟩
  nb := by
    rintro K B H a v S ⟨p, kvs, e, hS, b, h, r⟩ q hq
    rw [(hS q).mp hq]
    exact ⟨b, by rw [h]; intro z; cases z⟩
  rd := by
    rintro K B H a v S ⟨p, kvs, e, hS, b, h, r⟩ H' sb k
    exact ⟨p, kvs, e, (k p ((hS p).mpr rfl)).trans h, Paired.mapP r fun _ _ z => ⟨z.1, Rp.mono sb z.2⟩⟩
/-- d[i] = b -/
def putI {β : Type} (i : Int) (b : β) (kv : List (Int × β)) : List (Int × β) := if (kv.any fun p => decide (p.1 = i)) = true then kv.map (fun p => if p.1 = i then (p.1, b) else p) else kv ++ [(i, b)]
/-- d.pop(i) -/
def dropI {β : Type} (i : Int) (kv : List (Int × β)) : List (Int × β) := kv.filter fun p => decide (p.1 ≠ i)
theorem pr_any {β : Type} [Rp β] {K : PySem.W.Frag} {B : Hp} {i : Int} : ∀ {kv : List (Int × β)} {kvs : List (Key × V)}, Paired (rpPr K B) kv kvs → (kvs.any fun p => decide (p.1 = (Sum.inl i : Key))) = kv.any fun p => decide (p.1 = i)
  | _, _, .nil => rfl
  | (k, c) :: kv, (k', v) :: kvs, .cons ⟨h1, _⟩ t => by
    have h1 : k' = Sum.inl k := h1
    subst h1
    rw [List.any_cons, List.any_cons, pr_any t]
    congr 1
    show decide ((Sum.inl k : Key) = Sum.inl i) = decide (k = i)
    by_cases e : k = i
    · subst e; rw [decide_eq_true rfl, decide_eq_true rfl]
    · rw [decide_eq_false e, decide_eq_false fun z => e (Sum.inl.inj z)]
theorem pr_put {β : Type} [Rp β] {K : PySem.W.Frag} {B : Hp} {i : Int} {b : β} {v : V} {kv : List (Int × β)} {kvs : List (Key × V)} (h : Paired (rpPr K B) kv kvs) (hv : Rp.rp K B b v) : Paired (rpPr K B) (putI i b kv) (putK kvs (.inl i) v) := by
  unfold putI putK
  rw [pr_any h]
  split
  · rename_i hh
    clear hh
    induction h with
    | nil => exact .nil
    | @cons p q ps qs h0 t ih =>
      obtain ⟨k, c⟩ := p
      obtain ⟨k', w⟩ := q
      obtain ⟨h1, h2⟩ := h0
      have h1 : k' = Sum.inl k := h1
      subst h1
      rw [List.map_cons, List.map_cons]
      refine .cons ?_ ih
      by_cases e : k = i
      · subst e
        rw [if_pos rfl, if_pos rfl]
        exact ⟨rfl, hv⟩
      · rw [if_neg e, if_neg fun z => e (Sum.inl.inj z)]
        exact ⟨rfl, h2⟩
  · exact paired_append h (.cons ⟨rfl, hv⟩ .nil)
theorem pr_drop {β : Type} [Rp β] {K : PySem.W.Frag} {B : Hp} {i : Int} {kv : List (Int × β)} {kvs : List (Key × V)} (h : Paired (rpPr K B) kv kvs) : Paired (rpPr K B) (dropI i kv) (dropK kvs (.inl i)) := by
  unfold dropI dropK
  induction h with
  | nil => exact .nil
  | @cons p q ps qs h0 t ih =>
    obtain ⟨k, c⟩ := p
    obtain ⟨k', w⟩ := q
    obtain ⟨h1, h2⟩ := h0
    have h1 : k' = Sum.inl k := h1
    subst h1
    rw [List.filter_cons, List.filter_cons]
    by_cases e : k = i
    · subst e
      rw [if_neg (by simp), if_neg (by simp)]
      exact ih
    · rw [if_pos (by simpa using e), if_pos (by simpa using e)]
      exact .cons ⟨rfl, h2⟩ ih
theorem look_any {β : Type} {i : Int} : ∀ kv : List (Int × β), (kv.any fun p => decide (p.1 = i)) = (lookI i kv).isSome
  | [] => rfl
  | (k, c) :: kv => by
    rw [List.any_cons]
    show (decide (k = i) || _) = (if k = i then some c else lookI i kv).isSome
    by_cases e : k = i
    · rw [if_pos e, decide_eq_true e]; rfl
    · rw [if_neg e, decide_eq_false e, Bool.false_or, look_any kv]
theorem pr_valN {β : Type} [Rp β] {K : PySem.W.Frag} {B : Hp} {i : Int} {kv : List (Int × β)} {kvs : List (Key × V)} (h : Paired (rpPr K B) kv kvs) : (valV kvs (.inl i : Key)).isSome = (lookI i kv).isSome := by
  rw [← look_any, ← pr_any h, valV_any]
variable {rv : Rp β}
/-- d[i] = b -/
theorem g_dputHas {a : DI β} {U : DI β → List Ty} {i : Int} {b : β} (hi : Has G td T (@oxDI β rv) a U) (hv : EvD G tv T rv b) (hk : EvD G ty T rpInt i) (hz : a.kv.length < 100000) (q : Goes G (U ⟨putI i b a.kv⟩) D.nx) : Goes G T (sDPut td ty tv D) := fun B H σ f =>
  hv B H σ f _ fun v B1 H1 x1 h1 => by
    obtain ⟨u, eu, ku⟩ := hi B1 H1 σ (f.ext x1)
    refine eu _ (hk B1 H1 σ (f.ext x1) _ fun w B2 H2 x2 h2 => ?_)
    obtain ⟨S, ⟨p, kvs, rfl, hS, b0, hH, r⟩, kk⟩ := ku B2 H2 x2
    refine ⟨p, upd H2 p (.dK (putK kvs (.inl i) v)), rfl, ?_, ?_⟩
    · rw [show w = kV (.inl i) from h2]
      exact DPut.k hH (by rw [← Paired.length r]; exact sz_lt hz)
    · refine q B2 _ σ (kk ⟨putI i b a.kv⟩ B2 _ S ⟨Same.refl _, fun y o hy => ?_, fun y o hy => ?_, fun _ _ => rfl⟩ (fun y hy => delS_in hy) ⟨p, _, rfl, hS, b0, upd_same, pr_put r (rv.mono x2.b h1)⟩)
      · obtain ⟨k1, k2⟩ := delS_some hy
        rw [upd_ne fun z => k1 ((hS y).mpr z)]
        exact k2
      · rw [upd_ne (ne_of_none hy b0)]
        exact (x2.s) y o hy
theorem q_dputHas {a : DI β} {U : DI β → List Ty} {i : Int} {b : β} (hi : Has G td T (@oxDI β rv) a U) (hv : EvD G tv T rv b) (hk : EvD G ty T rpInt i) (hz : a.kv.length < 100000) (q : Goes G (U ⟨putI i b a.kv⟩) (tu D)) : Goes G T (tSeq (sDPut td ty tv) tu D) := g_dputHas (D := { D with nx := tu D }) hi hv hk hz q
/-- d.pop(i), i in d -/
theorem g_dpopHas {a : DI β} {U : DI β → List Ty} {i : Int} {b : β} (hi : Has G td T (@oxDI β rv) a U) (hk : EvD G ty T rpInt i) (hl : lookI i a.kv = some b) (q : Goes G (U ⟨dropI i a.kv⟩) D.nx) : Goes G T (tDrop (tDPop1 td ty) D) := fun B H σ f => by
  obtain ⟨u, eu, ku⟩ := hi B H σ f
  obtain ⟨S0, ⟨p0, kvs0, e0, _, _, hH0, _⟩, _⟩ := ku B H (Ext.refl f.bh)
  refine eu _ ⟨p0, e0, .inl ⟨kvs0, .inl hH0⟩, hk B H σ f _ fun w B2 H2 x2 h2 => ?_⟩
  obtain ⟨S, ⟨p, kvs, ep, hS, b0, hH, r⟩, kk⟩ := ku B2 H2 x2
  rw [e0] at ep
  cases ep
  obtain ⟨v, e1, e2⟩ := valV_look r hl
  refine ⟨kvs, .inl i, v, hH, h2, e1, q B2 _ σ (kk ⟨dropI i a.kv⟩ B2 _ S ⟨Same.refl _, fun y o hy => ?_, fun y o hy => ?_, fun _ _ => rfl⟩ (fun y hy => delS_in hy) ⟨p0, _, e0, hS, b0, upd_same, pr_drop r⟩)⟩
  · obtain ⟨k1, k2⟩ := delS_some hy
    rw [upd_ne fun z => k1 ((hS y).mpr z)]
    exact k2
  · rw [upd_ne (ne_of_none hy b0)]
    exact x2.s y o hy
theorem q_dpopHas {a : DI β} {U : DI β → List Ty} {i : Int} {b : β} (hi : Has G td T (@oxDI β rv) a U) (hk : EvD G ty T rpInt i) (hl : lookI i a.kv = some b) (q : Goes G (U ⟨dropI i a.kv⟩) (tu D)) : Goes G T (tSeq (tDrop (tDPop1 td ty)) tu D) := g_dpopHas (D := { D with nx := tu D }) hi hk hl q
/-- d[i] of a dict that is changed in place: what stands there is not -/
theorem ev_dgetHas {a : DI β} {U : DI β → List Ty} {i : Int} {b : β} (hi : Has G td T (@oxDI β rv) a U) (hk : EvD G ty T rpInt i) (hl : lookI i a.kv = some b) : EvD G (tDGet td ty) T rv b := fun B H σ f Q q => by
  obtain ⟨u, eu, ku⟩ := hi B H σ f
  refine eu _ (hk B H σ f _ fun w B2 H2 x2 h2 => ?_)
  obtain ⟨S, ⟨p, kvs, ep, hS, b0, hH, r⟩, kk⟩ := ku B2 H2 x2
  obtain ⟨v, e1, e2⟩ := valV_look r hl
  refine ⟨p, v, ep, ?_, q v B2 H2 x2 e2⟩
  rw [show w = kV (.inl i) from h2, ← e1]
  exact DGet.k hH
/-! reading dicts as the heap stands -/
theorem ev_dgetH {d : DI β} {i : Int} {b : β} (hd : EvH G td T (@rpDI β rv) d) (hk : EvD G ta T rpInt i) (e : lookI i d.kv = some b) : EvH G (tDGet td ta) T rv b := fun B H σ f Q q =>
  hd B H σ f _ fun v B1 H1 x1 e1 => hk B1 H1 σ (f.ext x1) _ fun u B2 H2 x2 e2 => by
    obtain ⟨p, kvs, rfl, hp, z⟩ := (@rpDI β rv).mono x2.h e1
    obtain ⟨w, e3, e4⟩ := valV_look z e
    refine ⟨p, w, rfl, ?_, q w B2 H2 (x1.trans x2) e4⟩
    rw [show u = kV (.inl i) from e2, ← e3]
    exact DGet.k hp
theorem ev_dinH {d : DI β} {i : Int} (hk : EvD G ta T rpInt i) (hd : EvH G td T (@rpDI β rv) d) : EvD G (tDIn ta td) T rpBool (lookI i d.kv).isSome := fun B H σ f Q q =>
  hk B H σ f _ fun u B1 H1 x1 e1 => hd B1 H1 σ (f.ext x1) _ fun v B2 H2 x2 e2 => by
    obtain ⟨p, kvs, rfl, hp, z⟩ := e2
    refine ⟨p, valV kvs (.inl i), rfl, ?_, ?_⟩
    · rw [show u = kV (.inl i) from e1]; exact DGet.k hp
    · rw [pr_valN z]; exact q _ B2 H2 (x1.trans x2) rfl
theorem ev_dninH {d : DI β} {i : Int} (hk : EvD G ta T rpInt i) (hd : EvH G td T (@rpDI β rv) d) : EvD G (tDNotIn ta td) T rpBool (!(lookI i d.kv).isSome) := fun B H σ f Q q =>
  hk B H σ f _ fun u B1 H1 x1 e1 => hd B1 H1 σ (f.ext x1) _ fun v B2 H2 x2 e2 => by
    obtain ⟨p, kvs, rfl, hp, z⟩ := e2
    refine ⟨p, valV kvs (.inl i), rfl, ?_, ?_⟩
    · rw [show u = kV (.inl i) from e1]; exact DGet.k hp
    · rw [pr_valN z]; exact q _ B2 H2 (x1.trans x2) rfl
/-- {} -/
theorem ev_newDI : EvO G tDNewK T (@oxDI β rv) ⟨[]⟩ := fun B H σ f Q q p hp => by
  have x := upd_extN (o := .dK []) f.bh hp
  exact q (.ref p) B _ (fun q => q = p) x (fun q hq => by rw [hq]; exact hp) ⟨p, [], rfl, fun _ => Iff.rfl, f.bh.free hp, upd_same, .nil⟩
/-- sorted(d): its keys, rising -/
def rSortedDI : List V → Hp → VK → Prop := fun xs H Q => ∃ (a : Addr) (kvs : List (Key × V)) (ks : List Int), xs = [.ref a] ∧ Rd H a (.dK kvs) ∧ kvs.map (·.1) = ks.map Sum.inl ∧ ks.length < 64 ∧ ∀ (ys : List Int) (p : Addr), ys.Perm ks → ys.Pairwise (· ≤ ·) → H p = none → Q (.ref p) (upd H p (.lst (ys.map V.int)))
theorem ev_sortedDI {d : DI β} {ys : List Int} (h : EvH G te T (@rpDI β rv) d) (hl : d.kv.length < 64) (hy : ys.Perm (d.kv.map fun p => p.1)) (hs : ys.Pairwise (· ≤ ·)) : EvN G (tCB rSortedDI (tCons te tNil)) T rpInt ys := fun B H σ f Q q =>
  h B H σ f _ fun v B1 H1 x1 e1 => by
    obtain ⟨p, kvs, rfl, hp, z⟩ := e1
    refine ⟨p, kvs, d.kv.map fun p => p.1, rfl, .inl hp, by rw [pr_keys z, List.map_map]; rfl, by rw [List.length_map]; exact hl, fun ns l h1 h2 hl => ?_⟩
    have e2 : ns = ys := (h1.trans hy.symm).eq_of_pairwise (fun a b _ _ h1 h2 => Int.le_antisymm h1 h2) h2 hs
    subst e2
    have x2 := upd_extN (o := .lst (ns.map V.int)) x1.s hl
    exact q l _ B1 _ (x1.trans x2) (x1.h.free hl) (x1.s.free hl) upd_same of_ints
end
end DL

set_option Elab.async false
set_option linter.all false
set_option maxRecDepth 100000
set_option maxHeartbeats 4000000
/-! a law's own layer, twenty-fourth part: a class: its methods, its making -/
namespace DL
open PySem PySem.Spec PyProof.Rows L2
/-- a method as it stands -/
structure MDefT (K : PySem.W.Frag) (C : Addr) (m qual : Str) (st : Stmt) (ps : List Str) : Prop where
  ex : ∃ f fd, Fun K m qual st f fd ∧ Meth K C m f ∧ Binds K fd ps []
/-- a method with its promise -/
structure MDef (P : Program) (w : World) (K : PySem.W.Frag) (mg : Str → Option Value) (base : Heap) (C : Addr) (k : Nat) (m : Str) (ps : List Str) (sp : Sp) : Prop where
  ex : ∃ f fd, FnOk P w K mg base (L2.CX P w) k f fd ps sp ∧ Meth K C m f ∧ Binds K fd ps []
/-- the making of an instance as it stands -/
structure IDefT (K : PySem.W.Frag) (mg : Str → Option Value) (C : Addr) (x qual : Str) (st : Stmt) (ps : List Str) : Prop where
  ex : ∃ f fd, Fun K "__init__" qual st f fd ∧ Mk K C f ∧ Binds K fd ps [] ∧ mg x = some (.ref C)
structure IDef (P : Program) (w : World) (K : PySem.W.Frag) (mg : Str → Option Value) (base : Heap) (C : Addr) (k : Nat) (x : Str) (ps : List Str) (sp : Sp) : Prop where
  ex : ∃ f fd, FnOk P w K mg base (L2.CX P w) k f fd ps sp ∧ Mk K C f ∧ Binds K fd ps [] ∧ mg x = some (.ref C)
section
variable {P : Program} {w : World} {K : PySem.W.Frag} {mg : Str → Option Value} {base : Heap} {C : Addr} {k : Nat} {m qual x : Str} {ps : List Str} {sp : Sp} {st : Stmt}
theorem MDefT.to (T : MDefT K C m qual st ps) (h : ∀ f fd, Fun K m qual st f fd → FnOk P w K mg base (L2.CX P w) k f fd ps sp) : MDef P w K mg base C k m ps sp := by
  obtain ⟨f, fd, F, g, b⟩ := T.ex
  exact ⟨f, fd, h f fd F, g, b⟩
theorem IDefT.to (T : IDefT K mg C x qual st ps) (h : ∀ f fd, Fun K "__init__" qual st f fd → FnOk P w K mg base (L2.CX P w) k f fd ps sp) : IDef P w K mg base C k x ps sp := by
  obtain ⟨f, fd, F, g, b, e⟩ := T.ex
  exact ⟨f, fd, h f fd F, g, b, e⟩
end
section
variable {X : Cx} {C : Addr} {k j : Nat} {ps : List Str} {sp : Sp} {E : XK} {ES : L2.St → XK} {x m f : Str} {p pos pos' apos : Pos} {e o value : Expr} {es : List Expr} {ta tv : TE} {t : TA}
theorem ke_fld (K : PySem.W.Frag) (h : X.K = K) (he : PE X e ta) (hb : attributeBase e f X.env (eval e X.env) = eval e X.env := by rfl) : PE X (.Attribute e f pos) (tFld K ta f) := by subst h; exact pe_fld he hb
theorem kps_fld (K : PySem.W.Frag) (h : X.K = K) (ha : PE X o ta) (hv : PE X value tv) (hs : swapsWith value (some (.Attribute o f pos')) pos.line X.env = pure false := by rfl) : PS X (.Assign [.Attribute o f pos'] value pos) (sFld K ta tv f) := by subst h; exact ps_fld ha hv hs
theorem pe_methD {pl : Sem Bool} (D : MDef X.prog X.w X.K X.mg X.base C k m ps sp) (c : Cls X.K C) (hr : Room j X.A) (hx : Passes (L2.CX X.prog X.w) X E) (he : PE X o ta) (ha : PA X (e :: es) t) (hj : k ≤ j := by decide)
    (hst : starEach (e :: es) X.env = (false, eval e X.env) :: starEach es X.env := by rfl) (hpl : (backTo pos (starEach es X.env)).any (·.1) = false := by rfl)
    (ht : eval (.Call (.Attribute o m apos) (e :: es) [] pos) X.env = (do
      let ov ← eval o X.env
      standAt apos.atName
      let (f, first) ← holding [ov] (getMethod ov m pl)
      callWith pos f first (backTo pos (starEach (e :: es) X.env)) (backToKw pos (keywordEach [] X.env))) := by rfl) :
    PE X (.Call (.Attribute o m apos) (e :: es) [] pos) (tMeth C m sp [] E ta t) := by
  obtain ⟨g, fd, F, hm, b⟩ := D.ex
  exact pe_meth he c hm F (hr.mono hj) b .nil hx ha hst hpl ht
theorem pe_methD0 {pl : Sem Bool} (D : MDef X.prog X.w X.K X.mg X.base C k m ps sp) (c : Cls X.K C) (hr : Room j X.A) (hx : Passes (L2.CX X.prog X.w) X E) (he : PE X o ta) (hj : k ≤ j := by decide)
    (ht : eval (.Call (.Attribute o m apos) [] [] pos) X.env = (do
      let ov ← eval o X.env
      standAt apos.atName
      let (f, first) ← holding [ov] (getMethod ov m pl)
      callWith pos f first (backTo pos (starEach [] X.env)) (backToKw pos (keywordEach [] X.env))) := by rfl) :
    PE X (.Call (.Attribute o m apos) [] [] pos) (tMeth C m sp [] E ta tNil) := by
  obtain ⟨g, fd, F, hm, b⟩ := D.ex
  exact pe_meth0 he c hm F (hr.mono hj) b .nil hx ht
/-- within a try -/
def tMethT (C : Addr) (m : Str) (sp : Sp) (E : L2.St → XK) (ta : TE) (t : TA) : TE := fun σ H Q => ta σ H fun x H1 => ∃ a dx fs, x = .ref a ∧ H1 a = some (.ins C dx fs) ∧ fs.lookup m = none ∧ t σ H1 fun vs H2 => sp (x :: vs) H2 Q (E σ)
theorem pe_methDT {pl : Sem Bool} (D : MDef X.prog X.w X.K X.mg X.base C k m ps sp) (c : Cls X.K C) (hr : Room j X.A) (hx : ∀ σ, PassesAt (L2.CX X.prog X.w) X σ (ES σ)) (he : PE X o ta) (ha : PA X (e :: es) t) (hj : k ≤ j := by decide)
    (hst : starEach (e :: es) X.env = (false, eval e X.env) :: starEach es X.env := by rfl) (hpl : (backTo pos (starEach es X.env)).any (·.1) = false := by rfl)
    (ht : eval (.Call (.Attribute o m apos) (e :: es) [] pos) X.env = (do
      let ov ← eval o X.env
      standAt apos.atName
      let (f, first) ← holding [ov] (getMethod ov m pl)
      callWith pos f first (backTo pos (starEach (e :: es) X.env)) (backToKw pos (keywordEach [] X.env))) := by rfl) :
    PE X (.Call (.Attribute o m apos) (e :: es) [] pos) (tMethT C m sp ES ta t) := by
  obtain ⟨g, fd, F, hm, b⟩ := D.ex
  refine ⟨fun pins s σ H Q I h => ?_⟩
  refine PySem.W.methodCall_KW (pl := pl) (thn (he.run pins s σ H _ I h) fun u s1 ⟨x, H1, I1, rx, a, dx, fs, ex, ea, l, q⟩ => ?_) ht
  subst ex
  obtain rfl : u = Value.ref a := rx
  refine getmeth_ok I1 ea c hm l ?_
  refine PySem.W.callWith_K (first := [.ref a]) (h₀ := X.base) I.ok.mod.kin hm.kp (thn (ha.run pos pins s1 σ H1 _ I1 q) fun us s2 ⟨vs, H2, I2, r, q2⟩ => ⟨I2.kIn, ?_⟩) hst hpl
  exact run_fnS (us := .ref a :: us) (vs := .ref a :: vs) F (hr.mono hj) b (hx σ) I2 (.cons rfl r) q2
theorem pe_makeD (D : IDef X.prog X.w X.K X.mg X.base C k x ps sp) (hr : Room j X.A) (hg : Gl X x) (hx : Passes (L2.CX X.prog X.w) X E) (ha : PA X (e :: es) t) (hj : k + 1 ≤ j := by decide)
    (hdb : (x == ("__debug__" : Str)) = false := by decide) (he : starEach (e :: es) X.env = (false, eval e X.env) :: starEach es X.env := by rfl) (hpl : (backTo pos (starEach es X.env)).any (·.1) = false := by rfl) :
    PE X (.Call (.Name x p) (e :: es) [] pos) (tMake C sp [] E t) := by
  obtain ⟨g, fd, F, M, b, hm⟩ := D.ex
  exact pe_make M F (hr.mono hj) hg hm b .nil hx ha hdb he hpl
def tMakeT (C : Addr) (sp : Sp) (E : L2.St → XK) (t : TA) : TE := fun σ H Q => t σ H fun vs H1 => ∀ x dx, H1 x = none → H1 dx = none → dx ≠ x →
  sp (.ref x :: vs) (upd (upd H1 dx (.own x)) x (.ins C dx [])) (fun v H2 => v = .non ∧ Q (.ref x) H2) (E σ)
theorem run_makeT {f : Addr} {fd : FuncData} {pins : List (Addr × Obj)} {σ : L2.St} {H : Hp} {s : Shared} {Q : VK} {us : List Value} {vs : List V} (M : Mk X.K C f) (F : FnOk X.prog X.w X.K X.mg X.base (L2.CX X.prog X.w) k f fd ps sp) (hr : Room (k + 1) X.A) (hb : Binds X.K fd ps [])
    (hx : PassesAt (L2.CX X.prog X.w) X σ (ES σ)) (I : Inv X pins σ H s) (r : Vals vs us)
    (h : ∀ x dx, H x = none → H dx = none → dx ≠ x → sp (.ref x :: vs) (upd (upd H dx (.own x)) x (.ins C dx [])) (fun v H2 => v = .non ∧ Q (.ref x) H2) (ES σ)) :
    wpAny (model X.prog X.w) X.A (call (.ref C) us) (EP X pins σ Q) X.xe s := by
  have hq := h (s.heap.objs.size + 1) s.heap.objs.size (I.hok.fresh (Nat.le_succ _)) (I.hok.fresh (Nat.le_refl _)) (Nat.ne_of_lt (Nat.lt_succ_self _))
  have I2 := Inv.made (C := C) I
  have r2 : Vals (V.ref (s.heap.objs.size + 1) :: vs) (Value.ref (s.heap.objs.size + 1) :: us) := .cons rfl r
  have hl : (Value.ref (s.heap.objs.size + 1) :: us).length = ps.length := by
    have e := r2.length
    rw [F.len _ _ _ _ hq] at e
    exact e.symm
  have b := hb _ (Value.ref (s.heap.objs.size + 1) :: us) I2.kIn (by rw [List.append_nil]; exact hl)
  rw [List.append_nil] at b
  refine wpAny_call (make_map (f := f) I.kIn M.makes M.init (beq_iff_eq.mp M.fn) (codeAny_mono (F.run _ X.stack _ _ ⟨Value.ref (s.heap.objs.size + 1) :: us, []⟩ (Value.ref (s.heap.objs.size + 1) :: us) _ _ (ES σ) (hr.make C us [])
    (I2.env0.make C us []) b r2 hq) fun r s' hq' => ?_))
  cases r with
  | error e => exact hx pins _ _ e s' I2 hq'
  | ok fl =>
    cases fl with
    | ret u =>
      obtain ⟨v, H', I3, rv, ev, q3⟩ := I2.after hq'
      subst ev
      exact ⟨rv, ⟨V.ref (s.heap.objs.size + 1), H', I3, rfl, q3⟩⟩
    | next => exact False.elim hq'
    | brk => exact False.elim hq'
    | cont => exact False.elim hq'
theorem pe_makeDT (D : IDef X.prog X.w X.K X.mg X.base C k x ps sp) (hr : Room j X.A) (hg : Gl X x) (hx : ∀ σ, PassesAt (L2.CX X.prog X.w) X σ (ES σ)) (ha : PA X (e :: es) t) (hj : k + 1 ≤ j := by decide)
    (hdb : (x == ("__debug__" : Str)) = false := by decide) (he : starEach (e :: es) X.env = (false, eval e X.env) :: starEach es X.env := by rfl) (hpl : (backTo pos (starEach es X.env)).any (·.1) = false := by rfl) :
    PE X (.Call (.Name x p) (e :: es) [] pos) (tMakeT C sp ES t) := by
  obtain ⟨g, fd, F, M, b, hm⟩ := D.ex
  refine ⟨fun pins s σ H Q I h => ?_⟩
  refine wpAny_Call_Name_kw (ld_glob I hg hm ?_ hdb)
  refine PySem.W.callWith_K (h₀ := X.base) I.ok.mod.kin M.kp (thn (ha.run pos pins s σ H _ I h) fun us s1 ⟨vs, H1, I1, r, q⟩ => ⟨I1.kIn, ?_⟩) he hpl
  exact run_makeT M F (hr.mono hj) b (hx σ) I1 r q
end
/-! ### methods over plain data -/
/-- what is read so is an instance without a name of its own for m -/
def InsOf {α : Type} (r : Rp α) (C : Addr) (m : Str) : Prop := ∀ (K : PySem.W.Frag) (H : Hp) (a : α) (v : V), r.rp K H a v → ∃ p dx fs, v = .ref p ∧ H p = some (.ins C dx fs) ∧ fs.lookup m = none
section
variable {G : Cn} {T : List Ty} {D : Ends} {te ta tb tc td ty tv : TE} {tu : TS} {k : L2.St → Hp → Prop} {α β γ ι : Type} {rs : Rp α} {r' : Rp β} {C : Addr} {m : Str} {As : ι → List Ty} {As' : List Ty} {pre : ι → Prop} {f : ι → Except Addr β} {fn : ι → Except Addr (List β)} {E : XK} {ES : L2.St → XK} {tr : TA} {x : ι} {a : α}
/-- o.m(..) that reads alone; what it gives needs no heap -/
theorem ev_methS [Sc β] {b : β} (ho : EvH G ta T rs a) (hi : InsOf rs C m) (ha : EvAH G tr T As') (hA : As x = .im rs a :: As') (hp : pre x) (hf : f x = .ok b) : EvD G (tMeth C m (SpX G.K As pre r' f) [] E ta tr) T r' b := fun B H σ fr Q q =>
  ho B H σ fr _ fun v B1 H1 x1 e1 => by
    obtain ⟨p, dx, fs, rfl, h1, h2⟩ := hi _ _ _ _ e1
    refine ⟨p, dx, fs, rfl, h1, h2, ha B1 H1 σ (fr.ext x1) _ fun vs B2 H2 x2 ok => ?_⟩
    rw [List.append_nil]
    exact ⟨H2, x, Same.refl _, hp, by rw [hA]; exact ⟨rs.mono x2.h e1, ok⟩, fun b' e v B' H' y z => q v B2 H' ((x1.trans x2).trans ⟨Same.refl _, y.h, x2.s.trans y.h, fun _ _ => rfl⟩) (by rw [hf] at e; cases e; exact Sc.any z), fun C e => by rw [hf] at e; cases e⟩
theorem ev_methNS [Sc β] {b : List β} (ho : EvH G ta T rs a) (hi : InsOf rs C m) (ha : EvAH G tr T As') (hA : As x = .im rs a :: As') (hp : pre x) (hf : fn x = .ok b) : EvN G (tMeth C m (SpN G.K As pre r' fn) [] E ta tr) T r' b := fun B H σ fr Q q =>
  ho B H σ fr _ fun v B1 H1 x1 e1 => by
    obtain ⟨p, dx, fs, rfl, h1, h2⟩ := hi _ _ _ _ e1
    refine ⟨p, dx, fs, rfl, h1, h2, ha B1 H1 σ (fr.ext x1) _ fun vs B2 H2 x2 ok => ?_⟩
    rw [List.append_nil]
    exact ⟨H2, x, Same.refl _, hp, by rw [hA]; exact ⟨rs.mono x2.h e1, ok⟩, fun b' e p ws B' H' y n1 n2 h z => q p ws B2 H' ((x1.trans x2).trans ⟨Same.refl _, y.h, x2.s.trans y.h, fun _ _ => rfl⟩) ((x1.trans x2).h.free n1) (x2.s.free n1) h (by rw [hf] at e; cases e; exact paired_sc z), fun C e => by rw [hf] at e; cases e⟩
theorem ex_methF {C' : Addr} (ho : EvH G ta T rs a) (hi : InsOf rs C m) (ha : EvAH G tr T As') (hA : As x = .im rs a :: As') (hp : pre x) (hf : f x = .error C') : EvXT G (tMeth C m (SpX G.K As pre r' f) [] E ta tr) T (fun _ H => E (.ref C') none H) := fun kk B H σ fr Q =>
  ho B H σ fr _ fun v B1 H1 x1 e1 => by
    obtain ⟨p, dx, fs, rfl, h1, h2⟩ := hi _ _ _ _ e1
    refine ⟨p, dx, fs, rfl, h1, h2, ha B1 H1 σ (fr.ext x1) _ fun vs B2 H2 x2 ok => ?_⟩
    rw [List.append_nil]
    exact ⟨H2, x, Same.refl _, hp, by rw [hA]; exact ⟨rs.mono x2.h e1, ok⟩, fun b' e => (by rw [hf] at e; cases e), fun C' e H' s => by rw [hf] at e; cases e; exact kk B2 H' σ (((fr.ext x1).ext x2).ext (Ext.raise x2.s s))⟩
theorem ex_methT {C' : Addr} (ho : EvH G ta T rs a) (hi : InsOf rs C m) (ha : EvAH G tr T As') (hA : As x = .im rs a :: As') (hp : pre x) (hf : f x = .error C') : EvXT G (tMethT C m (SpX G.K As pre r' f) ES ta tr) T (fun σ H => ES σ (.ref C') none H) := fun kk B H σ fr Q =>
  ho B H σ fr _ fun v B1 H1 x1 e1 => by
    obtain ⟨p, dx, fs, rfl, h1, h2⟩ := hi _ _ _ _ e1
    refine ⟨p, dx, fs, rfl, h1, h2, ha B1 H1 σ (fr.ext x1) _ fun vs B2 H2 x2 ok => ?_⟩
    exact ⟨H2, x, Same.refl _, hp, by rw [hA]; exact ⟨rs.mono x2.h e1, ok⟩, fun b' e => (by rw [hf] at e; cases e), fun C' e H' s => by rw [hf] at e; cases e; exact kk B2 H' σ (((fr.ext x1).ext x2).ext (Ext.raise x2.s s))⟩
end
section
variable {G : Cn} {T : List Ty} {D : Ends} {α β ι : Type} [ra : Rp α] {w : Ox α} {r : Rp β} {C : Addr} {m : Str} {As : ι → List Ty} {pre : α × ι → Prop} {f : α × ι → Except Addr (β × α)} {E : XK} {ES : L2.St → XK} {tr : TA} {x : ι} {a a' : α} {y : β} {u : V} {j : Nat}
/-- o.m(..) that changes o -/
theorem ev_methM (hj : T[j]? = some (.ow (owV u w) a)) (hi : InsOf ra C m) (ha : EvA G tr T (As x)) (hp : pre (a, x)) (hf : f (a, x) = .ok (y, a')) : EvM G (tMeth C m (SpM G.K w As pre r f) [] E (tVar j) tr) T r y (T.set j (.ow (owV u w) a')) := fun B H σ fr Q q => by
  obtain ⟨S0, e1, ho0⟩ := fr.getO hj
  obtain ⟨p, dx, fs, rfl, i1, i2⟩ := hi _ _ _ _ (w.rd ho0 H fr.bh fun _ _ => rfl)
  refine ⟨_, e1, p, dx, fs, rfl, i1, i2, ha B H σ fr _ fun vs B1 H1 x1 ok => ?_⟩
  obtain ⟨S, e2, ho, hS0, k⟩ := (fr.ext x1).mutO hj
  rw [List.append_nil]
  exact ⟨B1, a, x, _, vs, S, x1.s, hp, rfl, ho, ok, fun y' b' e v B' H' S' z hS' ho' hy => by
    rw [hf] at e
    cases e
    exact q v B' H' (k α ra w a' B' H' S' z hS' ho') hy, fun C e => by rw [hf] at e; cases e⟩
theorem ev_methMT (hj : T[j]? = some (.ow (owV u w) a)) (hi : InsOf ra C m) (ha : EvA G tr T (As x)) (hp : pre (a, x)) (hf : f (a, x) = .ok (y, a')) : EvM G (tMethT C m (SpM G.K w As pre r f) ES (tVar j) tr) T r y (T.set j (.ow (owV u w) a')) := fun B H σ fr Q q => by
  obtain ⟨S0, e1, ho0⟩ := fr.getO hj
  obtain ⟨p, dx, fs, rfl, i1, i2⟩ := hi _ _ _ _ (w.rd ho0 H fr.bh fun _ _ => rfl)
  refine ⟨_, e1, p, dx, fs, rfl, i1, i2, ha B H σ fr _ fun vs B1 H1 x1 ok => ?_⟩
  obtain ⟨S, e2, ho, hS0, k⟩ := (fr.ext x1).mutO hj
  exact ⟨B1, a, x, _, vs, S, x1.s, hp, rfl, ho, ok, fun y' b' e v B' H' S' z hS' ho' hy => by
    rw [hf] at e
    cases e
    exact q v B' H' (k α ra w a' B' H' S' z hS' ho') hy, fun C e => by rw [hf] at e; cases e⟩
theorem ex_methM {C' : Addr} (hj : T[j]? = some (.ow (owV u w) a)) (hi : InsOf ra C m) (ha : EvA G tr T (As x)) (hp : pre (a, x)) (hf : f (a, x) = .error C') : EvXT G (tMeth C m (SpM G.K w As pre r f) [] E (tVar j) tr) T (fun _ H => E (.ref C') none H) := fun kk B H σ fr Q => by
  obtain ⟨S0, e1, ho0⟩ := fr.getO hj
  obtain ⟨p, dx, fs, rfl, i1, i2⟩ := hi _ _ _ _ (w.rd ho0 H fr.bh fun _ _ => rfl)
  refine ⟨_, e1, p, dx, fs, rfl, i1, i2, ha B H σ fr _ fun vs B1 H1 x1 ok => ?_⟩
  obtain ⟨S, e2, ho, hS0, k⟩ := (fr.ext x1).mutO hj
  rw [List.append_nil]
  exact ⟨B1, a, x, _, vs, S, x1.s, hp, rfl, ho, ok, fun y' b' e => (by rw [hf] at e; cases e), fun C'' e B' H' S' z hS' ho' => by
    rw [hf] at e
    cases e
    have f2 := k α ra w a B' H' S' z hS' ho'
    rw [set_same hj] at f2
    exact kk B' H' σ f2⟩
theorem ex_methMT {C' : Addr} (hj : T[j]? = some (.ow (owV u w) a)) (hi : InsOf ra C m) (ha : EvA G tr T (As x)) (hp : pre (a, x)) (hf : f (a, x) = .error C') : EvXT G (tMethT C m (SpM G.K w As pre r f) ES (tVar j) tr) T (fun σ H => ES σ (.ref C') none H) := fun kk B H σ fr Q => by
  obtain ⟨S0, e1, ho0⟩ := fr.getO hj
  obtain ⟨p, dx, fs, rfl, i1, i2⟩ := hi _ _ _ _ (w.rd ho0 H fr.bh fun _ _ => rfl)
  refine ⟨_, e1, p, dx, fs, rfl, i1, i2, ha B H σ fr _ fun vs B1 H1 x1 ok => ?_⟩
  obtain ⟨S, e2, ho, hS0, k⟩ := (fr.ext x1).mutO hj
  exact ⟨B1, a, x, _, vs, S, x1.s, hp, rfl, ho, ok, fun y' b' e => (by rw [hf] at e; cases e), fun C'' e B' H' S' z hS' ho' => by
    rw [hf] at e
    cases e
    have f2 := k α ra w a B' H' S' z hS' ho'
    rw [set_same hj] at f2
    exact kk B' H' σ f2⟩
/-- what a making begins with: an instance without attributes -/
def NewOf (w : Ox α) (C : Addr) (a0 : α) : Prop := ∀ (K : PySem.W.Frag) (B H : Hp) (x dx : Addr), B x = none → B dx = none → dx ≠ x → H x = some (.ins C dx []) → H dx = some (.own x) → w.ox K B H a0 (.ref x) (fun q => q = x ∨ q = dx)
variable {fI : α × ι → Except Addr (Unit × α)} {a0 b : α}
theorem make_ext {B H B' H' : Hp} {x dx : Addr} (bh : Same B H) (hx : H x = none) (hd : H dx = none) (y : Ext B (delS (upd (upd H dx (.own x)) x (.ins C dx [])) (fun q => q = x ∨ q = dx)) B' H') : Ext B H B' H' := by
  have e : delS (upd (upd H dx (.own x)) x (.ins C dx [])) (fun q => q = x ∨ q = dx) = H := by
    funext q
    by_cases h : q = x ∨ q = dx
    · rw [delS_in h]
      rcases h with rfl | rfl
      · exact hx.symm
      · exact hd.symm
    · rw [delS_ne h, upd_ne fun z => h (.inl z), upd_ne fun z => h (.inr z)]
  rw [e] at y
  exact y
theorem make_same {B H : Hp} {x dx : Addr} {o o' : HO} (bh : Same B H) (hx : H x = none) (hd : H dx = none) : Same B (upd (upd H dx o) x o') := fun q u e => by
  have h1 := bh q u e
  have n1 : q ≠ x := fun z => by rw [z, hx] at h1; cases h1
  have n2 : q ≠ dx := fun z => by rw [z, hd] at h1; cases h1
  rw [upd_ne n1, upd_ne n2]
  exact h1
theorem ev_makeO (h0 : NewOf w C a0) (ha : EvA G tr T (As x)) (hp : pre (a0, x)) (hf : fI (a0, x) = .ok ((), b)) : EvO G (tMake C (SpM G.K w As pre rpUnit fI) [] E tr) T w b := fun B H σ fr Q q => ha B H σ fr _ fun vs B1 H1 x1 ok => by
  intro p dx hpn hdn hne
  rw [List.append_nil]
  refine ⟨B1, a0, x, .ref p, vs, _, make_same x1.s hpn hdn, hp, rfl, h0 G.K B1 _ p dx (x1.s.free hpn) (x1.s.free hdn) hne upd_same (by rw [upd_ne hne, upd_same]), ok, fun y b' e v B' H' S' z hS' ho' hy => ?_, fun C e => by rw [hf] at e; cases e⟩
  rw [hf] at e
  cases e
  have z := make_ext x1.s hpn hdn z
  refine ⟨hy, q (.ref p) B' H' S' (x1.trans z) (fun q' hq' => ?_) ho'⟩
  have := hS' q' hq'
  refine x1.h.free ?_
  by_cases h : q' = p ∨ q' = dx
  · rcases h with rfl | rfl
    · exact hpn
    · exact hdn
  · rw [delS_ne h, upd_ne fun z => h (.inl z), upd_ne fun z => h (.inr z)] at this
    exact this
theorem ex_makeT {C' : Addr} (h0 : NewOf w C a0) (ha : EvA G tr T (As x)) (hp : pre (a0, x)) (hf : fI (a0, x) = .error C') : EvXT G (tMakeT C (SpM G.K w As pre rpUnit fI) ES tr) T (fun σ H => ES σ (.ref C') none H) := fun kk B H σ fr Q => ha B H σ fr _ fun vs B1 H1 x1 ok => by
  intro p dx hpn hdn hne
  refine ⟨B1, a0, x, .ref p, vs, _, make_same x1.s hpn hdn, hp, rfl, h0 G.K B1 _ p dx (x1.s.free hpn) (x1.s.free hdn) hne upd_same (by rw [upd_ne hne, upd_same]), ok, fun y b' e => (by rw [hf] at e; cases e), fun C'' e B' H' S' z hS' ho' => ?_⟩
  rw [hf] at e
  cases e
  exact kk B' H' σ ((fr.ext x1).ext (make_ext x1.s hpn hdn z))
end
end DL

set_option Elab.async false
set_option linter.all false
set_option maxRecDepth 100000
set_option maxHeartbeats 4000000
/-! a law's own layer, twenty-fifth part: halls -/
namespace DL
open PySem PySem.Spec PyProof.Rows L2
structure HD (C : Addr) where
  n : Nat
  fr : Int
  ain : List (List (Option Int))
  aout : List (List (Option Int))
  ends : List (Int × T3 Int Int Int)
  given : Int
def hfl (x y : Int) (v1 v2 v3 : V) : List (Str × V) := [("frames", .int x), ("at_in", v1), ("at_out", v2), ("ends", v3), ("given", .int y)]
def hfs {C : Addr} (x : HD C) (v1 v2 v3 : V) : List (Str × V) := (hfl x.fr x.given v1 v2 v3).take x.n
theorem lk_ne {k k' : Str} {v : V} {l : List (Str × V)} (h : (k == k') = false) : List.lookup k ((k', v) :: l) = List.lookup k l := by rw [List.lookup_cons, h]
theorem lk_eq {k : Str} {v : V} {l : List (Str × V)} : List.lookup k ((k, v) :: l) = some v := by rw [List.lookup_cons, beq_self_eq_true]
section
variable {x y : Int} {v1 v2 v3 : V}
theorem lk_frames : (hfl x y v1 v2 v3).lookup ("frames" : Str) = some (.int x) := lk_eq
theorem lk_in : (hfl x y v1 v2 v3).lookup ("at_in" : Str) = some v1 := (lk_ne (by decide +kernel)).trans lk_eq
theorem lk_out : (hfl x y v1 v2 v3).lookup ("at_out" : Str) = some v2 := ((lk_ne (by decide +kernel)).trans (lk_ne (by decide +kernel))).trans lk_eq
theorem lk_ends : (hfl x y v1 v2 v3).lookup ("ends" : Str) = some v3 := (((lk_ne (by decide +kernel)).trans (lk_ne (by decide +kernel))).trans (lk_ne (by decide +kernel))).trans lk_eq
theorem lk_given : (hfl x y v1 v2 v3).lookup ("given" : Str) = some (.int y) := ((((lk_ne (by decide +kernel)).trans (lk_ne (by decide +kernel))).trans (lk_ne (by decide +kernel))).trans (lk_ne (by decide +kernel))).trans lk_eq
def FreeNm (m : Str) : Prop := (m == "frames") = false ∧ (m == "at_in") = false ∧ (m == "at_out") = false ∧ (m == "ends") = false ∧ (m == "given") = false
theorem lk_no {C : Addr} {z : HD C} {m : Str} (h : FreeNm m) : (hfs z v1 v2 v3).lookup m = none := by
  have aux : ∀ n : Nat, List.lookup m ((hfl z.fr z.given v1 v2 v3).take n) = none := fun n => by
    obtain ⟨a, b, c, d, e⟩ := h
    match n with
    | 0 => rfl
    | 1 => exact lk_ne a
    | 2 => exact (lk_ne a).trans (lk_ne b)
    | 3 => exact ((lk_ne a).trans (lk_ne b)).trans (lk_ne c)
    | 4 => exact (((lk_ne a).trans (lk_ne b)).trans (lk_ne c)).trans (lk_ne d)
    | n + 5 =>
      rw [List.take_of_length_le (by show 5 ≤ n + 5; omega)]
      exact ((((lk_ne a).trans (lk_ne b)).trans (lk_ne c)).trans (lk_ne d)).trans (lk_ne e)
  exact aux z.n
end
instance rpHD {C : Addr} : Rp (HD C) := ⟨fun K H x v => ∃ p dx v1 v2 v3, v = .ref p ∧ H p = some (.ins C dx (hfs x v1 v2 v3)) ∧ (2 ≤ x.n → (@rpMT (Option Int) _).rp K H ⟨x.ain⟩ v1) ∧ (3 ≤ x.n → (@rpMT (Option Int) _).rp K H ⟨x.aout⟩ v2) ∧ (4 ≤ x.n → (@rpDI (T3 Int Int Int) _).rp K H ⟨x.ends⟩ v3),
  fun e ⟨p, dx, v1, v2, v3, a, b, c, d, f⟩ => ⟨p, dx, v1, v2, v3, a, e _ _ b, fun h => Rp.mono e (c h), fun h => Rp.mono e (d h), fun h => Rp.mono e (f h)⟩⟩
theorem insHD {C : Addr} {m : Str} (h : FreeNm m) : InsOf (@rpHD C) C m := fun K H a v ⟨p, dx, v1, v2, v3, e, b, _⟩ => ⟨p, dx, _, e, b, lk_no h⟩
structure HOx {C : Addr} (K : PySem.W.Frag) (B H : Hp) (x : HD C) (v : V) (S : Addr → Prop) (p dx : Addr) (v1 v2 v3 : V) (S1 S2 S3 : Addr → Prop) : Prop where
  ev : v = .ref p
  hp : H p = some (.ins C dx (hfs x v1 v2 v3))
  hd : H dx = some (.own p)
  bp : B p = none
  bd : B dx = none
  pd : p ≠ dx
  o1 : 2 ≤ x.n → (oxMT (α := Option Int)).ox K B H ⟨x.ain⟩ v1 S1
  o2 : 3 ≤ x.n → (oxMT (α := Option Int)).ox K B H ⟨x.aout⟩ v2 S2
  o3 : 4 ≤ x.n → (oxDI (β := T3 Int Int Int)).ox K B H ⟨x.ends⟩ v3 S3
  e1 : ¬ 2 ≤ x.n → ∀ q, ¬ S1 q
  e2 : ¬ 3 ≤ x.n → ∀ q, ¬ S2 q
  e3 : ¬ 4 ≤ x.n → ∀ q, ¬ S3 q
  s : ∀ q, S q ↔ q = p ∨ q = dx ∨ S1 q ∨ S2 q ∨ S3 q
  d1 : ∀ q, S1 q → q ≠ p ∧ q ≠ dx ∧ ¬ S2 q ∧ ¬ S3 q
  d2 : ∀ q, S2 q → q ≠ p ∧ q ≠ dx ∧ ¬ S3 q
  d3 : ∀ q, S3 q → q ≠ p ∧ q ≠ dx
section
variable {C : Addr} {K : PySem.W.Frag} {B H B' H' : Hp} {x : HD C} {v : V} {S : Addr → Prop} {p dx : Addr} {v1 v2 v3 : V} {S1 S2 S3 : Addr → Prop}
theorem HOx.nb (h : HOx K B H x v S p dx v1 v2 v3 S1 S2 S3) : ∀ q, S q → B q = none ∧ H q ≠ none := fun q hq => by
  rcases (h.s q).mp hq with rfl | rfl | hq | hq | hq
  · exact ⟨h.bp, by rw [h.hp]; intro z; cases z⟩
  · exact ⟨h.bd, by rw [h.hd]; intro z; cases z⟩
  · by_cases hn : 2 ≤ x.n
    · exact oxMT.nb (h.o1 hn) q hq
    · exact absurd hq (h.e1 hn q)
  · by_cases hn : 3 ≤ x.n
    · exact oxMT.nb (h.o2 hn) q hq
    · exact absurd hq (h.e2 hn q)
  · by_cases hn : 4 ≤ x.n
    · exact oxDI.nb (h.o3 hn) q hq
    · exact absurd hq (h.e3 hn q)
theorem HOx.in1 (h : HOx K B H x v S p dx v1 v2 v3 S1 S2 S3) {q : Addr} (hq : S1 q) : S q := (h.s q).mpr (.inr (.inr (.inl hq)))
theorem HOx.in2 (h : HOx K B H x v S p dx v1 v2 v3 S1 S2 S3) {q : Addr} (hq : S2 q) : S q := (h.s q).mpr (.inr (.inr (.inr (.inl hq))))
theorem HOx.in3 (h : HOx K B H x v S p dx v1 v2 v3 S1 S2 S3) {q : Addr} (hq : S3 q) : S q := (h.s q).mpr (.inr (.inr (.inr (.inr hq))))
theorem HOx.inp (h : HOx K B H x v S p dx v1 v2 v3 S1 S2 S3) : S p := (h.s p).mpr (.inl rfl)
theorem HOx.ind (h : HOx K B H x v S p dx v1 v2 v3 S1 S2 S3) : S dx := (h.s dx).mpr (.inr (.inl rfl))
end
instance oxHD {C : Addr} : Ox (HD C) where
  ox K B H x v S := ∃ p dx v1 v2 v3 S1 S2 S3, HOx K B H x v S p dx v1 v2 v3 S1 S2 S3
  fr := by
    rintro K B H B' H' a v S ⟨p, dx, v1, v2, v3, S1, S2, S3, h⟩ sb k
    refine ⟨p, dx, v1, v2, v3, S1, S2, S3, h.ev, (k p h.inp).1.trans h.hp, (k dx h.ind).1.trans h.hd, (k p h.inp).2, (k dx h.ind).2, h.pd, fun hn => oxMT.fr (h.o1 hn) sb fun q hq => k q (h.in1 hq), fun hn => oxMT.fr (h.o2 hn) sb fun q hq => k q (h.in2 hq), fun hn => oxDI.fr (h.o3 hn) sb fun q hq => k q (h.in3 hq), h.e1, h.e2, h.e3, h.s, h.d1, h.d2, h.d3⟩
  nb := by
    rintro K B H a v S ⟨p, dx, v1, v2, v3, S1, S2, S3, h⟩
    exact h.nb
  rd := by
    rintro K B H a v S ⟨p, dx, v1, v2, v3, S1, S2, S3, h⟩ H' sb k
    exact ⟨p, dx, v1, v2, v3, h.ev, (k p h.inp).trans h.hp, fun hn => oxMT.rd (h.o1 hn) H' sb fun q hq => k q (h.in1 hq), fun hn => oxMT.rd (h.o2 hn) H' sb fun q hq => k q (h.in2 hq), fun hn => oxDI.rd (h.o3 hn) H' sb fun q hq => k q (h.in3 hq)⟩
/-- what the text must say of the class -/
structure HCls (K : PySem.W.Frag) (C : Addr) : Prop where
  cl : Cls K C
  nF : NoAttr K C "frames"
  nI : NoAttr K C "at_in"
  nO : NoAttr K C "at_out"
  nE : NoAttr K C "ends"
  nG : NoAttr K C "given"
section
variable {G : Cn} {T : List Ty} {D : Ends} {te ta tb tc td ty tv : TE} {tu : TS} {C : Addr} {x : HD C} {u : V} {j : Nat}
theorem hfs5 {v1 v2 v3 : V} (h : x.n = 5) : hfs x v1 v2 v3 = hfl x.fr x.given v1 v2 v3 := by unfold hfs; rw [h]; rfl
/-! reading -/
theorem ev_frames (h : EvH G te T (@rpHD C) x) (hn : x.n = 5) (c : HCls G.K C) : EvD G (tFld G.K te "frames") T rpInt x.fr := fun B H σ f Q q => h B H σ f _ fun v B1 H1 x1 e1 => by
  obtain ⟨p, dx, v1, v2, v3, rfl, hp, _⟩ := e1
  exact ⟨p, C, dx, _, _, rfl, hp, c.cl, c.nF, by rw [hfs5 hn]; exact lk_frames, q _ B1 H1 x1 rfl⟩
theorem ev_given (h : EvH G te T (@rpHD C) x) (hn : x.n = 5) (c : HCls G.K C) : EvD G (tFld G.K te "given") T rpInt x.given := fun B H σ f Q q => h B H σ f _ fun v B1 H1 x1 e1 => by
  obtain ⟨p, dx, v1, v2, v3, rfl, hp, _⟩ := e1
  exact ⟨p, C, dx, _, _, rfl, hp, c.cl, c.nG, by rw [hfs5 hn]; exact lk_given, q _ B1 H1 x1 rfl⟩
theorem evh_in (h : EvH G te T (@rpHD C) x) (hn : x.n = 5) (c : HCls G.K C) : EvH G (tFld G.K te "at_in") T (@rpList (List (Option Int)) (@rpList (Option Int) _)) x.ain := fun B H σ f Q q => h B H σ f _ fun v B1 H1 x1 e1 => by
  obtain ⟨p, dx, v1, v2, v3, rfl, hp, r1, _⟩ := e1
  exact ⟨p, C, dx, _, v1, rfl, hp, c.cl, c.nI, by rw [hfs5 hn]; exact lk_in, q _ B1 H1 x1 (r1 (by omega))⟩
theorem evh_out (h : EvH G te T (@rpHD C) x) (hn : x.n = 5) (c : HCls G.K C) : EvH G (tFld G.K te "at_out") T (@rpList (List (Option Int)) (@rpList (Option Int) _)) x.aout := fun B H σ f Q q => h B H σ f _ fun v B1 H1 x1 e1 => by
  obtain ⟨p, dx, v1, v2, v3, rfl, hp, _, r2, _⟩ := e1
  exact ⟨p, C, dx, _, v2, rfl, hp, c.cl, c.nO, by rw [hfs5 hn]; exact lk_out, q _ B1 H1 x1 (r2 (by omega))⟩
theorem evh_ends (h : EvH G te T (@rpHD C) x) (hn : x.n = 5) (c : HCls G.K C) : EvH G (tFld G.K te "ends") T (@rpDI (T3 Int Int Int) _) ⟨x.ends⟩ := fun B H σ f Q q => h B H σ f _ fun v B1 H1 x1 e1 => by
  obtain ⟨p, dx, v1, v2, v3, rfl, hp, _, _, r3⟩ := e1
  exact ⟨p, C, dx, _, v3, rfl, hp, c.cl, c.nE, by rw [hfs5 hn]; exact lk_ends, q _ B1 H1 x1 (r3 (by omega))⟩
/-! its parts -/
theorem hfl_inj {a b a' b' : Int} {v1 v2 v3 w1 w2 w3 : V} (h : hfl a b v1 v2 v3 = hfl a' b' w1 w2 w3) : v1 = w1 ∧ v2 = w2 ∧ v3 = w3 := by
  unfold hfl at h
  simp only [List.cons.injEq, Prod.mk.injEq, true_and] at h
  exact ⟨h.2.1, h.2.2.1, h.2.2.2.1⟩
theorem ext_sub {B H B' H' : Hp} {S S1 : Addr → Prop} (hs : ∀ q, S1 q → S q) (y : Ext B (delS H S1) B' H') : Ext B (delS H S) B' H' := ⟨y.b, fun q o e => by
  obtain ⟨h1, h2⟩ := delS_some e
  exact y.h q o (by rw [delS_ne fun z => h1 (hs q z)]; exact h2), y.s, fun q hq => y.n q (by
  by_cases h : S q
  · exact absurd (delS_in h) hq
  · rw [delS_ne h] at hq
    rw [delS_ne fun z => h (hs q z)]
    exact hq)⟩
theorem ext_keep {B H B' H' : Hp} {S1 : Addr → Prop} (y : Ext B (delS H S1) B' H') {q : Addr} (h1 : ¬ S1 q) (h2 : H q ≠ none) : H' q = H q ∧ B' q = B q := by
  refine ⟨?_, y.n q (by rw [delS_ne h1]; exact h2)⟩
  cases hH : H q with
  | none => exact absurd hH h2
  | some o => exact y.h q o (by rw [delS_ne h1]; exact hH)
theorem has_in (h : T[j]? = some (.ow (owV u (oxHD (C := C))) x)) (hn : x.n = 5) (c : HCls G.K C) : Has G (tFld G.K (tVar j) "at_in") T (oxMT (α := Option Int)) ⟨x.ain⟩ fun a' => T.set j (.ow (owV u (oxHD (C := C))) { x with ain := a'.rows }) := fun B H σ f => by
  obtain ⟨S0, e1, p, dx, v1, v2, v3, S1, S2, S3, h0⟩ := f.getO h
  refine ⟨v1, fun Q q => ⟨u, e1, p, C, dx, _, v1, h0.ev, h0.hp, c.cl, c.nI, by rw [hfs5 hn]; exact lk_in, q⟩, fun B2 H2 x2 => ?_⟩
  obtain ⟨S, _, ⟨p', dx', w1, w2, w3, S1, S2, S3, h2⟩, _, kk⟩ := (f.ext x2).mutO h
  have ep : p' = p := by have := h2.ev.symm.trans h0.ev; cases this; rfl
  subst ep
  have e3 := (x2.h _ _ h0.hp).symm.trans h2.hp
  rw [hfs5 hn, hfs5 hn] at e3
  have e3 := HO.ins.inj (Option.some.inj e3)
  obtain ⟨rfl, rfl, rfl⟩ := hfl_inj e3.2.2
  refine ⟨S1, h2.o1 (by omega), fun a' B' H' S1' y hS1 ho => ?_⟩
  have hd1 := h2.d1
  have hd2 := h2.d2
  have hd3 := h2.d3
  have kp := ext_keep y (fun z => (hd1 _ z).1 rfl) (h2.nb _ h2.inp).2
  have kd := ext_keep y (fun z => (hd1 _ z).2.1 rfl) (h2.nb _ h2.ind).2
  have hS1n : ∀ q, S1' q → S1 q ∨ H2 q = none := fun q hq => by
    by_cases z : S1 q
    · exact .inl z
    · have := hS1 q hq
      rw [delS_ne z] at this
      exact .inr this
  have k2 : ∀ q, S2 q → H' q = H2 q ∧ B' q = none := fun q hq => by
    have := ext_keep y (fun z => (hd1 q z).2.2.1 hq) (h2.nb q (h2.in2 hq)).2
    exact ⟨this.1, this.2.trans (h2.nb q (h2.in2 hq)).1⟩
  have k3 : ∀ q, S3 q → H' q = H2 q ∧ B' q = none := fun q hq => by
    have := ext_keep y (fun z => (hd1 q z).2.2.2 hq) (h2.nb q (h2.in3 hq)).2
    exact ⟨this.1, this.2.trans (h2.nb q (h2.in3 hq)).1⟩
  refine kk (HD C) rpHD oxHD { x with ain := a'.rows } B' H' (fun q => q = p' ∨ q = dx' ∨ S1' q ∨ S2 q ∨ S3 q) (ext_sub (fun q hq => h2.in1 hq) y) (fun q hq => ?_) ⟨p', dx', v1, v2, v3, S1', S2, S3, h2.ev, kp.1.trans h2.hp, kd.1.trans h2.hd, kp.2.trans h2.bp, kd.2.trans h2.bd, h2.pd, fun _ => ho, fun hn => oxMT.fr (h2.o2 hn) y.b k2, fun hn => oxDI.fr (h2.o3 hn) y.b k3, fun z => absurd (show 2 ≤ x.n by omega) z, fun z => absurd (show 3 ≤ x.n by omega) z, fun z => absurd (show 4 ≤ x.n by omega) z, fun _ => Iff.rfl, fun q hq => ?_, hd2, hd3⟩
  · by_cases z : S q
    · exact delS_in z
    · rw [delS_ne z]
      rcases hq with rfl | rfl | hq | hq | hq
      · exact absurd h2.inp z
      · exact absurd h2.ind z
      · rcases hS1n q hq with w | w
        · exact absurd (h2.in1 w) z
        · exact w
      · exact absurd (h2.in2 hq) z
      · exact absurd (h2.in3 hq) z
  · rcases hS1n q hq with w | w
    · exact hd1 q w
    · exact ⟨fun z => (h2.nb _ h2.inp).2 (by rw [← z]; exact w), fun z => (h2.nb _ h2.ind).2 (by rw [← z]; exact w), fun z => (h2.nb _ (h2.in2 z)).2 w, fun z => (h2.nb _ (h2.in3 z)).2 w⟩
theorem has_out (h : T[j]? = some (.ow (owV u (oxHD (C := C))) x)) (hn : x.n = 5) (c : HCls G.K C) : Has G (tFld G.K (tVar j) "at_out") T (oxMT (α := Option Int)) ⟨x.aout⟩ fun a' => T.set j (.ow (owV u (oxHD (C := C))) { x with aout := a'.rows }) := fun B H σ f => by
  obtain ⟨S0, e1, p, dx, v1, v2, v3, S1, S2, S3, h0⟩ := f.getO h
  refine ⟨v2, fun Q q => ⟨u, e1, p, C, dx, _, v2, h0.ev, h0.hp, c.cl, c.nO, by rw [hfs5 hn]; exact lk_out, q⟩, fun B2 H2 x2 => ?_⟩
  obtain ⟨S, _, ⟨p', dx', w1, w2, w3, S1, S2, S3, h2⟩, _, kk⟩ := (f.ext x2).mutO h
  have ep : p' = p := by have := h2.ev.symm.trans h0.ev; cases this; rfl
  subst ep
  have e3 := (x2.h _ _ h0.hp).symm.trans h2.hp
  rw [hfs5 hn, hfs5 hn] at e3
  have e3 := HO.ins.inj (Option.some.inj e3)
  obtain ⟨rfl, rfl, rfl⟩ := hfl_inj e3.2.2
  refine ⟨S2, h2.o2 (by omega), fun a' B' H' S2' y hS2 ho => ?_⟩
  have hd1 := h2.d1
  have hd2 := h2.d2
  have hd3 := h2.d3
  have kp := ext_keep y (fun z => (hd2 _ z).1 rfl) (h2.nb _ h2.inp).2
  have kd := ext_keep y (fun z => (hd2 _ z).2.1 rfl) (h2.nb _ h2.ind).2
  have hS2n : ∀ q, S2' q → S2 q ∨ H2 q = none := fun q hq => by
    by_cases z : S2 q
    · exact .inl z
    · have := hS2 q hq
      rw [delS_ne z] at this
      exact .inr this
  have k1 : ∀ q, S1 q → H' q = H2 q ∧ B' q = none := fun q hq => by
    have := ext_keep y (fun z => (hd1 q hq).2.2.1 z) (h2.nb q (h2.in1 hq)).2
    exact ⟨this.1, this.2.trans (h2.nb q (h2.in1 hq)).1⟩
  have k3 : ∀ q, S3 q → H' q = H2 q ∧ B' q = none := fun q hq => by
    have := ext_keep y (fun z => (hd2 q z).2.2 hq) (h2.nb q (h2.in3 hq)).2
    exact ⟨this.1, this.2.trans (h2.nb q (h2.in3 hq)).1⟩
  refine kk (HD C) rpHD oxHD { x with aout := a'.rows } B' H' (fun q => q = p' ∨ q = dx' ∨ S1 q ∨ S2' q ∨ S3 q) (ext_sub (fun q hq => h2.in2 hq) y) (fun q hq => ?_) ⟨p', dx', v1, v2, v3, S1, S2', S3, h2.ev, kp.1.trans h2.hp, kd.1.trans h2.hd, kp.2.trans h2.bp, kd.2.trans h2.bd, h2.pd, fun hn => oxMT.fr (h2.o1 hn) y.b k1, fun _ => ho, fun hn => oxDI.fr (h2.o3 hn) y.b k3, fun z => absurd (show 2 ≤ x.n by omega) z, fun z => absurd (show 3 ≤ x.n by omega) z, fun z => absurd (show 4 ≤ x.n by omega) z, fun _ => Iff.rfl, fun q hq => ?_, fun q hq => ?_, hd3⟩
  · by_cases z : S q
    · exact delS_in z
    · rw [delS_ne z]
      rcases hq with rfl | rfl | hq | hq | hq
      · exact absurd h2.inp z
      · exact absurd h2.ind z
      · exact absurd (h2.in1 hq) z
      · rcases hS2n q hq with w | w
        · exact absurd (h2.in2 w) z
        · exact w
      · exact absurd (h2.in3 hq) z
  · refine ⟨(hd1 q hq).1, (hd1 q hq).2.1, fun z => ?_, (hd1 q hq).2.2.2⟩
    rcases hS2n q z with w | w
    · exact (hd1 q hq).2.2.1 w
    · exact (h2.nb _ (h2.in1 hq)).2 w
  · rcases hS2n q hq with w | w
    · exact hd2 q w
    · exact ⟨fun z => (h2.nb _ h2.inp).2 (by rw [← z]; exact w), fun z => (h2.nb _ h2.ind).2 (by rw [← z]; exact w), fun z => (h2.nb _ (h2.in3 z)).2 w⟩
theorem has_ends (h : T[j]? = some (.ow (owV u (oxHD (C := C))) x)) (hn : x.n = 5) (c : HCls G.K C) : Has G (tFld G.K (tVar j) "ends") T (oxDI (β := T3 Int Int Int)) ⟨x.ends⟩ fun a' => T.set j (.ow (owV u (oxHD (C := C))) { x with ends := a'.kv }) := fun B H σ f => by
  obtain ⟨S0, e1, p, dx, v1, v2, v3, S1, S2, S3, h0⟩ := f.getO h
  refine ⟨v3, fun Q q => ⟨u, e1, p, C, dx, _, v3, h0.ev, h0.hp, c.cl, c.nE, by rw [hfs5 hn]; exact lk_ends, q⟩, fun B2 H2 x2 => ?_⟩
  obtain ⟨S, _, ⟨p', dx', w1, w2, w3, S1, S2, S3, h2⟩, _, kk⟩ := (f.ext x2).mutO h
  have ep : p' = p := by have := h2.ev.symm.trans h0.ev; cases this; rfl
  subst ep
  have e3 := (x2.h _ _ h0.hp).symm.trans h2.hp
  rw [hfs5 hn, hfs5 hn] at e3
  have e3 := HO.ins.inj (Option.some.inj e3)
  obtain ⟨rfl, rfl, rfl⟩ := hfl_inj e3.2.2
  refine ⟨S3, h2.o3 (by omega), fun a' B' H' S3' y hS3 ho => ?_⟩
  have hd1 := h2.d1
  have hd2 := h2.d2
  have hd3 := h2.d3
  have kp := ext_keep y (fun z => (hd3 _ z).1 rfl) (h2.nb _ h2.inp).2
  have kd := ext_keep y (fun z => (hd3 _ z).2 rfl) (h2.nb _ h2.ind).2
  have hS3n : ∀ q, S3' q → S3 q ∨ H2 q = none := fun q hq => by
    by_cases z : S3 q
    · exact .inl z
    · have := hS3 q hq
      rw [delS_ne z] at this
      exact .inr this
  have k1 : ∀ q, S1 q → H' q = H2 q ∧ B' q = none := fun q hq => by
    have := ext_keep y (fun z => (hd1 q hq).2.2.2 z) (h2.nb q (h2.in1 hq)).2
    exact ⟨this.1, this.2.trans (h2.nb q (h2.in1 hq)).1⟩
  have k2 : ∀ q, S2 q → H' q = H2 q ∧ B' q = none := fun q hq => by
    have := ext_keep y (fun z => (hd2 q hq).2.2 z) (h2.nb q (h2.in2 hq)).2
    exact ⟨this.1, this.2.trans (h2.nb q (h2.in2 hq)).1⟩
  refine kk (HD C) rpHD oxHD { x with ends := a'.kv } B' H' (fun q => q = p' ∨ q = dx' ∨ S1 q ∨ S2 q ∨ S3' q) (ext_sub (fun q hq => h2.in3 hq) y) (fun q hq => ?_) ⟨p', dx', v1, v2, v3, S1, S2, S3', h2.ev, kp.1.trans h2.hp, kd.1.trans h2.hd, kp.2.trans h2.bp, kd.2.trans h2.bd, h2.pd, fun hn => oxMT.fr (h2.o1 hn) y.b k1, fun hn => oxMT.fr (h2.o2 hn) y.b k2, fun _ => ho, fun z => absurd (show 2 ≤ x.n by omega) z, fun z => absurd (show 3 ≤ x.n by omega) z, fun z => absurd (show 4 ≤ x.n by omega) z, fun _ => Iff.rfl, fun q hq => ?_, fun q hq => ?_, fun q hq => ?_⟩
  · by_cases z : S q
    · exact delS_in z
    · rw [delS_ne z]
      rcases hq with rfl | rfl | hq | hq | hq
      · exact absurd h2.inp z
      · exact absurd h2.ind z
      · exact absurd (h2.in1 hq) z
      · exact absurd (h2.in2 hq) z
      · rcases hS3n q hq with w | w
        · exact absurd (h2.in3 w) z
        · exact w
  · refine ⟨(hd1 q hq).1, (hd1 q hq).2.1, (hd1 q hq).2.2.1, fun z => ?_⟩
    rcases hS3n q z with w | w
    · exact (hd1 q hq).2.2.2 w
    · exact (h2.nb _ (h2.in1 hq)).2 w
  · refine ⟨(hd2 q hq).1, (hd2 q hq).2.1, fun z => ?_⟩
    rcases hS3n q z with w | w
    · exact (hd2 q hq).2.2 w
    · exact (h2.nb _ (h2.in2 hq)).2 w
  · rcases hS3n q hq with w | w
    · exact hd3 q w
    · exact ⟨fun z => (h2.nb _ h2.inp).2 (by rw [← z]; exact w), fun z => (h2.nb _ h2.ind).2 (by rw [← z]; exact w)⟩
end
end DL

set_option Elab.async false
set_option linter.all false
set_option maxRecDepth 100000
set_option maxHeartbeats 4000000
/-! a law's own layer, twenty-sixth part: halls are made, their number is raised -/
namespace DL
open PySem PySem.Spec PyProof.Rows L2
theorem putF_new {f : Str} {v : V} : ∀ {fs : List (Str × V)}, (∀ p ∈ fs, ¬ p.1 = f) → putF f v fs = fs ++ [(f, v)]
  | [], _ => rfl
  | (g, x) :: r, h => by
    show (if g = f then _ else _) = _
    rw [if_neg (h (g, x) List.mem_cons_self), putF_new fun p hp => h p (List.mem_cons_of_mem _ hp)]
    rfl
theorem putF_old {f : Str} {v w : V} : ∀ {fs gs : List (Str × V)}, (∀ p ∈ fs, ¬ p.1 = f) → putF f v (fs ++ (f, w) :: gs) = fs ++ (f, v) :: gs
  | [], gs, _ => by
    show (if f = f then _ else _) = _
    rw [if_pos rfl]
    rfl
  | (g, x) :: r, gs, h => by
    show (if g = f then _ else (g, x) :: putF f v (r ++ (f, w) :: gs)) = _
    rw [if_neg (h (g, x) List.mem_cons_self), putF_old fun p hp => h p (List.mem_cons_of_mem _ hp)]
    rfl
section
variable {C : Addr} {K : PySem.W.Frag} {B H B' H' : Hp} {x : HD C} {v : V} {S : Addr → Prop} {p dx : Addr} {v1 v2 v3 : V} {S1 S2 S3 : Addr → Prop}
theorem HOx.go (h : HOx K B H x v S p dx v1 v2 v3 S1 S2 S3) (y : Ext B H B' H') : HOx K B' H' x v S p dx v1 v2 v3 S1 S2 S3 := by
  have k : ∀ q, S q → H' q = H q ∧ B' q = none := fun q hq => by
    obtain ⟨n1, n2⟩ := h.nb q hq
    refine ⟨?_, (y.n q n2).trans n1⟩
    cases hH : H q with
    | none => exact absurd hH n2
    | some o => exact y.h q o hH
  exact ⟨h.ev, (k p h.inp).1.trans h.hp, (k dx h.ind).1.trans h.hd, (k p h.inp).2, (k dx h.ind).2, h.pd, fun hn => oxMT.fr (h.o1 hn) y.b fun q hq => k q (h.in1 hq), fun hn => oxMT.fr (h.o2 hn) y.b fun q hq => k q (h.in2 hq), fun hn => oxDI.fr (h.o3 hn) y.b fun q hq => k q (h.in3 hq), h.e1, h.e2, h.e3, h.s, h.d1, h.d2, h.d3⟩
end
section
variable {G : Cn} {T : List Ty} {D : Ends} {te ta tb tc td ty tv : TE} {tu : TS} {C : Addr} {x : HD C} {u : V} {j : Nat}
theorem nm_ne : ¬ ("frames" : Str) = "at_in" ∧ ¬ ("frames" : Str) = "at_out" ∧ ¬ ("frames" : Str) = "ends" ∧ ¬ ("frames" : Str) = "given" ∧ ¬ ("at_in" : Str) = "at_out" ∧ ¬ ("at_in" : Str) = "ends" ∧ ¬ ("at_in" : Str) = "given" ∧ ¬ ("at_out" : Str) = "ends" ∧ ¬ ("at_out" : Str) = "given" ∧ ¬ ("ends" : Str) = "given" := by decide +kernel
/-- the instance's own object changed, all else as it stands -/
theorem Fr.insHD {B H B1 H1 : Hp} {σ : L2.St} (f : Fr G B H σ T) (h : T[j]? = some (.ow (owV u (oxHD (C := C))) x)) (y : Ext B H B1 H1) : ∃ S p dx v1 v2 v3 S1 S2 S3, σ[j]? = some (some u) ∧ HOx G.K B H x u S p dx v1 v2 v3 S1 S2 S3 ∧
    ∀ (x' : HD C) (w1 w2 w3 : V) (R1 R2 R3 : Addr → Prop), (∀ q, (R1 q ∨ R2 q ∨ R3 q) → (S1 q ∨ S2 q ∨ S3 q) ∨ H q = none) → HOx G.K B1 (upd H1 p (.ins C dx (hfs x' w1 w2 w3))) x' u (fun q => q = p ∨ q = dx ∨ R1 q ∨ R2 q ∨ R3 q) p dx w1 w2 w3 R1 R2 R3 → Fr G B1 (upd H1 p (.ins C dx (hfs x' w1 w2 w3))) σ (T.set j (.ow (owV u (oxHD (C := C))) x')) := by
  obtain ⟨S, e1, ⟨p, dx, v1, v2, v3, S1, S2, S3, h0⟩, _, kk⟩ := f.mutO h
  refine ⟨S, p, dx, v1, v2, v3, S1, S2, S3, e1, h0, fun x' w1 w2 w3 R1 R2 R3 hR h' => ?_⟩
  have bp := y.none h0.hp h0.bp
  refine kk (HD C) rpHD oxHD x' B1 _ _ ⟨y.b, fun q o e => ?_, fun q o e => ?_, fun q hq => ?_⟩ (fun q hq => ?_) ⟨p, dx, w1, w2, w3, R1, R2, R3, h'⟩
  · obtain ⟨g1, g2⟩ := delS_some e
    rw [upd_ne fun z => g1 (by rw [z]; exact h0.inp)]
    exact y.h q o g2
  · rw [upd_ne (ne_of_none e bp)]
    exact y.s q o e
  · refine y.n q fun z => hq ?_
    by_cases hs : S q
    · exact delS_in hs
    · rw [delS_ne hs]; exact z
  · by_cases hs : S q
    · exact delS_in hs
    · rw [delS_ne hs]
      rcases hq with rfl | rfl | hq
      · exact absurd h0.inp hs
      · exact absurd h0.ind hs
      · rcases hR q hq with w | w
        · rcases w with w | w | w
          · exact absurd (h0.in1 w) hs
          · exact absurd (h0.in2 w) hs
          · exact absurd (h0.in3 w) hs
        · exact w
theorem hfs_take {v1 v2 v3 : V} {n : Nat} (h : x.n = n) : hfs x v1 v2 v3 = (hfl x.fr x.given v1 v2 v3).take n := by unfold hfs; rw [h]
theorem g_fldFrames {i : Int} (h : T[j]? = some (.ow (owV u (oxHD (C := C))) x)) (hn : x.n = 0) (c : HCls G.K C) (hv : EvD G tv T rpInt i) (q : Goes G (T.set j (.ow (owV u (oxHD (C := C))) { x with n := 1, fr := i })) D.nx) : Goes G T (sFld G.K (tVar j) tv "frames" D) := fun B H σ f => hv B H σ f _ fun w B1 H1 x1 e1 => by
  obtain ⟨S, p, dx, v1, v2, v3, S1, S2, S3, es, h0, kk⟩ := f.insHD h x1
  have g := h0.go x1
  refine ⟨u, es, p, C, dx, _, h0.ev, g.hp, c.cl, c.nF, by rw [hfs_take hn]; show 0 < 1000; decide, ?_⟩
  have e : putF ("frames" : Str) w (hfs x v1 v2 v3) = hfs (C := C) { x with n := 1, fr := i } v1 v2 v3 := by
    rw [hfs_take hn, show w = V.int i from e1]; rfl
  rw [e]
  have keep : ∀ q, S q → q ≠ p → upd H1 p (.ins C dx (hfs (C := C) { x with n := 1, fr := i } v1 v2 v3)) q = H1 q := fun q _ hq => upd_ne hq
  refine q B1 _ σ (kk { x with n := 1, fr := i } v1 v2 v3 S1 S2 S3 (fun q hq => .inl hq) ⟨h0.ev, upd_same, (upd_ne (Ne.symm h0.pd)).trans g.hd, g.bp, g.bd, g.pd, fun z => absurd z (by show ¬ 2 ≤ 1; decide), fun z => absurd z (by show ¬ 3 ≤ 1; decide), fun z => absurd z (by show ¬ 4 ≤ 1; decide), fun _ => h0.e1 (by omega), fun _ => h0.e2 (by omega), fun _ => h0.e3 (by omega), fun _ => Iff.rfl, h0.d1, h0.d2, h0.d3⟩)
theorem g_fldIn {a : List (List (Option Int))} (h : T[j]? = some (.ow (owV u (oxHD (C := C))) x)) (hn : x.n = 1) (c : HCls G.K C) (hv : EvO G tv T (oxMT (α := Option Int)) ⟨a⟩) (q : Goes G (T.set j (.ow (owV u (oxHD (C := C))) { x with n := 2, ain := a })) D.nx) : Goes G T (sFld G.K (tVar j) tv "at_in" D) := fun B H σ f => hv B H σ f _ fun w B1 H1 R1 x1 hR e1 => by
  obtain ⟨S, p, dx, v1, v2, v3, S1, S2, S3, es, h0, kk⟩ := f.insHD h x1
  have g := h0.go x1
  refine ⟨u, es, p, C, dx, _, h0.ev, g.hp, c.cl, c.nI, by rw [hfs_take hn]; show 1 < 1000; decide, ?_⟩
  have e : putF ("at_in" : Str) w (hfs x v1 v2 v3) = hfs (C := C) { x with n := 2, ain := a } w v2 v3 := by
    rw [hfs_take hn]
    exact putF_new (fs := [("frames", .int x.fr)]) fun p hp => by rw [List.mem_singleton.mp hp]; exact nm_ne.1
  rw [e]
  have fresh : ∀ q, R1 q → q ≠ p ∧ q ≠ dx := fun q hq => ⟨fun z => (h0.nb p h0.inp).2 (by rw [← z]; exact hR q hq), fun z => (h0.nb dx h0.ind).2 (by rw [← z]; exact hR q hq)⟩
  refine q B1 _ σ (kk { x with n := 2, ain := a } w v2 v3 R1 S2 S3 (fun q hq => ?_) ⟨h0.ev, upd_same, (upd_ne (Ne.symm h0.pd)).trans g.hd, g.bp, g.bd, g.pd, fun _ => oxMT.fr e1 (Same.refl _) fun q hq => ⟨upd_ne (fresh q hq).1, (oxMT.nb e1 q hq).1⟩, fun z => absurd z (by show ¬ 3 ≤ 2; decide), fun z => absurd z (by show ¬ 4 ≤ 2; decide), fun z => absurd (show 2 ≤ 2 by decide) z, fun _ => h0.e2 (by omega), fun _ => h0.e3 (by omega), fun _ => Iff.rfl, fun q hq => ⟨(fresh q hq).1, (fresh q hq).2, h0.e2 (by omega) q, h0.e3 (by omega) q⟩, h0.d2, h0.d3⟩)
  rcases hq with hq | hq | hq
  · exact .inr (hR q hq)
  · exact absurd hq (h0.e2 (by omega) q)
  · exact absurd hq (h0.e3 (by omega) q)
theorem g_fldOut {a : List (List (Option Int))} (h : T[j]? = some (.ow (owV u (oxHD (C := C))) x)) (hn : x.n = 2) (c : HCls G.K C) (hv : EvO G tv T (oxMT (α := Option Int)) ⟨a⟩) (q : Goes G (T.set j (.ow (owV u (oxHD (C := C))) { x with n := 3, aout := a })) D.nx) : Goes G T (sFld G.K (tVar j) tv "at_out" D) := fun B H σ f => hv B H σ f _ fun w B1 H1 R2 x1 hR e1 => by
  obtain ⟨S, p, dx, v1, v2, v3, S1, S2, S3, es, h0, kk⟩ := f.insHD h x1
  have g := h0.go x1
  refine ⟨u, es, p, C, dx, _, h0.ev, g.hp, c.cl, c.nO, by rw [hfs_take hn]; show 2 < 1000; decide, ?_⟩
  have e : putF ("at_out" : Str) w (hfs x v1 v2 v3) = hfs (C := C) { x with n := 3, aout := a } v1 w v3 := by
    rw [hfs_take hn]
    exact putF_new (fs := [("frames", .int x.fr), ("at_in", v1)]) fun p hp => by
      rcases List.mem_cons.mp hp with rfl | hp
      · exact nm_ne.2.1
      · rw [List.mem_singleton.mp hp]; exact nm_ne.2.2.2.2.1
  rw [e]
  have fresh : ∀ q, R2 q → q ≠ p ∧ q ≠ dx := fun q hq => ⟨fun z => (h0.nb p h0.inp).2 (by rw [← z]; exact hR q hq), fun z => (h0.nb dx h0.ind).2 (by rw [← z]; exact hR q hq)⟩
  refine q B1 _ σ (kk { x with n := 3, aout := a } v1 w v3 S1 R2 S3 (fun q hq => ?_) ⟨h0.ev, upd_same, (upd_ne (Ne.symm h0.pd)).trans g.hd, g.bp, g.bd, g.pd, fun _ => oxMT.fr (g.o1 (by omega)) (Same.refl _) fun q hq => ⟨upd_ne (h0.d1 q hq).1, (oxMT.nb (g.o1 (by omega)) q hq).1⟩, fun _ => oxMT.fr e1 (Same.refl _) fun q hq => ⟨upd_ne (fresh q hq).1, (oxMT.nb e1 q hq).1⟩, fun z => absurd z (by show ¬ 4 ≤ 3; decide), fun z => absurd (show 2 ≤ 3 by decide) z, fun z => absurd (show 3 ≤ 3 by decide) z, fun _ => h0.e3 (by omega), fun _ => Iff.rfl, fun q hq => ⟨(h0.d1 q hq).1, (h0.d1 q hq).2.1, fun z => (h0.nb q (h0.in1 hq)).2 (hR q z), h0.e3 (by omega) q⟩, fun q hq => ⟨(fresh q hq).1, (fresh q hq).2, h0.e3 (by omega) q⟩, h0.d3⟩)
  rcases hq with hq | hq | hq
  · exact .inl (.inl hq)
  · exact .inr (hR q hq)
  · exact absurd hq (h0.e3 (by omega) q)
theorem g_fldEnds {a : List (Int × T3 Int Int Int)} (h : T[j]? = some (.ow (owV u (oxHD (C := C))) x)) (hn : x.n = 3) (c : HCls G.K C) (hv : EvO G tv T (oxDI (β := T3 Int Int Int)) ⟨a⟩) (q : Goes G (T.set j (.ow (owV u (oxHD (C := C))) { x with n := 4, ends := a })) D.nx) : Goes G T (sFld G.K (tVar j) tv "ends" D) := fun B H σ f => hv B H σ f _ fun w B1 H1 R3 x1 hR e1 => by
  obtain ⟨S, p, dx, v1, v2, v3, S1, S2, S3, es, h0, kk⟩ := f.insHD h x1
  have g := h0.go x1
  refine ⟨u, es, p, C, dx, _, h0.ev, g.hp, c.cl, c.nE, by rw [hfs_take hn]; show 3 < 1000; decide, ?_⟩
  have e : putF ("ends" : Str) w (hfs x v1 v2 v3) = hfs (C := C) { x with n := 4, ends := a } v1 v2 w := by
    rw [hfs_take hn]
    exact putF_new (fs := [("frames", .int x.fr), ("at_in", v1), ("at_out", v2)]) fun p hp => by
      rcases List.mem_cons.mp hp with rfl | hp
      · exact nm_ne.2.2.1
      · rcases List.mem_cons.mp hp with rfl | hp
        · exact nm_ne.2.2.2.2.2.1
        · rw [List.mem_singleton.mp hp]; exact nm_ne.2.2.2.2.2.2.2.1
  rw [e]
  have fresh : ∀ q, R3 q → q ≠ p ∧ q ≠ dx := fun q hq => ⟨fun z => (h0.nb p h0.inp).2 (by rw [← z]; exact hR q hq), fun z => (h0.nb dx h0.ind).2 (by rw [← z]; exact hR q hq)⟩
  refine q B1 _ σ (kk { x with n := 4, ends := a } v1 v2 w S1 S2 R3 (fun q hq => ?_) ⟨h0.ev, upd_same, (upd_ne (Ne.symm h0.pd)).trans g.hd, g.bp, g.bd, g.pd, fun _ => oxMT.fr (g.o1 (by omega)) (Same.refl _) fun q hq => ⟨upd_ne (h0.d1 q hq).1, (oxMT.nb (g.o1 (by omega)) q hq).1⟩, fun _ => oxMT.fr (g.o2 (by omega)) (Same.refl _) fun q hq => ⟨upd_ne (h0.d2 q hq).1, (oxMT.nb (g.o2 (by omega)) q hq).1⟩, fun _ => oxDI.fr e1 (Same.refl _) fun q hq => ⟨upd_ne (fresh q hq).1, (oxDI.nb e1 q hq).1⟩, fun z => absurd (show 2 ≤ 4 by decide) z, fun z => absurd (show 3 ≤ 4 by decide) z, fun z => absurd (show 4 ≤ 4 by decide) z, fun _ => Iff.rfl, fun q hq => ⟨(h0.d1 q hq).1, (h0.d1 q hq).2.1, (h0.d1 q hq).2.2.1, fun z => (h0.nb q (h0.in1 hq)).2 (hR q z)⟩, fun q hq => ⟨(h0.d2 q hq).1, (h0.d2 q hq).2.1, fun z => (h0.nb q (h0.in2 hq)).2 (hR q z)⟩, fun q hq => fresh q hq⟩)
  rcases hq with hq | hq | hq
  · exact .inl (.inl hq)
  · exact .inl (.inr (.inl hq))
  · exact .inr (hR q hq)
theorem put_given {x' y y' : Int} {v1 v2 v3 : V} : putF ("given" : Str) (.int y') (hfl x' y v1 v2 v3) = hfl x' y' v1 v2 v3 := putF_old (fs := [("frames", .int x'), ("at_in", v1), ("at_out", v2), ("ends", v3)]) fun p hp => by
  rcases List.mem_cons.mp hp with rfl | hp
  · exact nm_ne.2.2.2.1
  · rcases List.mem_cons.mp hp with rfl | hp
    · exact nm_ne.2.2.2.2.2.2.1
    · rcases List.mem_cons.mp hp with rfl | hp
      · exact nm_ne.2.2.2.2.2.2.2.2.1
      · rw [List.mem_singleton.mp hp]; exact nm_ne.2.2.2.2.2.2.2.2.2
theorem g_fldGiven {i : Int} (h : T[j]? = some (.ow (owV u (oxHD (C := C))) x)) (hn : x.n = 4 ∨ x.n = 5) (c : HCls G.K C) (hv : EvD G tv T rpInt i) (q : Goes G (T.set j (.ow (owV u (oxHD (C := C))) { x with n := 5, given := i })) D.nx) : Goes G T (sFld G.K (tVar j) tv "given" D) := fun B H σ f => hv B H σ f _ fun w B1 H1 x1 e1 => by
  obtain ⟨S, p, dx, v1, v2, v3, S1, S2, S3, es, h0, kk⟩ := f.insHD h x1
  have g := h0.go x1
  have e : putF ("given" : Str) w (hfs x v1 v2 v3) = hfs (C := C) { x with n := 5, given := i } v1 v2 v3 := by
    rw [show w = V.int i from e1]
    rcases hn with hn | hn
    · rw [hfs_take hn]
      exact putF_new (fs := [("frames", .int x.fr), ("at_in", v1), ("at_out", v2), ("ends", v3)]) fun p hp => by
        rcases List.mem_cons.mp hp with rfl | hp
        · exact nm_ne.2.2.2.1
        · rcases List.mem_cons.mp hp with rfl | hp
          · exact nm_ne.2.2.2.2.2.2.1
          · rcases List.mem_cons.mp hp with rfl | hp
            · exact nm_ne.2.2.2.2.2.2.2.2.1
            · rw [List.mem_singleton.mp hp]; exact nm_ne.2.2.2.2.2.2.2.2.2
    · rw [hfs5 hn]
      exact put_given
  have hl : (hfs x v1 v2 v3).length < 1000 := by
    unfold hfs
    have := List.length_take_le x.n (hfl x.fr x.given v1 v2 v3)
    have h5 : (hfl x.fr x.given v1 v2 v3).length = 5 := rfl
    rw [List.length_take]
    omega
  refine ⟨u, es, p, C, dx, _, h0.ev, g.hp, c.cl, c.nG, hl, ?_⟩
  rw [e]
  refine q B1 _ σ (kk { x with n := 5, given := i } v1 v2 v3 S1 S2 S3 (fun q hq => .inl hq) ⟨h0.ev, upd_same, (upd_ne (Ne.symm h0.pd)).trans g.hd, g.bp, g.bd, g.pd, fun _ => oxMT.fr (g.o1 (by omega)) (Same.refl _) fun q hq => ⟨upd_ne (h0.d1 q hq).1, (oxMT.nb (g.o1 (by omega)) q hq).1⟩, fun _ => oxMT.fr (g.o2 (by omega)) (Same.refl _) fun q hq => ⟨upd_ne (h0.d2 q hq).1, (oxMT.nb (g.o2 (by omega)) q hq).1⟩, fun _ => oxDI.fr (g.o3 (by omega)) (Same.refl _) fun q hq => ⟨upd_ne (h0.d3 q hq).1, (oxDI.nb (g.o3 (by omega)) q hq).1⟩, fun z => absurd (show 2 ≤ 5 by decide) z, fun z => absurd (show 3 ≤ 5 by decide) z, fun z => absurd (show 4 ≤ 5 by decide) z, fun _ => Iff.rfl, h0.d1, h0.d2, h0.d3⟩)
/-- the beginning of a hall -/
def hd0 (C : Addr) : HD C := ⟨0, 0, [], [], [], 0⟩
theorem new_hd : NewOf (oxHD (C := C)) C (hd0 C) := fun K B H x dx b1 b2 ne h1 h2 => ⟨x, dx, .non, .non, .non, fun _ => False, fun _ => False, fun _ => False, rfl, h1, h2, b1, b2, Ne.symm ne, fun z => absurd z (by show ¬ 2 ≤ 0; decide), fun z => absurd z (by show ¬ 3 ≤ 0; decide), fun z => absurd z (by show ¬ 4 ≤ 0; decide), fun _ _ z => z, fun _ _ z => z, fun _ _ z => z, fun q => by simp, fun q z => z.elim, fun q z => z.elim, fun q z => z.elim⟩
end
end DL

set_option Elab.async false
set_option linter.all false
set_option maxRecDepth 100000
set_option maxHeartbeats 4000000
/-! a law's own layer, twenty-seventh part: a method that reads alone what another one owns -/
namespace DL
open PySem PySem.Spec PyProof.Rows L2
@[reducible] def owK {α : Type} [Rp α] (u : V) (B0 H0 : Hp) (w : Ox α) : Ow α := ⟨fun K _ _ a v _ => v = u ∧ Same B0 H0 ∧ ∃ S, w.ox K B0 H0 a u S, fun h _ _ => h⟩
/-- f(x, ..) that leaves all as it stands -/
def SpR (K : PySem.W.Frag) {α ι β : Type} [Rp α] (w : Ox α) (As : ι → List Ty) (pre : α × ι → Prop) (r : Rp β) (f : α × ι → Except Addr β) : Sp := fun vs H Q E => ∃ (B : Hp) (a : α) (x : ι) (u : V) (us : List V) (S : Addr → Prop), Same B H ∧ pre (a, x) ∧ vs = u :: us ∧ w.ox K B H a u S ∧ ArgsOk K B us (As x) ∧
  (∀ y, f (a, x) = .ok y → ∀ v B' H', Ext B H B' H' → r.rp K B' y v → Q v H') ∧ (∀ C, f (a, x) = .error C → ∀ H', Same H H' → E (.ref C) none H')
section
variable {ι α β : Type} {As : ι → List Ty} [ra : Rp α] {w : Ox α} {pre : α × ι → Prop} {r : Rp β} {f : α × ι → Except Addr β}
variable {P : Program} {wd : World} {K : PySem.W.Frag} {mg : Str → Option Value} {base : Heap} {nm qual : Str} {st : Stmt} {fa : Addr} {fd : FuncData} {N ps : List Str} {k : Nat}
theorem Fr.entryR {B H : Hp} {a : α} {u : V} {us : List V} {S : Addr → Prop} {As : List Ty} {N : List Str} (s : Same B H) (ho : w.ox K B H a u S) (h : ArgsOk K B us As) :
    Fr ⟨K, B, H⟩ B H (L2.start N (u :: us)) ((Ty.ow (owK u B H w) a :: As) ++ List.replicate (N.length - (As.length + 1)) Ty.un) := by
  have f := Fr.entry (K := K) (B := B) (H := H) (vs := u :: us) (As := Ty.im rpAny () :: As) (N := N) s ⟨trivial, h⟩
  obtain ⟨own, o0, sl⟩ := f.sl
  refine ⟨s, Same.refl _, Same.refl _, fun _ _ => rfl, by rw [f.len]; rfl, own, o0, fun i t e => ?_⟩
  cases i with
  | zero =>
    cases e
    exact ⟨some u, rfl, u, rfl, rfl, s, S, ho⟩
  | succ j => exact sl (j + 1) t e
theorem def_okR (F : Fun K nm qual st fa fd) (S : FnScope N ps (defScope st)) (len : ∀ x, (As x).length + 1 = ps.length)
    (hbody : ∀ (cdv : Value) (A : Around) (outer : List Env) (s : Shared) (H : Hp) (E : XK), Room k (A.deeper (envOfC qual (defScope st) s.heap.objs.size fa cdv)) →
      ∃ t, PSs (cxOf (L2.CX P wd) P wd K mg base N qual (defScope st) fa cdv A outer s H E) (defBody st) t ∧ ∀ (B : Hp) (a : α) (x : ι) (u : V) (Q : VK), pre (a, x) → (∀ y, f (a, x) = .ok y → RetD ⟨K, B, H⟩ Q r y) → (∀ C, f (a, x) = .error C → ∀ H', Same H H' → E (.ref C) none H') →
        Goes ⟨K, B, H⟩ ((.ow (owK u B H w) a :: As x) ++ List.replicate (N.length - ((As x).length + 1)) .un) (t { nx := fun _ H' => Q .non H', rt := Q })) :
    FnOk P wd K mg base (L2.CX P wd) (k + 1) fa fd ps (SpR K w As pre r f) := by
  refine F.okX S (fun vs H Q E h => ?_) (fun cdv A outer s H vs Q E hr h => ?_)
  · obtain ⟨B, a, x, u, us, S, _, _, rfl, _, ok, _⟩ := h
    show us.length + 1 = _
    rw [args_len ok]
    exact len x
  · obtain ⟨B, a, x, u, us, S, sB, hp, rfl, ho, ok, h1, h2⟩ := h
    obtain ⟨t, ht, hg⟩ := hbody cdv A outer s H E hr
    exact ⟨t, ht, hg B a x u Q hp (fun y e v B' H' y2 hy => h1 y e v B' H' y2 hy) h2 B H _ (Fr.entryR sB ho ok)⟩
variable {G : Cn} {T : List Ty} {D : Ends} {C : Addr} {m : Str} {E : XK} {tr : TA} {x : ι} {a : α} {y : β} {u : V} {j : Nat}
theorem ev_methR (hj : T[j]? = some (.ow (owV u w) a)) (hi : InsOf ra C m) (ha : EvA G tr T (As x)) (hp : pre (a, x)) (hf : f (a, x) = .ok y) : EvD G (tMeth C m (SpR G.K w As pre r f) [] E (tVar j) tr) T r y := fun B H σ fr Q q => by
  obtain ⟨S0, e1, ho0⟩ := fr.getO hj
  obtain ⟨p, dx, fs, rfl, i1, i2⟩ := hi _ _ _ _ (w.rd ho0 H fr.bh fun _ _ => rfl)
  refine ⟨_, e1, p, dx, fs, rfl, i1, i2, ha B H σ fr _ fun vs B1 H1 x1 ok => ?_⟩
  obtain ⟨S, e2, ho⟩ := (fr.ext x1).getO hj
  rw [List.append_nil]
  exact ⟨B1, a, x, _, vs, S, x1.s, hp, rfl, ho, ok, fun y' e v B' H' z hy => q v B' H' (x1.trans z) (by rw [hf] at e; cases e; exact hy), fun C e => by rw [hf] at e; cases e⟩
/-- its own thing, read as the heap stands -/
theorem ev_varR (hj : T[j]? = some (.ow (owK u G.B0 G.H0 w) a)) : EvH G (tVar j) T ra a := fun B H σ f Q q => by
  obtain ⟨own, _, sl⟩ := f.sl
  obtain ⟨s, e1, v, rfl, rfl, s0, S, ho⟩ := sl j _ hj
  exact ⟨_, e1, q _ B H (Ext.refl f.bh) (ra.mono f.h0 (w.rd ho G.H0 s0 fun _ _ => rfl))⟩
end
section
variable {G : Cn} {T : List Ty} {D : Ends} {te ta tb tc ty : TE} {C : Addr} {x : HD C} {u : V} {j : Nat} {α β γ : Type} {r : Rp α}
/-- what stands in the hall's dict -/
theorem ev_endR {i : Int} {b : T3 Int Int Int} (hj : T[j]? = some (.ow (owK u G.B0 G.H0 (oxHD (C := C))) x)) (hn : x.n = 5) (c : HCls G.K C) (hk : EvD G ty T rpInt i) (hl : lookI i x.ends = some b) : EvD G (tDGet (tFld G.K (tVar j) "ends") ty) T (@rpT3 Int Int Int _ _ _) b := fun B H σ f Q q => by
  obtain ⟨own, _, sl⟩ := f.sl
  obtain ⟨s, e1, v, rfl, rfl, s0, S, p, dx, v1, v2, v3, S1, S2, S3, h⟩ := sl j _ hj
  refine ⟨_, e1, p, C, dx, _, v3, h.ev, f.h0 _ _ h.hp, c.cl, c.nE, by rw [hfs5 hn]; exact lk_ends, hk B H σ f _ fun w B2 H2 x2 h2 => ?_⟩
  obtain ⟨e, kvs, rfl, hS, b0, hH, hr⟩ := h.o3 (by omega)
  obtain ⟨z, e3, e4⟩ := valV_look hr hl
  refine ⟨e, z, rfl, ?_, q z B2 H2 x2 ((@rpT3 Int Int Int _ _ _).mono (f.b0.trans x2.b) e4)⟩
  rw [show w = kV (.inl i) from h2, ← e3]
  exact DGet.k ((f.h0.trans x2.h) _ _ hH)
theorem ko_catT {X : Cx} (K : PySem.W.Frag) (h : X.K = K) : OpR X (binaryOp .Add) (rCatT K) := by subst h; exact op_catT
/-- (n,) + (a, b, c) -/
theorem ev_cat13 {n a b c : Int} (ha : EvD G ta T rpInt n) (hb : EvD G tb T (@rpT3 Int Int Int _ _ _) ⟨a, b, c⟩) : EvD G (tOp (rCatT G.K) (tTup (tCons ta tNil)) tb) T (@rpT4 Int Int Int Int _ _ _ _) ⟨n, a, b, c⟩ := fun B H σ f Q q =>
  ha B H σ f _ fun v B1 H1 x1 e1 => ⟨by show 1 ≤ sizeLine; decide, fun p hp => by
    have x2 := upd_ext (o := .tup [v]) x1.s hp
    refine hb _ _ σ ((f.ext x1).ext x2) _ fun w B3 H3 x3 e3 => ?_
    obtain ⟨p', y1, y2, y3, rfl, hp', r1, r2, r3⟩ := e3
    refine ⟨p, p', [v], [y1, y2, y3], rfl, rfl, .inl (.inl (x3.h _ _ upd_same)), .inl (.inl (x3.s _ _ hp')), by simp, by show 4 ≤ sizeLine; decide, (fun z => by cases z), fun _ l hl => ?_⟩
    have x4 := upd_ext (o := .tup ([v] ++ [y1, y2, y3])) x3.s hl
    exact q (.ref l) _ _ (((x1.trans x2).trans x3).trans x4) ⟨l, v, y1, y2, y3, rfl, upd_same, e1, r1, r2, r3⟩⟩
/-- list((a, b, c)) -/
theorem ev_listT3 {a b c : α} (h : EvD G te T (@rpT3 α α α r r r) ⟨a, b, c⟩) : EvN G (tCB (rListQ G.K) (tCons te tNil)) T r [a, b, c] := fun B H σ f Q q =>
  h B H σ f _ fun v B1 H1 x1 e1 => by
    obtain ⟨p, y1, y2, y3, rfl, hp, r1, r2, r3⟩ := e1
    refine ⟨p, [y1, y2, y3], rfl, .inr (.inl (.of (x1.s _ _ hp))), fun l hl => ?_⟩
    have x2 := upd_extN (o := .lst [y1, y2, y3]) x1.s hl
    exact q l _ B1 _ (x1.trans x2) (x1.h.free hl) (x1.s.free hl) upd_same (.cons r1 (.cons r2 (.cons r3 .nil)))
end
end DL

set_option Elab.async false
set_option linter.all false
set_option maxRecDepth 100000
set_option maxHeartbeats 4000000
/-! a law's own layer, twenty-eighth part: a hall that stands, read; a tuple of three by a number -/
namespace DL
open PySem PySem.Spec PyProof.Rows L2
section
variable {G : Cn} {T : List Ty} {D : Ends} {te ta tb tc td ty tv : TE} {tu : TS} {C : Addr} {x : HD C} {u : V} {j : Nat} {α : Type} {r : Rp α}
theorem ev_inD' (h : EvD G te T (@rpHD C) x) (hn : x.n = 5) (c : HCls G.K C) : EvD G (tFld G.K te "at_in") T (@rpList (List (Option Int)) (@rpList (Option Int) _)) x.ain := fun B H σ f Q q => h B H σ f _ fun v B1 H1 x1 e1 => by
  obtain ⟨p, dx, v1, v2, v3, rfl, hp, r1, _⟩ := e1
  exact ⟨p, C, dx, _, v1, rfl, x1.s _ _ hp, c.cl, c.nI, by rw [hfs5 hn]; exact lk_in, q _ B1 H1 x1 (r1 (by omega))⟩
theorem ev_outD' (h : EvD G te T (@rpHD C) x) (hn : x.n = 5) (c : HCls G.K C) : EvD G (tFld G.K te "at_out") T (@rpList (List (Option Int)) (@rpList (Option Int) _)) x.aout := fun B H σ f Q q => h B H σ f _ fun v B1 H1 x1 e1 => by
  obtain ⟨p, dx, v1, v2, v3, rfl, hp, _, r2, _⟩ := e1
  exact ⟨p, C, dx, _, v2, rfl, x1.s _ _ hp, c.cl, c.nO, by rw [hfs5 hn]; exact lk_out, q _ B1 H1 x1 (r2 (by omega))⟩
theorem ev_endsD (h : EvD G te T (@rpHD C) x) (hn : x.n = 5) (c : HCls G.K C) : EvD G (tFld G.K te "ends") T (@rpDI (T3 Int Int Int) _) ⟨x.ends⟩ := fun B H σ f Q q => h B H σ f _ fun v B1 H1 x1 e1 => by
  obtain ⟨p, dx, v1, v2, v3, rfl, hp, _, _, r3⟩ := e1
  exact ⟨p, C, dx, _, v3, rfl, x1.s _ _ hp, c.cl, c.nE, by rw [hfs5 hn]; exact lk_ends, q _ B1 H1 x1 (r3 (by omega))⟩
theorem EvD.t3l {t : T3 α α α} (h : EvD G te T (@rpT3 α α α r r r) t) : EvD G te T (@rpTL α r) ⟨[t.a, t.b, t.c]⟩ := fun B H σ f Q q => h B H σ f Q fun v B' H' x ⟨p, a, b, c, e, hp, h1, h2, h3⟩ => q v B' H' x ⟨p, [a, b, c], e, hp, .cons h1 (.cons h2 (.cons h3 .nil))⟩
theorem EvD.unS {a : α} (h : EvD G te T (@rpOpt α r) (some a)) : EvD G te T r a := h
end
end DL

set_option Elab.async false
set_option linter.all false
set_option maxRecDepth 100000
set_option maxHeartbeats 4000000
/-! a law's own layer, twenty-ninth part: what an except clause holds, asked; calls that read alone -/
namespace DL
open PySem PySem.Spec PyProof.Rows L2
instance pdT4 {α β γ δ : Type} [Rp α] [Pd α] [Rp β] [Pd β] [Rp γ] [Pd γ] [Rp δ] [Pd δ] : Pd (T4 α β γ δ) := ⟨fun p => .tuple [Pd.pd p.a, Pd.pd p.b, Pd.pd p.c, Pd.pd p.d], fun ⟨p, x, y, z, u, a, b, c, d, f, g⟩ => by rw [a]; exact .tup (.inl (.inl b)) (.cons (Pd.dp c) (.cons (Pd.dp d) (.cons (Pd.dp f) (.cons (Pd.dp g) .nil)))), fun p => by simp [PyData.canLay0, PyData.canLayAll0, Pd.lay p.a, Pd.lay p.b, Pd.lay p.c, Pd.lay p.d], max (max (max (Pd.dn α) (Pd.dn β)) (Pd.dn γ)) (Pd.dn δ) + 1, fun p => by
  have h1 := Pd.dep p.a
  have h2 := Pd.dep p.b
  have h3 := Pd.dep p.c
  have h4 := Pd.dep p.d
  simp only [PyData.depth, PyData.depthAll]
  omega, fun a b => by
  obtain ⟨a1, a2, a3, a4⟩ := a
  obtain ⟨b1, b2, b3, b4⟩ := b
  simp only [PyData.eqv, PyData.eqvAll, Bool.and_eq_true, Pd.eqv, T4.mk.injEq, and_true]⟩
@[reducible] def rpEq (v : V) : Rp Unit := ⟨fun _ _ _ x => x = v, fun _ h => h⟩
section
variable {G : Cn} {T : List Ty} {D : Ends} {te ta tb tc : TE}
theorem g_asX {i : Nat} {c C : Addr} {ts : Addr → Value → Option Addr → TS} {Wout : WX} (hi : i < T.length) (e : PySem.W.exmOne G.K (.ref C) (.ref c) = some true)
    (h : ∀ a, Goes G (T.set i (.im (rpEq (.ref a)) ())) (ts a (.ref C) none { nx := fun σ' H' => D.nx (σ'.set i none) H', rt := D.rt, bk := fun σ' H' => D.bk (σ'.set i none) H', ct := fun σ' H' => D.ct (σ'.set i none) H' })) :
    Goes G T (fun σ H => wAs G.K (.ref c) i ts Wout D (.ref C) none σ H) := fun B H σ fr =>
  ⟨true, e, fun _ a _ => h a B H _ (fr.set_im i (rpEq (.ref a)) rfl), fun z => Bool.noConfusion z⟩
theorem ev_isE {i : Nat} {a C : Addr} {v : V} {cv : Value} {b : Bool} (hi : T[i]? = some (.im (rpEq (.ref a)) ())) (x : ExcC G.K C) (hv : ∀ u, RelV v u → u = cv) (k : PySem.W.kitOne G.K (.ref C) cv = some b) : EvD G (tCB (rIsEg G.K (.ref C) none a) (tCons (tVar i) (tCons (tC v) tNil))) T rpBool b := fun B H σ f Q q => by
  obtain ⟨own, _, sl⟩ := f.sl
  obtain ⟨s, e1, w, rfl, e2⟩ := sl i _ hi
  have e2 : w = .ref a := e2
  subst e2
  exact ⟨.ref a, e1, C, rfl, rfl, x, v, cv, b, rfl, hv, k, q _ B H (Ext.refl f.bh) rfl⟩
theorem rel_ref {a : Addr} : ∀ u, RelV (.ref a) u → u = .ref a := fun u r => by cases r; rfl
theorem rel_ty {s : String} : ∀ u, RelV (.ty s) u → u = .type s := fun u r => by cases r; rfl
end
section
variable {G : Cn} {T : List Ty} {D : Ends} {ι α β : Type} {As : ι → List Ty} [ra : Rp α] {w : Ox α} {pre : α × ι → Prop} {r : Rp β} {f : α × ι → Except Addr β} {C : Addr} {m : Str} {E : XK} {ES : L2.St → XK} {tr : TA} {x : ι} {a : α} {y : β} {u : V} {j : Nat}
theorem Fr.getK {B H : Hp} {σ : L2.St} (fr : Fr G B H σ T) (hj : T[j]? = some (.ow (owK u G.B0 G.H0 w) a)) : ∃ S, σ[j]? = some (some u) ∧ w.ox G.K B H a u S := by
  obtain ⟨own, _, sl⟩ := fr.sl
  obtain ⟨s, e1, v, rfl, rfl, s0, S, ho⟩ := sl j _ hj
  refine ⟨S, e1, w.fr ho fr.b0 fun q hq => ?_⟩
  obtain ⟨n1, n2⟩ := w.nb ho q hq
  refine ⟨?_, (fr.n0 q n2).trans n1⟩
  cases hH : G.H0 q with
  | none => exact absurd hH n2
  | some o => exact fr.h0 q o hH
theorem ev_callR (hj : T[j]? = some (.ow (owV u w) a)) (ha : EvA G tr T (As x)) (hp : pre (a, x)) (hf : f (a, x) = .ok y) : EvD G (tCall (SpR G.K w As pre r f) [] E (tCons (tVar j) tr)) T r y := fun B H σ fr Q q => by
  obtain ⟨S0, e1, _⟩ := fr.getO hj
  refine ⟨u, e1, ha B H σ fr _ fun vs B1 H1 x1 ok => ?_⟩
  obtain ⟨S, e2, ho⟩ := (fr.ext x1).getO hj
  show SpR G.K w As pre r f ((u :: vs) ++ []) H1 Q E
  rw [List.append_nil]
  exact ⟨B1, a, x, u, vs, S, x1.s, hp, rfl, ho, ok, fun y' e v B' H' z hy => q v B' H' (x1.trans z) (by rw [hf] at e; cases e; exact hy), fun C e => by rw [hf] at e; cases e⟩
theorem ex_methRT {C' : Addr} (hj : T[j]? = some (.ow (owK u G.B0 G.H0 w) a)) (hi : InsOf ra C m) (ha : EvA G tr T (As x)) (hp : pre (a, x)) (hf : f (a, x) = .error C') : EvXT G (tMethT C m (SpR G.K w As pre r f) ES (tVar j) tr) T (fun σ H => ES σ (.ref C') none H) := fun kk B H σ fr Q => by
  obtain ⟨S0, e1, ho0⟩ := fr.getK hj
  obtain ⟨p, dx, fs, rfl, i1, i2⟩ := hi _ _ _ _ (w.rd ho0 H fr.bh fun _ _ => rfl)
  refine ⟨_, e1, p, dx, fs, rfl, i1, i2, ha B H σ fr _ fun vs B1 H1 x1 ok => ?_⟩
  obtain ⟨S, e2, ho⟩ := (fr.ext x1).getK hj
  exact ⟨B1, a, x, _, vs, S, x1.s, hp, rfl, ho, ok, fun y' e => (by rw [hf] at e; cases e), fun C'' e H' s => by
    rw [hf] at e
    cases e
    exact kk B1 H' σ ((fr.ext x1).ext (Ext.raise x1.s s))⟩
end
end DL

set_option Elab.async false
set_option linter.all false
set_option maxRecDepth 100000
set_option maxHeartbeats 4000000
/-! a law's own layer, thirtieth part: tuples of four taken apart -/
namespace DL
open PySem PySem.Spec PyProof.Rows L2
section
variable {G : Cn} {T : List Ty} {D : Ends} {te ta tb tc : TE} {α : Type} {r : Rp α}
theorem EvD.t4l {t : T4 α α α α} (h : EvD G te T (@rpT4 α α α α r r r r) t) : EvD G te T (@rpTL α r) ⟨[t.a, t.b, t.c, t.d]⟩ := fun B H σ f Q q => h B H σ f Q fun v B' H' x ⟨p, a, b, c, d, e, hp, h1, h2, h3, h4⟩ => q v B' H' x ⟨p, [a, b, c, d], e, hp, .cons h1 (.cons h2 (.cons h3 (.cons h4 .nil)))⟩
/-- t[:3] -/
theorem ev_sl43 {t : T4 α α α α} (h : EvD G te T (@rpT4 α α α α r r r r) t) : EvD G (tSl (rSlT G.K) te tNoPart (tPart (tC (.int 3)))) T (@rpT3 α α α r r r) ⟨t.a, t.b, t.c⟩ := fun B H σ f Q q =>
  h B H σ f _ fun v B1 H1 x1 e1 => by
    obtain ⟨p, a, b, c, d, rfl, hp, h1, h2, h3, h4⟩ := e1
    refine ⟨3, rfl, p, [a, b, c, d], rfl, .inl (.inl (x1.s _ _ hp)), (show ¬ (HT.sIx 4 0 none = 0 ∧ HT.sIx 4 4 (some 3) = 4) by decide), fun l hl => ?_⟩
    have x2 := upd_ext (o := .tup (cutV [a, b, c, d] none (some 3))) x1.s hl
    exact q (.ref l) _ _ (x1.trans x2) ⟨l, a, b, c, rfl, upd_same, r.mono x2.b h1, r.mono x2.b h2, r.mono x2.b h3⟩
/-- t + (n,) -/
theorem ev_cat31 {a b c n : Int} (ha : EvD G ta T (@rpT3 Int Int Int _ _ _) ⟨a, b, c⟩) (hb : EvD G tb T rpInt n) : EvD G (tOp (rCatT G.K) ta (tTup (tCons tb tNil))) T (@rpT4 Int Int Int Int _ _ _ _) ⟨a, b, c, n⟩ := fun B H σ f Q q =>
  ha B H σ f _ fun v B1 H1 x1 e1 => by
    refine hb B1 H1 σ (f.ext x1) _ fun w B2 H2 x2 e2 => ⟨by show 1 ≤ sizeLine; decide, fun p hp => ?_⟩
    have x3 := upd_ext (o := .tup [w]) x2.s hp
    obtain ⟨p', y1, y2, y3, rfl, hp', r1, r2, r3⟩ := e1
    refine ⟨p', p, [y1, y2, y3], [w], rfl, rfl, .inl (.inl (x3.s _ _ (x3.b _ _ (x2.b _ _ hp')))), .inl (.inl upd_same), (fun z => by cases z), by show 4 ≤ sizeLine; decide, by simp, fun _ l hl => ?_⟩
    have x4 := upd_ext (o := .tup ([y1, y2, y3] ++ [w])) x3.s hl
    exact q (.ref l) _ _ (((x1.trans x2).trans x3).trans x4) ⟨l, y1, y2, y3, w, rfl, upd_same, r1, r2, r3, e2⟩
end
end DL

set_option Elab.async false
set_option linter.all false
set_option maxRecDepth 100000
set_option maxHeartbeats 4000000
/-! a law's own layer, thirty-first part: things made that nobody names, refused -/
namespace DL
open PySem PySem.Spec PyProof.Rows L2
section
variable {G : Cn} {T : List Ty} {D : Ends}
theorem Fr.set_un {B H : Hp} {σ : L2.St} (f : Fr G B H σ T) (i : Nat) : Fr G B H (σ.set i none) (T.set i .un) := by
  obtain ⟨own, o0, sl⟩ := f.sl
  refine ⟨f.bh, f.b0, f.h0, f.n0, by rw [List.length_set, List.length_set]; exact f.len, own, o0, fun j t e => ?_⟩
  by_cases hi : i = j
  · subst hi
    have hj : i < T.length := by
      have := (List.getElem?_eq_some_iff.mp e).1
      rwa [List.length_set] at this
    rw [List.getElem?_set_self hj] at e
    cases e
    exact ⟨none, List.getElem?_set_self (by rw [f.len]; exact hj), rfl⟩
  · rw [List.getElem?_set_ne hi] at e ⊢
    exact sl j t e
theorem g_unset {i : Nat} {k : L2.St → Hp → Prop} (q : Goes G (T.set i .un) k) : Goes G T fun σ H => k (σ.set i none) H := fun B H σ f => q B H _ (f.set_un i)
end
section
variable {G : Cn} {T : List Ty} {D : Ends} {α β ι : Type} [ra : Rp α] {w : Ox α} {r : Rp β} {C : Addr} {m : Str} {As : ι → List Ty} {pre : α × ι → Prop} {f : α × ι → Except Addr (β × α)} {E : XK} {tr : TA} {te : TE} {x : ι} {a a0 : α}
variable {fI : α × ι → Except Addr (Unit × α)}
theorem ex_makeF {C' : Addr} (h0 : NewOf w C a0) (ha : EvA G tr T (As x)) (hp : pre (a0, x)) (hf : fI (a0, x) = .error C') : EvXT G (tMake C (SpM G.K w As pre rpUnit fI) [] E tr) T (fun _ H => E (.ref C') none H) := fun kk B H σ fr Q => ha B H σ fr _ fun vs B1 H1 x1 ok => by
  intro p dx hpn hdn hne
  rw [List.append_nil]
  refine ⟨B1, a0, x, .ref p, vs, _, make_same x1.s hpn hdn, hp, rfl, h0 G.K B1 _ p dx (x1.s.free hpn) (x1.s.free hdn) hne upd_same (by rw [upd_ne hne, upd_same]), ok, fun y b' e => (by rw [hf] at e; cases e), fun C'' e B' H' S' z hS' ho' => ?_⟩
  rw [hf] at e
  cases e
  exact kk B' H' σ ((fr.ext x1).ext (make_ext x1.s hpn hdn z))
theorem ex_callMO {C' : Addr} (ho : EvO G te T w a) (hA : As x = []) (hp : pre (a, x)) (hf : f (a, x) = .error C') : EvXT G (tCall (SpM G.K w As pre r f) [] E (tCons te tNil)) T (fun _ H => E (.ref C') none H) := fun kk B H σ fr Q => ho B H σ fr _ fun u B1 H1 S x1 hS h1 => by
  show SpM G.K w As pre r f ([u] ++ []) H1 Q E
  rw [List.append_nil]
  refine ⟨B1, a, x, u, [], S, x1.s, hp, rfl, h1, by rw [hA]; trivial, fun y a' e => (by rw [hf] at e; cases e), fun C'' e B' H' S' z hS' ho' => ?_⟩
  rw [hf] at e
  cases e
  have up : ∀ q o, H q = some o → delS H1 S q = some o := fun q o e => by
    rw [delS_ne fun hq => by rw [hS q hq] at e; cases e]
    exact x1.h q o e
  exact kk B' H' σ (fr.ext ⟨x1.b.trans z.b, fun q o e => z.h q o (up q o e), z.s, fun q hq => by
    cases hH : H q with
    | none => exact absurd hH hq
    | some o => exact (z.n q (by rw [up q o hH]; intro w; cases w)).trans (x1.n q (by rw [hH]; intro w; cases w))⟩)
/-- f(x) that only raises, x given up -/
def SpE (K : PySem.W.Frag) {α : Type} [Rp α] (w : Ox α) (a0 : α) (Y : Addr) : Sp := fun vs H Q E => ∃ (B : Hp) (u : V) (S : Addr → Prop), Same B H ∧ vs = [u] ∧ w.ox K B H a0 u S ∧ ∀ H', Same (delS H S) H' → E (.ref Y) none H'
variable {P : Program} {wd : World} {K : PySem.W.Frag} {mg : Str → Option Value} {base : Heap} {nm qual : Str} {st : Stmt} {fa : Addr} {fd : FuncData} {N ps : List Str} {k : Nat} {Y : Addr}
theorem def_okE (F : Fun K nm qual st fa fd) (S : FnScope N ps (defScope st)) (len : 1 = ps.length)
    (hbody : ∀ (cdv : Value) (A : Around) (outer : List Env) (s : Shared) (H : Hp) (E : XK), Room k (A.deeper (envOfC qual (defScope st) s.heap.objs.size fa cdv)) →
      ∃ t, PSs (cxOf (L2.CX P wd) P wd K mg base N qual (defScope st) fa cdv A outer s H E) (defBody st) t ∧ ∀ (B H1 : Hp) (u : V) (Q : VK), (∀ H', Same H1 H' → E (.ref Y) none H') →
        Goes ⟨K, B, H1⟩ ((.ow (owV u w) a :: []) ++ List.replicate (N.length - (([] : List Ty).length + 1)) .un) (t { nx := fun _ H' => Q .non H', rt := Q })) :
    FnOk P wd K mg base (L2.CX P wd) (k + 1) fa fd ps (SpE K w a Y) := by
  refine F.okX S (fun vs H Q E h => ?_) (fun cdv A outer s H vs Q E hr h => ?_)
  · obtain ⟨B, u, S, _, rfl, _⟩ := h
    exact len
  · obtain ⟨B, u, S, sB, rfl, ho, h2⟩ := h
    obtain ⟨t, ht, hg⟩ := hbody cdv A outer s H E hr
    exact ⟨t, ht, hg B (delS H S) u Q h2 B H _ (Fr.entryM (us := []) (As := []) sB ho trivial)⟩
theorem ex_callE (ho : EvO G te T w a) : EvXT G (tCall (SpE G.K w a Y) [] E (tCons te tNil)) T (fun _ H => E (.ref Y) none H) := fun kk B H σ fr Q => ho B H σ fr _ fun u B1 H1 S x1 hS h1 => by
  show SpE G.K w a Y ([u] ++ []) H1 Q E
  rw [List.append_nil]
  have up : ∀ q o, H q = some o → delS H1 S q = some o := fun q o e => by
    rw [delS_ne fun hq => by rw [hS q hq] at e; cases e]
    exact x1.h q o e
  exact ⟨B1, u, S, x1.s, rfl, h1, fun H' s => kk B H' σ (fr.ext ⟨Same.refl _, fun q o e => s q o (up q o e), fr.bh.trans fun q o e => s q o (up q o e), fun _ _ => rfl⟩)⟩
end
end DL

set_option Elab.async false
set_option linter.all false
set_option maxRecDepth 100000
set_option maxHeartbeats 4000000
/-! a law's own layer, thirty-second part: what a call gives is one's own -/
namespace DL
open PySem PySem.Spec PyProof.Rows L2
/-- o.m(..) that leaves all as it stands and gives a new list -/
def SpRN (K : PySem.W.Frag) {α ι β : Type} [Rp α] (w : Ox α) (As : ι → List Ty) (pre : α × ι → Prop) (r : Rp β) (f : α × ι → Except Addr (List β)) : Sp := fun vs H Q E => ∃ (B : Hp) (a : α) (x : ι) (u : V) (us : List V) (S : Addr → Prop), Same B H ∧ pre (a, x) ∧ vs = u :: us ∧ w.ox K B H a u S ∧ ArgsOk K B us (As x) ∧
  (∀ y, f (a, x) = .ok y → ∀ p ws B' H', Ext B H B' H' → H p = none → B' p = none → H' p = some (.lst ws) → Paired (r.rp K B') y ws → Q (.ref p) H') ∧ (∀ C, f (a, x) = .error C → ∀ H', Same H H' → E (.ref C) none H')
section
variable {ι α β : Type} {As : ι → List Ty} [ra : Rp α] {w : Ox α} {pre : α × ι → Prop} {r : Rp β} {f : α × ι → Except Addr (List β)}
variable {P : Program} {wd : World} {K : PySem.W.Frag} {mg : Str → Option Value} {base : Heap} {nm qual : Str} {st : Stmt} {fa : Addr} {fd : FuncData} {N ps : List Str} {k : Nat}
theorem def_okRN (F : Fun K nm qual st fa fd) (S : FnScope N ps (defScope st)) (len : ∀ x, (As x).length + 1 = ps.length)
    (hbody : ∀ (cdv : Value) (A : Around) (outer : List Env) (s : Shared) (H : Hp) (E : XK), Room k (A.deeper (envOfC qual (defScope st) s.heap.objs.size fa cdv)) →
      ∃ t, PSs (cxOf (L2.CX P wd) P wd K mg base N qual (defScope st) fa cdv A outer s H E) (defBody st) t ∧ ∀ (B : Hp) (a : α) (x : ι) (u : V) (Q : VK), pre (a, x) → (∀ y, f (a, x) = .ok y → RetN ⟨K, B, H⟩ Q r y) → (∀ C, f (a, x) = .error C → ∀ H', Same H H' → E (.ref C) none H') →
        Goes ⟨K, B, H⟩ ((.ow (owK u B H w) a :: As x) ++ List.replicate (N.length - ((As x).length + 1)) .un) (t { nx := fun _ H' => Q .non H', rt := Q })) :
    FnOk P wd K mg base (L2.CX P wd) (k + 1) fa fd ps (SpRN K w As pre r f) := by
  refine F.okX S (fun vs H Q E h => ?_) (fun cdv A outer s H vs Q E hr h => ?_)
  · obtain ⟨B, a, x, u, us, S, _, _, rfl, _, ok, _⟩ := h
    show us.length + 1 = _
    rw [args_len ok]
    exact len x
  · obtain ⟨B, a, x, u, us, S, sB, hp, rfl, ho, ok, h1, h2⟩ := h
    obtain ⟨t, ht, hg⟩ := hbody cdv A outer s H E hr
    exact ⟨t, ht, hg B a x u Q hp (fun y e p ws B' H' y2 n1 n2 e2 z => h1 y e p ws B' H' y2 n1 n2 e2 z) h2 B H _ (Fr.entryR sB ho ok)⟩
variable {G : Cn} {T : List Ty} {D : Ends} {C : Addr} {m : Str} {E : XK} {tr : TA} {x : ι} {a : α} {y : List β} {u : V} {j : Nat} {te : TE} {tu : TS}
theorem ev_methRN (hj : T[j]? = some (.ow (owV u w) a)) (hi : InsOf ra C m) (ha : EvA G tr T (As x)) (hp : pre (a, x)) (hf : f (a, x) = .ok y) : EvN G (tMeth C m (SpRN G.K w As pre r f) [] E (tVar j) tr) T r y := fun B H σ fr Q q => by
  obtain ⟨S0, e1, ho0⟩ := fr.getO hj
  obtain ⟨p, dx, fs, rfl, i1, i2⟩ := hi _ _ _ _ (w.rd ho0 H fr.bh fun _ _ => rfl)
  refine ⟨_, e1, p, dx, fs, rfl, i1, i2, ha B H σ fr _ fun vs B1 H1 x1 ok => ?_⟩
  obtain ⟨S, e2, ho⟩ := (fr.ext x1).getO hj
  rw [List.append_nil]
  exact ⟨B1, a, x, _, vs, S, x1.s, hp, rfl, ho, ok, fun y' e p ws B' H' z n1 n2 e2 hy => q p ws B' H' (x1.trans z) (x1.h.free n1) n2 e2 (by rw [hf] at e; cases e; exact hy), fun C e => by rw [hf] at e; cases e⟩
/-- a list just made is emptied -/
theorem g_clearN {xs : List β} (h : EvN G te T r xs) (q : Goes G T D.nx) : Goes G T (tDrop (tBM0 G.K "list" rClear te) D) := fun B H σ f => h B H σ f _ fun p vs B1 H1 x1 n1 n2 e z => by
  refine ⟨.inl ⟨rfl, vs, .inl (.inl e)⟩, p, vs, rfl, rfl, e, ?_⟩
  have x2 : Ext B H B1 (upd H1 p (.lst [])) := ⟨x1.b, fun b o hb => by
    rw [upd_ne fun z => by rw [z, n1] at hb; cases hb]
    exact x1.h b o hb, fun b o hb => by
    rw [upd_ne (ne_of_none hb n2)]
    exact x1.s b o hb, x1.n⟩
  exact q B1 _ σ (f.ext x2)
theorem q_clearN {xs : List β} (h : EvN G te T r xs) (q : Goes G T (tu D)) : Goes G T (tSeq (tDrop (tBM0 G.K "list" rClear te)) tu D) := g_clearN (D := { D with nx := tu D }) h q
end
/-! a call's own answer: a number, a number, a list -/
abbrev A3 := T3 Int Int (List Int)
instance oxA3 : @Ox A3 (@rpT3 Int Int (List Int) rpInt rpInt (@rpList Int rpInt)) :=
  letI := @rpT3 Int Int (List Int) rpInt rpInt (@rpList Int rpInt)
  { ox := fun K B H y v S => ∃ p l, v = .ref p ∧ p ≠ l ∧ (∀ q, S q ↔ q = p ∨ q = l) ∧ B p = none ∧ B l = none ∧ H p = some (.tup [.int y.a, .int y.b, .ref l]) ∧ H l = some (.lst (y.c.map V.int))
    fr := by
      rintro K B H B' H' a v S ⟨p, l, e, ne, hS, b1, b2, h1, h2⟩ sb k
      have kp := k p ((hS p).mpr (.inl rfl))
      have kl := k l ((hS l).mpr (.inr rfl))
      exact ⟨p, l, e, ne, hS, kp.2, kl.2, kp.1.trans h1, kl.1.trans h2⟩
    nb := by
      rintro K B H a v S ⟨p, l, e, ne, hS, b1, b2, h1, h2⟩ q hq
      rcases (hS q).mp hq with rfl | rfl
      · exact ⟨b1, by rw [h1]; intro z; cases z⟩
      · exact ⟨b2, by rw [h2]; intro z; cases z⟩
    rd := by
      rintro K B H a v S ⟨p, l, e, ne, hS, b1, b2, h1, h2⟩ H' sb k
      exact ⟨p, .int a.a, .int a.b, .ref l, e, (k p ((hS p).mpr (.inl rfl))).trans h1, rfl, rfl, l, _, rfl, (k l ((hS l).mpr (.inr rfl))).trans h2, of_ints⟩ }
/-- or nothing -/
abbrev rpA3 : Rp A3 := @rpT3 Int Int (List Int) rpInt rpInt (@rpList Int rpInt)
instance oxOA3 : @Ox (Option A3) (@rpOpt A3 rpA3) :=
  letI := @rpOpt A3 rpA3
  { ox := fun K B H y v S => match y with
      | none => v = .non ∧ ∀ q, ¬ S q
      | some a => oxA3.ox K B H a v S
    fr := by
      rintro K B H B' H' a v S h sb k
      cases a with
      | none => exact h
      | some a => exact oxA3.fr h sb k
    nb := by
      rintro K B H a v S h q hq
      cases a with
      | none => exact absurd hq (h.2 q)
      | some a => exact oxA3.nb h q hq
    rd := by
      rintro K B H a v S h H' sb k
      cases a with
      | none => exact h.1
      | some a => exact oxA3.rd h H' sb k }
/-- f(x, ..) that changes x and gives something of its own -/
def SpMO (K : PySem.W.Frag) {α ι β : Type} [Rp α] (w : Ox α) [Rp β] (w2 : Ox β) (As : ι → List Ty) (pre : α × ι → Prop) (f : α × ι → Except Addr (β × α)) : Sp := fun vs H Q E => ∃ (B : Hp) (a : α) (x : ι) (u : V) (us : List V) (S : Addr → Prop), Same B H ∧ pre (a, x) ∧ vs = u :: us ∧ w.ox K B H a u S ∧ ArgsOk K B us (As x) ∧
  (∀ y a', f (a, x) = .ok (y, a') → ∀ v B' H' S' S2, Ext B (delS H S) B' H' → (∀ q, S' q → delS H S q = none) → (∀ q, S2 q → delS H S q = none ∧ ¬ S' q) → w.ox K B' H' a' u S' → w2.ox K B' H' y v S2 → Q v H') ∧
  (∀ C, f (a, x) = .error C → ∀ B' H' S', Ext B (delS H S) B' H' → (∀ q, S' q → delS H S q = none) → w.ox K B' H' a u S' → E (.ref C) none H')
def RetMO (G : Cn) (rt : VK) {α β : Type} [Rp α] (u : V) (w : Ox α) [Rp β] (w2 : Ox β) (y : β) (a : α) : Prop := ∀ v B H S S2, Ext G.B0 G.H0 B H → (∀ q, S q → G.H0 q = none) → (∀ q, S2 q → G.H0 q = none ∧ ¬ S q) → w.ox G.K B H a u S → w2.ox G.K B H y v S2 → rt v H
section
variable {ι α β : Type} {As : ι → List Ty} [ra : Rp α] {w : Ox α} [rb : Rp β] {w2 : Ox β} {pre : α × ι → Prop} {f : α × ι → Except Addr (β × α)}
variable {P : Program} {wd : World} {K : PySem.W.Frag} {mg : Str → Option Value} {base : Heap} {nm qual : Str} {st : Stmt} {fa : Addr} {fd : FuncData} {N ps : List Str} {k : Nat}
theorem def_okMO (F : Fun K nm qual st fa fd) (S : FnScope N ps (defScope st)) (len : ∀ x, (As x).length + 1 = ps.length)
    (hbody : ∀ (cdv : Value) (A : Around) (outer : List Env) (s : Shared) (H : Hp) (E : XK), Room k (A.deeper (envOfC qual (defScope st) s.heap.objs.size fa cdv)) →
      ∃ t, PSs (cxOf (L2.CX P wd) P wd K mg base N qual (defScope st) fa cdv A outer s H E) (defBody st) t ∧ ∀ (B H1 : Hp) (a : α) (x : ι) (u : V) (Q : VK), pre (a, x) → (∀ y a', f (a, x) = .ok (y, a') → RetMO ⟨K, B, H1⟩ Q u w w2 y a') → (∀ C, f (a, x) = .error C → RaiM ⟨K, B, H1⟩ E u w C a) →
        Goes ⟨K, B, H1⟩ ((.ow (owV u w) a :: As x) ++ List.replicate (N.length - ((As x).length + 1)) .un) (t { nx := fun _ H' => Q .non H', rt := Q })) :
    FnOk P wd K mg base (L2.CX P wd) (k + 1) fa fd ps (SpMO K w w2 As pre f) := by
  refine F.okX S (fun vs H Q E h => ?_) (fun cdv A outer s H vs Q E hr h => ?_)
  · obtain ⟨B, a, x, u, us, S, _, _, rfl, _, ok, _⟩ := h
    show us.length + 1 = _
    rw [args_len ok]
    exact len x
  · obtain ⟨B, a, x, u, us, S, sB, hp, rfl, ho, ok, h1, h2⟩ := h
    obtain ⟨t, ht, hg⟩ := hbody cdv A outer s H E hr
    exact ⟨t, ht, hg B (delS H S) a x u Q hp (fun y a' e v B' H' S' S2 y2 hS hS2 ho' hy => h1 y a' e v B' H' S' S2 y2 hS hS2 ho' hy) (fun C e B' H' S' y2 hS ho' => h2 C e B' H' S' y2 hS ho') B H _ (Fr.entryM sB ho ok)⟩
variable {G : Cn} {T : List Ty} {D : Ends} {C : Addr} {m : Str} {E : XK} {ES : L2.St → XK} {tr : TA} {x : ι} {a a' : α} {y : β} {u : V} {i j : Nat} {te : TE} {tu : TS}
theorem g_retVO (hi : T[i]? = some (.ow (owV u w) a)) (h : EvO G te T w2 y) (q : RetMO G D.rt u w w2 y a) : Goes G T (tRet te D) := fun B H σ f => h B H σ f _ fun v B1 H1 S2 x1 hS2 e1 => by
  obtain ⟨S0, _, ho0⟩ := f.getO hi
  have f1 := f.ext x1
  obtain ⟨own, o0, sl⟩ := f.sl
  obtain ⟨s, _, u', rfl, rfl, S, hS, ho⟩ := sl i _ hi
  have ho1 : w.ox G.K B1 H1 a _ S := w.fr ho x1.b fun p hp => by
    obtain ⟨n1, n2⟩ := w.nb ho p hp
    refine ⟨?_, (x1.n p n2).trans n1⟩
    cases hH : H p with
    | none => exact absurd hH n2
    | some o => exact x1.h p o hH
  exact q v B1 H1 S S2 f1.ext0 (fun p hp => o0 p i (hS p hp)) (fun p hp => ⟨f.h0.free (hS2 p hp), fun z => (w.nb ho p z).2 (hS2 p hp)⟩) ho1 e1
/-- an expression that changes slot j's thing and gives one's own -/
def EvMO (G : Cn) (te : TE) (T : List Ty) {α β : Type} [Rp α] (w : Ox α) [Rp β] (w2 : Ox β) (j : Nat) (u : V) (y : β) (a' : α) : Prop := ∀ B H σ, Fr G B H σ T → ∀ Q : VK, (∀ v B' H' S S2, Fr G B' H' σ (T.set j (.ow (owV u w) a')) → (∀ i, Fr G B' H' (σ.set i (some v)) ((T.set j (.ow (owV u w) a')).set i (.ow (owV v w2) y))) → (∀ q, S q → G.H0 q = none) → (∀ q, S2 q → G.H0 q = none ∧ ¬ S q) → w.ox G.K B' H' a' u S → w2.ox G.K B' H' y v S2 → Q v H') → te σ H Q
theorem Fr.mutO2 {B H : Hp} {σ : L2.St} (f : Fr G B H σ T) (hj : T[j]? = some (.ow (owV u w) a)) :
    ∃ S, σ[j]? = some (some u) ∧ w.ox G.K B H a u S ∧ (∀ q, S q → G.H0 q = none) ∧ ∀ (a' : α) (v : V) (y : β) (B' H' : Hp) (S' S2 : Addr → Prop), Ext B (delS H S) B' H' → (∀ q, S' q → delS H S q = none) → (∀ q, S2 q → delS H S q = none ∧ ¬ S' q) → w.ox G.K B' H' a' u S' → w2.ox G.K B' H' y v S2 → Fr G B' H' σ (T.set j (.ow (owV u w) a')) ∧ ∀ i, Fr G B' H' (σ.set i (some v)) ((T.set j (.ow (owV u w) a')).set i (.ow (owV v w2) y)) := by
  classical
  obtain ⟨S, e1, ho, h0, k⟩ := f.mutO hj
  refine ⟨S, e1, ho, h0, fun a' v y B' H' S' S2 z hS' hS2 ho' hy => ⟨k α ra w a' B' H' S' z hS' ho', fun i => ?_⟩⟩
  have n2 : ∀ q, S2 q → B' q = none := fun q hq => (w2.nb hy q hq).1
  have f0 := k α ra w a' B' (delS H' S2) S' ⟨z.b, fun q o e => by
    rw [delS_ne fun hq => by rw [(hS2 q hq).1] at e; cases e]
    exact z.h q o e, fun q o e => by
    rw [delS_ne fun hq => by rw [n2 q hq] at e; cases e]
    exact z.s q o e, z.n⟩ hS' (w.fr ho' (Same.refl _) fun q hq => ⟨delS_ne fun h2 => (hS2 q h2).2 hq, (w.nb ho' q hq).1⟩)
  exact f0.newO i ⟨Same.refl _, fun q o e => (delS_some e).2, z.s, fun _ _ => rfl⟩ (fun q hq => delS_in hq) hy
theorem free_of {G : Cn} {T : List Ty} {B H : Hp} {σ : L2.St} (f : Fr G B H σ T) {S : Addr → Prop} (h0 : ∀ q, S q → G.H0 q = none) {q : Addr} (h : delS H S q = none) : G.H0 q = none := by
  by_cases hq : S q
  · exact h0 q hq
  · rw [delS_ne hq] at h
    exact f.h0.free h
theorem ev_methMOT (hj : T[j]? = some (.ow (owV u w) a)) (hi : InsOf ra C m) (ha : EvA G tr T (As x)) (hp : pre (a, x)) (hf : f (a, x) = .ok (y, a')) : EvMO G (tMethT C m (SpMO G.K w w2 As pre f) ES (tVar j) tr) T w w2 j u y a' := fun B H σ fr Q q => by
  obtain ⟨S0, e1, ho0⟩ := fr.getO hj
  obtain ⟨p, dx, fs, rfl, i1, i2⟩ := hi _ _ _ _ (w.rd ho0 H fr.bh fun _ _ => rfl)
  refine ⟨_, e1, p, dx, fs, rfl, i1, i2, ha B H σ fr _ fun vs B1 H1 x1 ok => ?_⟩
  have fr1 := fr.ext x1
  obtain ⟨S, e2, ho, hS0, k⟩ := fr1.mutO2 (w2 := w2) hj
  exact ⟨B1, a, x, _, vs, S, x1.s, hp, rfl, ho, ok, fun y' b' e v B' H' S' S2 z hS' hS2 ho' hy => by
    rw [hf] at e
    cases e
    obtain ⟨k1, k2⟩ := k a' v y B' H' S' S2 z hS' hS2 ho' hy
    exact q v B' H' S' S2 k1 k2 (fun q hq => free_of fr1 hS0 (hS' q hq)) (fun q hq => ⟨free_of fr1 hS0 (hS2 q hq).1, (hS2 q hq).2⟩) ho' hy, fun C e => by rw [hf] at e; cases e⟩
theorem ex_methMOT {C' : Addr} (hj : T[j]? = some (.ow (owV u w) a)) (hi : InsOf ra C m) (ha : EvA G tr T (As x)) (hp : pre (a, x)) (hf : f (a, x) = .error C') : EvXT G (tMethT C m (SpMO G.K w w2 As pre f) ES (tVar j) tr) T (fun σ H => ES σ (.ref C') none H) := fun kk B H σ fr Q => by
  obtain ⟨S0, e1, ho0⟩ := fr.getO hj
  obtain ⟨p, dx, fs, rfl, i1, i2⟩ := hi _ _ _ _ (w.rd ho0 H fr.bh fun _ _ => rfl)
  refine ⟨_, e1, p, dx, fs, rfl, i1, i2, ha B H σ fr _ fun vs B1 H1 x1 ok => ?_⟩
  obtain ⟨S, e2, ho, hS0, k⟩ := (fr.ext x1).mutO hj
  exact ⟨B1, a, x, _, vs, S, x1.s, hp, rfl, ho, ok, fun y' b' e => (by rw [hf] at e; cases e), fun C'' e B' H' S' z hS' ho' => by
    rw [hf] at e
    cases e
    have f2 := k α ra w a B' H' S' z hS' ho'
    rw [set_same hj] at f2
    exact kk B' H' σ f2⟩
theorem ev_callMO (hj : T[j]? = some (.ow (owV u w) a)) (ha : EvA G tr T (As x)) (hp : pre (a, x)) (hf : f (a, x) = .ok (y, a')) : EvMO G (tCall (SpMO G.K w w2 As pre f) [] E (tCons (tVar j) tr)) T w w2 j u y a' := fun B H σ fr Q q => by
  obtain ⟨S0, e1, _⟩ := fr.getO hj
  refine ⟨u, e1, ha B H σ fr _ fun vs B1 H1 x1 ok => ?_⟩
  have fr1 := fr.ext x1
  obtain ⟨S, e2, ho, hS0, k⟩ := fr1.mutO2 (w2 := w2) hj
  show SpMO G.K w w2 As pre f ((u :: vs) ++ []) H1 Q E
  rw [List.append_nil]
  exact ⟨B1, a, x, u, vs, S, x1.s, hp, rfl, ho, ok, fun y' b' e v B' H' S' S2 z hS' hS2 ho' hy => by
    rw [hf] at e
    cases e
    obtain ⟨k1, k2⟩ := k a' v y B' H' S' S2 z hS' hS2 ho' hy
    exact q v B' H' S' S2 k1 k2 (fun q hq => free_of fr1 hS0 (hS' q hq)) (fun q hq => ⟨free_of fr1 hS0 (hS2 q hq).1, (hS2 q hq).2⟩) ho' hy, fun C e => by rw [hf] at e; cases e⟩
theorem g_retMO (h : EvMO G te T w w2 j u y a') (q : RetMO G D.rt u w w2 y a') : Goes G T (tRet te D) := fun B H σ f => h B H σ f _ fun v B' H' S S2 f1 _ h1 h2 ho hy => q v B' H' S S2 f1.ext0 h1 h2 ho hy
theorem g_asgMO (h : EvMO G te T w w2 j u y a') (q : ∀ v, Goes G ((T.set j (.ow (owV u w) a')).set i (.ow (owV v w2) y)) D.nx) : Goes G T (tAsg te (gName i) D) := fun B H σ f => h B H σ f _ fun v B' H' S S2 _ f2 _ _ _ _ => q v B' H' _ (f2 i)
theorem q_asgMO (h : EvMO G te T w w2 j u y a') (q : ∀ v, Goes G ((T.set j (.ow (owV u w) a')).set i (.ow (owV v w2) y)) (tu D)) : Goes G T (tSeq (tAsg te (gName i)) tu D) := g_asgMO (D := { D with nx := tu D }) h q
end
end DL

set_option Elab.async false
set_option linter.all false
set_option maxRecDepth 100000
set_option maxHeartbeats 4000000
/-! a law's own layer, thirty-third part: the answer of a put, one's own -/
namespace DL
open PySem PySem.Spec PyProof.Rows L2
section
variable {G : Cn} {T : List Ty} {D : Ends} {ta tb tc te : TE} {tu : TS} {i j : Nat} {u : V} {a : A3}
theorem ev_tripO {x y : Int} {xs : List Int} (ha : EvD G ta T rpInt x) (hb : EvD G tb T rpInt y) (hc : EvN G tc T rpInt xs) : @EvO G (tTup (tCons ta (tCons tb (tCons tc tNil)))) T A3 rpA3 oxA3 ⟨x, y, xs⟩ := fun B H σ f Q q =>
  ha B H σ f _ fun v B1 H1 x1 e1 => hb B1 H1 σ (f.ext x1) _ fun w B2 H2 x2 e2 => hc B2 H2 σ ((f.ext x1).ext x2) _ fun l ws B3 H3 x3 n1 n2 e z => ⟨by show 3 ≤ sizeLine; decide, fun p hp => by
    have ew := ints_of z
    subst ew
    have ne : p ≠ l := fun z => by rw [z, e] at hp; cases hp
    have x4 := upd_extN (o := .tup [v, w, .ref l]) x3.s hp
    refine q (.ref p) B3 _ (fun q => q = p ∨ q = l) (((x1.trans x2).trans x3).trans x4) (fun q hq => ?_) ⟨p, l, rfl, ne, fun _ => Iff.rfl, x3.s.free hp, n2, by rw [upd_same, show v = .int x from e1, show w = .int y from e2], (upd_ne (Ne.symm ne)).trans e⟩
    rcases hq with rfl | rfl
    · exact ((x1.trans x2).trans x3).h.free hp
    · exact (x1.trans x2).h.free n1⟩
theorem ev_someO (h : @EvO G te T A3 rpA3 oxA3 a) : @EvO G te T (Option A3) (@rpOpt A3 rpA3) oxOA3 (some a) := h
theorem ev_nonO : @EvO G (tC .non) T (Option A3) (@rpOpt A3 rpA3) oxOA3 none := fun B H σ f Q q => q .non B H (fun _ => False) (Ext.refl f.bh) (fun _ z => z.elim) ⟨rfl, fun _ z => z⟩
theorem Fr.getA {B H : Hp} {σ : L2.St} (f : Fr G B H σ T) (hj : T[j]? = some (.ow (@owV _ (@rpOpt A3 rpA3) u oxOA3) (some a))) : ∃ p l, σ[j]? = some (some (.ref p)) ∧ u = .ref p ∧ H p = some (.tup [.int a.a, .int a.b, .ref l]) ∧ H l = some (.lst (a.c.map V.int)) := by
  obtain ⟨S, e1, p, l, e, ne, hS, b1, b2, h1, h2⟩ := f.getO (w := oxOA3) hj
  exact ⟨p, l, by rw [e1, e], e, h1, h2⟩
/-- x[0] -/
theorem ev_fstA (hj : T[j]? = some (.ow (@owV _ (@rpOpt A3 rpA3) u oxOA3) (some a))) : EvD G (tOp (rIxT G.K) (tVar j) (tC (.int 0))) T rpInt a.a := fun B H σ f Q q => by
  obtain ⟨p, l, e1, _, h1, h2⟩ := f.getA hj
  exact ⟨_, e1, p, _, 0, .int a.a, rfl, rfl, .inl (.inl h1), rfl, q _ B H (Ext.refl f.bh) rfl⟩
/-- x[2].append(n) -/
theorem g_appA {n : Int} (hj : T[j]? = some (.ow (@owV _ (@rpOpt A3 rpA3) u oxOA3) (some a))) (h : EvD G te T rpInt n) (hz : a.c.length < 100000) (q : Goes G (T.set j (.ow (@owV _ (@rpOpt A3 rpA3) u oxOA3) (some ⟨a.a, a.b, a.c ++ [n]⟩))) D.nx) :
    Goes G T (tDrop (tBM G.K "list" rAppend (tOp (rIxT G.K) (tVar j) (tC (.int 2))) (tCons te tNil)) D) := fun B H σ f => by
  obtain ⟨p0, l0, e0, eu, h10, h20⟩ := f.getA hj
  refine ⟨_, e0, p0, _, 2, .ref l0, rfl, rfl, .inl (.inl h10), rfl, .inl ⟨rfl, _, .inl (.inl h20)⟩, h B H σ f _ fun v B1 H1 x1 h1 => ?_⟩
  obtain ⟨S, e2, ⟨p, l, e, ne, hS, b1, b2, g1, g2⟩, hS0, k⟩ := (f.ext x1).mutO (w := oxOA3) hj
  have ep : p0 = p := by rw [eu] at e; cases e; rfl
  subst ep
  have el : l0 = l := by
    have := (x1.h _ _ h10).symm.trans g1
    cases this
    rfl
  subst el
  refine ⟨l0, _, v, rfl, rfl, g2, by rw [List.length_map]; exact sz_lt hz, ?_⟩
  have hv : v = .int n := h1
  subst hv
  refine q B1 _ σ (k _ (@rpOpt A3 rpA3) oxOA3 (some ⟨a.a, a.b, a.c ++ [n]⟩) B1 (upd H1 l0 (.lst (a.c.map V.int ++ [.int n]))) S ⟨Same.refl _, fun y o hy => ?_, fun y o hy => ?_, fun _ _ => rfl⟩ (fun y hy => delS_in hy) ⟨p0, l0, e, ne, hS, b1, b2, (upd_ne ne).trans g1, by rw [upd_same]; show _ = some (HO.lst (List.map V.int (a.c ++ [n]))); rw [List.map_append]; rfl⟩)
  · obtain ⟨k1, k2⟩ := delS_some hy
    rw [upd_ne fun z => k1 ((hS y).mpr (.inr z))]
    exact k2
  · rw [upd_ne (ne_of_none hy b2)]
    exact x1.s y o hy
end
end DL

set_option Elab.async false
set_option linter.all false
set_option maxRecDepth 100000
set_option maxHeartbeats 4000000
/-! a law's own layer, thirty-fourth part: tests that change a slot's thing -/
namespace DL
open PySem PySem.Spec PyProof.Rows L2
/-- a test after which the frame is another -/
def EvTM (G : Cn) (tt : TT) (T : List Ty) (b : Bool) (T' : List Ty) : Prop := ∀ B H σ, Fr G B H σ T → ∀ Q : Bool → Hp → Prop, (∀ B' H', Fr G B' H' σ T' → Q b H') → tt σ H Q
section
variable {G : Cn} {T T' : List Ty} {D : Ends} {te ta tb : TE} {t u : TT} {tz tw tu : TS} {a b : Bool}
theorem et_testM (h : EvM G te T rpBool b T') : EvTM G (tTest te) T b T' := fun B H σ f Q q => h B H σ f _ fun v B1 H1 f1 e1 => ⟨b, e1, q B1 H1 f1⟩
theorem et_orM (h1 : EvTM G t T a T') (h2 : a = false → EvT G u T' b) : EvTM G (tOr t u) T (a || b) T' := fun B H σ f Q q => h1 B H σ f _ fun B1 H1 f1 => by
  cases a with
  | true => exact iteT (q B1 H1 f1)
  | false => exact iteF (h2 rfl B1 H1 σ f1 _ fun B2 H2 x2 => q B2 H2 (f1.ext x2))
theorem EvTM.is {b' : Bool} (h : EvTM G t T b T') (e : b = b') : EvTM G t T b' T' := e ▸ h
theorem g_ifM (h : EvTM G t T b T') (h1 : b = true → Goes G T' (tz D)) (h2 : b = false → Goes G T' (tu D)) : Goes G T (tIfS t tz tu D) := fun B H σ f => h B H σ f _ fun B1 H1 f1 => by
  cases b with
  | true => exact iteT (h1 rfl B1 H1 σ f1)
  | false => exact iteF (h2 rfl B1 H1 σ f1)
theorem q_whenM (h : EvTM G t T b T') (h1 : b = true → Goes G T' (tz { D with nx := tu D })) (h2 : b = false → Goes G T' (tu D)) : Goes G T (tSeq (tIfS t tz tNext) tu D) := g_ifM (D := { D with nx := tu D }) h h1 h2
theorem ev_neBM {x y : Bool} (ha : EvM G ta T rpBool x T') (hb : EvD G tb T' rpBool y) : EvM G (tOp rNe ta tb) T rpBool (!decide (x = y)) T' := fun B H σ f Q q => ha B H σ f _ fun v B1 H1 f1 e1 => hb B1 H1 σ f1 _ fun w B2 H2 x2 e2 => by
  rw [show v = V.bl x from e1, show w = V.bl y from e2]
  refine ⟨rfl, q _ B2 H2 (f1.ext x2) ?_⟩
  show V.bl _ = V.bl _
  congr 2
  by_cases h : x = y
  · rw [h, decide_eq_true rfl, decide_eq_true rfl]
  · rw [decide_eq_false h, decide_eq_false fun z => h (V.bl.inj z)]
end
section
variable {G : Cn} {T : List Ty} {te : TE} {α : Type} [Rp α] {w : Ox α} {j : Nat} {u : V} {y : Option A3} {a' : α}
theorem ev_isNM (h : @EvMO G te T α (Option A3) _ w (@rpOpt A3 rpA3) oxOA3 j u y a') : EvM G (tIsN te) T rpBool y.isNone (T.set j (.ow (owV u w) a')) := fun B H σ f Q q => h B H σ f _ fun v B1 H1 S S2 f1 _ _ _ _ hy => by
  have hv : decide (v = V.non) = y.isNone := by
    cases y with
    | none => exact decide_eq_true hy.1
    | some a =>
      obtain ⟨p, l, e, _⟩ := hy
      rw [e]
      rfl
  rw [hv]
  exact q _ B1 H1 f1 rfl
end
section
variable {G : Cn} {T : List Ty} {ta tb : TE} {β ι : Type} {r' : Rp β} {As : ι → List Ty} {pre : ι → Prop} {f : ι → Except Addr β} {E : XK} {tr : TA} {x : ι}
/-- a call with things read as the heap stands; so is its answer -/
theorem ev_callHH {b : β} (ha : EvAH G tr T (As x)) (hp : pre x) (hf : f x = .ok b) : EvH G (tCall (SpX G.K As pre r' f) [] E tr) T r' b := fun B H σ fr Q q => ha B H σ fr _ fun vs B1 H1 x1 ok => by
  rw [List.append_nil]
  exact ⟨H1, x, Same.refl _, hp, ok, fun b' e v B' H' y z => q v B1 H' (x1.trans ⟨Same.refl _, y.h, x1.s.trans y.h, fun _ _ => rfl⟩) (by rw [hf] at e; cases e; exact r'.mono y.s z), fun C e => by rw [hf] at e; cases e⟩
theorem ev_inPH {i : Int} {p : Int × Int} (ha : EvD G ta T rpInt i) (hb : EvH G tb T (@rpPair Int Int rpInt rpInt) p) : EvD G (tOp (rIn G.K false) ta tb) T rpBool (decide (i ∈ [p.1, p.2])) := fun B H σ f Q q =>
  ha B H σ f _ fun v B1 H1 x1 e1 => hb B1 H1 σ (f.ext x1) _ fun u B2 H2 x2 e2 => by
    obtain ⟨a, y, z, rfl, s, h1, h2⟩ := e2
    have ev : v = .int i := e1
    have ey : y = .int p.1 := h1
    have ez : z = .int p.2 := h2
    subst ev ey ez
    exact ⟨a, [.int p.1, .int p.2], rfl, .inr (.inl (.of s)), rfl, flat_ints [p.1, p.2], q _ B2 H2 (x1.trans x2) (by rw [if_neg (by decide), show [V.int p.1, V.int p.2] = [p.1, p.2].map V.int from rfl, inV_int]; rfl)⟩
end
end DL

set_option Elab.async false
set_option linter.all false
set_option maxRecDepth 100000
set_option maxHeartbeats 4000000
/-! a law's own layer, thirty-fifth part: dicts that are walked (locked), results told by what holds of them, tuples of owned things -/
namespace DL
open PySem PySem.Spec PyProof.Rows L2
/-! ### owned things put together -/
@[reducible] def oxIm {α : Type} (r : Rp α) : @Ox α r where
  ox K B H a v S := (∀ q, ¬ S q) ∧ r.rp K B a v
  fr := fun h sb _ => ⟨h.1, r.mono sb h.2⟩
  nb := fun h q hq => absurd hq (h.1 q)
  rd := fun h H' sb _ => r.mono sb h.2
@[reducible] def oxTup {α β : Type} [ra : Rp α] [rb : Rp β] (w1 : Ox α) (w2 : Ox β) : @Ox (α × β) rpPair where
  ox K B H a v S := ∃ (p : Addr) (x y : V) (S1 S2 : Addr → Prop), v = .ref p ∧ (∀ q, S q ↔ (q = p ∨ S1 q ∨ S2 q)) ∧ ¬ S1 p ∧ ¬ S2 p ∧ (∀ q, S1 q → ¬ S2 q) ∧ B p = none ∧ H p = some (.tup [x, y]) ∧ w1.ox K B H a.1 x S1 ∧ w2.ox K B H a.2 y S2
  fr := by
    rintro K B H B' H' a v S ⟨p, x, y, S1, S2, e, hS, n1, n2, dj, hb, hH, o1, o2⟩ sb k
    obtain ⟨k1, k2⟩ := k p ((hS p).mpr (.inl rfl))
    exact ⟨p, x, y, S1, S2, e, hS, n1, n2, dj, k2, k1.trans hH, w1.fr o1 sb fun q hq => k q ((hS q).mpr (.inr (.inl hq))), w2.fr o2 sb fun q hq => k q ((hS q).mpr (.inr (.inr hq)))⟩
  nb := by
    rintro K B H a v S ⟨p, x, y, S1, S2, e, hS, n1, n2, dj, hb, hH, o1, o2⟩ q hq
    rcases (hS q).mp hq with rfl | h | h
    · exact ⟨hb, by rw [hH]; intro z; cases z⟩
    · exact w1.nb o1 q h
    · exact w2.nb o2 q h
  rd := by
    rintro K B H a v S ⟨p, x, y, S1, S2, e, hS, n1, n2, dj, hb, hH, o1, o2⟩ H' sb k
    exact ⟨p, x, y, e, (k p ((hS p).mpr (.inl rfl))).trans hH, w1.rd o1 H' sb fun q hq => k q ((hS q).mpr (.inr (.inl hq))), w2.rd o2 H' sb fun q hq => k q ((hS q).mpr (.inr (.inr hq)))⟩
/-- a dict that a loop walks -/
structure DFz (β : Type) where
  kv : List (Int × β)
instance rpDFz {β : Type} : Rp (DFz β) := ⟨fun _ _ _ _ => True, fun _ _ => trivial⟩
@[reducible] def oxDF {β : Type} [Rp β] (od : Obj) (kvs : List (Key × V)) : Ox (DFz β) where
  ox K B H x v S := ∃ (p : Addr), v = .ref p ∧ (∀ q, S q ↔ q = p) ∧ B p = none ∧ H p = some (.frz od (.dK kvs)) ∧ Paired (rpPr K B) x.kv kvs
  fr := by
    rintro K B H B' H' a v S ⟨p, e, hS, b, h, r⟩ sb k
    obtain ⟨k1, k2⟩ := k p ((hS p).mpr rfl)
    exact ⟨p, e, hS, k2, k1.trans h, Paired.mapP r fun _ _ z => ⟨z.1, Rp.mono sb z.2⟩⟩
  nb := by
    rintro K B H a v S ⟨p, e, hS, b, h, r⟩ q hq
    rw [(hS q).mp hq]
    exact ⟨b, by rw [h]; intro z; cases z⟩
  rd := fun _ _ _ _ => trivial
section
variable {G : Cn} {T : List Ty} {D : Ends} {te ta tb tc td : TE} {tu tz : TS} {α β γ δ : Type} {r : Rp α} {rv : Rp β} {u : V} {j : Nat} {xs : List α}
theorem Fr.lockD {B H : Hp} {σ : L2.St} {a : DI β} (f : Fr G B H σ T) (hj : T[j]? = some (.ow (owV u (@oxDI β rv)) a)) : ∃ p kvs, u = .ref p ∧ σ[j]? = some (some u) ∧ H p = some (.dK kvs) ∧ B p = none ∧ ∀ od, Fr G B (upd H p (.frz od (.dK kvs))) σ (T.set j (.ow (owV u (@oxDF β rv od kvs)) ⟨a.kv⟩)) := by
  obtain ⟨S, e1, ⟨p, kvs, e, hS, b, h, rr⟩, _, k⟩ := f.mutO hj
  refine ⟨p, kvs, e, e1, h, b, fun od => k (DFz β) rpDFz (@oxDF β rv od kvs) ⟨a.kv⟩ B _ S ⟨Same.refl _, fun q o hq => ?_, fun q o hq => ?_, fun _ _ => rfl⟩ (fun q hq => delS_in hq) ⟨p, e, hS, b, upd_same, rr⟩⟩
  · obtain ⟨k1, k2⟩ := delS_some hq
    rw [upd_ne fun z => k1 ((hS q).mpr z)]
    exact k2
  · rw [upd_ne (ne_of_none hq b)]
    exact f.bh q o hq
theorem Fr.unlockD {B H : Hp} {σ : L2.St} {p : Addr} {od : Obj} {kvs : List (Key × V)} {a : DFz β} (f : Fr G B H σ T) (hj : T[j]? = some (.ow (owV (.ref p) (@oxDF β rv od kvs)) a)) : H p = some (.frz od (.dK kvs)) ∧ Fr G B (upd H p (.dK kvs)) σ (T.set j (.ow (owV (.ref p) (@oxDI β rv)) ⟨a.kv⟩)) := by
  obtain ⟨S, e1, ⟨p', e, hS, b, h, rr⟩, _, k⟩ := f.mutO hj
  cases e
  refine ⟨h, k (DI β) rpDI (@oxDI β rv) ⟨a.kv⟩ B _ S ⟨Same.refl _, fun q o hq => ?_, fun q o hq => ?_, fun _ _ => rfl⟩ (fun q hq => delS_in hq) ⟨p, kvs, rfl, hS, b, upd_same, rr⟩⟩
  · obtain ⟨k1, k2⟩ := delS_some hq
    rw [upd_ne fun z => k1 ((hS q).mpr z)]
    exact k2
  · rw [upd_ne (ne_of_none hq b)]
    exact f.bh q o hq
/-- an expression that walks a dict of the frame's own -/
theorem ev_lockN {a : DI β} (hj : T[j]? = some (.ow (owV u (@oxDI β rv)) a)) (h : ∀ od kvs, EvN G te (T.set j (.ow (owV u (@oxDF β rv od kvs)) ⟨a.kv⟩)) r xs) : EvN G (tLockE te) T r xs := fun B H σ f Q q => by
  obtain ⟨p, kvs, e0, e1, hp, hb, k⟩ := f.lockD hj
  refine ⟨p, .dK kvs, hp, trivial, fun od => h od kvs B _ σ (k od) _ fun l vs B' H' x n1 n2 e z => ?_⟩
  have e2 := x.h p _ upd_same
  have hlp : l ≠ p := fun z => by rw [z, upd_same] at n1; cases n1
  have hb' : B' p = none := (x.n p (by rw [upd_same]; intro z; cases z)).trans hb
  refine ⟨e2, q l vs B' (upd H' p (.dK kvs)) ⟨x.b, fun b o hh => ?_, fun b o hh => ?_, fun b hh => ?_⟩ (by rwa [upd_ne hlp] at n1) n2 (by rw [upd_ne hlp]; exact e) z⟩
  · by_cases hbp : b = p
    · subst hbp; rw [upd_same]; exact hp.symm.trans hh
    · rw [upd_ne hbp]; exact x.h b o (by rw [upd_ne hbp]; exact hh)
  · rw [upd_ne (ne_of_none hh hb')]; exact x.s b o hh
  · refine x.n b ?_
    by_cases hbp : b = p
    · subst hbp; rw [upd_same]; intro z; cases z
    · rw [upd_ne hbp]; exact hh
/-- a statement that walks a dict of the frame's own -/
theorem g_lock {a : DI β} (hj : T[j]? = some (.ow (owV u (@oxDI β rv)) a)) (h : ∀ od kvs (D' : Ends), (∀ T2 (a' : DFz β), T2[j]? = some (.ow (owV u (@oxDF β rv od kvs)) a') → Goes G (T2.set j (.ow (owV u (@oxDI β rv)) ⟨a'.kv⟩)) D.nx → Goes G T2 D'.nx) → Goes G (T.set j (.ow (owV u (@oxDF β rv od kvs)) ⟨a.kv⟩)) (tz D')) : Goes G T (tLock tz D) := fun B H σ f => by
  obtain ⟨p, kvs, e0, e1, hp, hb, k⟩ := f.lockD hj
  refine ⟨p, .dK kvs, hp, trivial, fun od => h od kvs _ (fun T2 a' h2 g2 => fun B2 H2 σ2 f2 => ?_) B _ σ (k od)⟩
  subst e0
  obtain ⟨h3, f3⟩ := f2.unlockD h2
  exact ⟨h3, g2 B2 _ σ2 f3⟩
theorem q_lock {a : DI β} (hj : T[j]? = some (.ow (owV u (@oxDI β rv)) a)) (h : ∀ od kvs (D' : Ends), (∀ T2 (a' : DFz β), T2[j]? = some (.ow (owV u (@oxDF β rv od kvs)) a') → Goes G (T2.set j (.ow (owV u (@oxDI β rv)) ⟨a'.kv⟩)) (tu D) → Goes G T2 D'.nx) → Goes G (T.set j (.ow (owV u (@oxDF β rv od kvs)) ⟨a.kv⟩)) (tz D')) : Goes G T (tSeq (tLock tz) tu D) := g_lock (D := { D with nx := tu D }) hj h
/-- an expression that walks a dict that is read alone; a number beside it -/
theorem ev_lockI {i0 : Nat} {a : DI Int} {k : Int} (hj : T[j]? = some (.im (@rpDI Int rpInt) a)) (hi : T[i0]? = some (.im rpInt k)) (hij : i0 ≠ j) (h : ∀ B0 H0 u od kvs, EvN ⟨G.K, B0, H0⟩ te (((List.replicate T.length Ty.any).set j (.ow (owV u (@oxDF Int rpInt od kvs)) ⟨a.kv⟩)).set i0 (.im rpInt k)) r xs) : EvN G (tLockE te) T r xs := fun B H σ f Q q => by
  obtain ⟨v, e1, p, kvs, rfl, hp, pr⟩ := f.get hj
  obtain ⟨w, e2, hw⟩ := f.get hi
  have hw : w = .int k := hw
  subst hw
  have hH := f.bh _ _ hp
  let S : Addr → Prop := fun q => q = p
  have hne : ∀ {q o}, delS B S q = some o → q ≠ p ∧ B q = some o := fun hq => let ⟨a, b⟩ := delS_some hq; ⟨a, b⟩
  have hneH : ∀ {q o}, delS H S q = some o → q ≠ p ∧ H q = some o := fun hq => let ⟨a, b⟩ := delS_some hq; ⟨a, b⟩
  have fr : ∀ od, Fr ⟨G.K, delS B S, delS H S⟩ (delS B S) (upd H p (.frz od (.dK kvs))) σ (((List.replicate T.length Ty.any).set j (.ow (owV (.ref p) (@oxDF Int rpInt od kvs)) ⟨a.kv⟩)).set i0 (.im rpInt k)) := fun od => by
    classical
    refine ⟨fun q o hq => ?_, Same.refl _, fun q o hq => ?_, fun _ _ => rfl, by rw [List.length_set, List.length_set, List.length_replicate]; exact f.len, fun q => if q = p then some j else none, fun q i e => ?_, fun i t e => ?_⟩
    · obtain ⟨a1, a2⟩ := hne hq
      rw [upd_ne a1]
      exact f.bh _ _ a2
    · obtain ⟨a1, a2⟩ := hneH hq
      rw [upd_ne a1]
      exact a2
    · dsimp only at e
      split at e
      · rename_i hq; exact delS_in hq
      · cases e
    · by_cases h1 : i0 = i
      · subst h1
        have hl : i0 < ((List.replicate T.length Ty.any).set j (.ow (owV (.ref p) (@oxDF Int rpInt od kvs)) ⟨a.kv⟩)).length := by
          have := (List.getElem?_eq_some_iff.mp e).1
          rwa [List.length_set] at this
        rw [List.getElem?_set_self hl] at e
        cases e
        exact ⟨_, e2, _, rfl, rfl⟩
      · rw [List.getElem?_set_ne h1] at e
        by_cases h2 : j = i
        · subst h2
          have hl : j < (List.replicate T.length Ty.any).length := by
            have := (List.getElem?_eq_some_iff.mp e).1
            rwa [List.length_set] at this
          rw [List.getElem?_set_self hl] at e
          cases e
          exact ⟨_, e1, _, rfl, rfl, S, fun q hq => if_pos hq, p, rfl, fun _ => Iff.rfl, delS_in rfl, upd_same, Paired.mapP pr fun _ _ z => z⟩
        · rw [List.getElem?_set_ne h2] at e
          have hl := (List.getElem?_eq_some_iff.mp e).1
          rw [List.length_replicate, ← f.len] at hl
          have ht := List.eq_of_mem_replicate (List.mem_of_getElem? e)
          subst ht
          exact ⟨_, List.getElem?_eq_getElem hl, trivial⟩
  refine ⟨p, .dK kvs, hH, trivial, fun od => h _ _ (.ref p) od kvs _ _ σ (fr od) _ fun l vs B' H' x n1 n2 e z => ?_⟩
  have hlp : l ≠ p := fun z => by rw [z, upd_same] at n1; cases n1
  have hb' : B' p = none := (x.n p (by rw [upd_same]; intro z; cases z)).trans (delS_in rfl)
  have sB : Same B' (upd B' p (.dK kvs)) := fun b o e => by rw [upd_ne (ne_of_none e hb')]; exact e
  refine ⟨x.h p _ upd_same, q l vs (upd B' p (.dK kvs)) (upd H' p (.dK kvs)) ⟨fun b o hh => ?_, fun b o hh => ?_, fun b o hh => ?_, fun b hh => ?_⟩ (by rwa [upd_ne hlp] at n1) (by rw [upd_ne hlp]; exact n2) (by rw [upd_ne hlp]; exact e) (paired_mono sB z)⟩
  · by_cases hbp : b = p
    · subst hbp; rw [upd_same]; exact hp.symm.trans hh
    · rw [upd_ne hbp]; exact x.b b o (by rw [delS_ne (S := S) hbp]; exact hh)
  · by_cases hbp : b = p
    · subst hbp; rw [upd_same]; exact hH.symm.trans hh
    · rw [upd_ne hbp]; exact x.h b o (by rw [upd_ne hbp]; exact hh)
  · by_cases hbp : b = p
    · subst hbp; rw [upd_same] at hh ⊢; exact hh
    · rw [upd_ne hbp] at hh ⊢; exact x.s b o hh
  · by_cases hbp : b = p
    · subst hbp; rw [upd_same]; exact hp.symm
    · rw [upd_ne hbp, x.n b (by rw [upd_ne hbp]; exact hh)]
      exact delS_ne (S := S) hbp
/-! ### what is walked stands in the frame -/
structure ItF (K : PySem.W.Frag) (Kp : List Ty → Prop) {α : Type} (r : Rp α) (J : It) (xs : List α) : Prop where
  go : ∀ (G : Cn) B H σ T i x, G.K = K → Kp T → Fr G B H σ T → xs[i]? = some x → J.go i H
  stop : ∀ (G : Cn) B H σ T, G.K = K → Kp T → Fr G B H σ T → J.stop xs.length H
  yld : ∀ (G : Cn) B H σ T i x v H', G.K = K → Kp T → Fr G B H σ T → xs[i]? = some x → J.yld i H v H' → ∃ B', Ext B H B' H' ∧ r.rp K B' x v
def EvJ (G : Cn) (wi : TI) (T : List Ty) (Kp : List Ty → Prop) {α : Type} (r : Rp α) (xs : List α) : Prop := ∀ B H σ, Fr G B H σ T → ∀ R : It → Hp → Prop, (∀ J, ItF G.K Kp r J xs → R J H) → wi σ H R
/-- slot j holds the walked dict -/
def KpD {β : Type} (rv : Rp β) (j : Nat) (u : V) (od : Obj) (kvs : List (Key × V)) (a : DFz β) : List Ty → Prop := fun T => T[j]? = some (.ow (owV u (@oxDF β rv od kvs)) a)
theorem kpD_get {od : Obj} {kvs : List (Key × V)} {a : DFz β} {B H : Hp} {σ : L2.St} {p : Addr} (f : Fr G B H σ T) (h : KpD rv j (.ref p) od kvs a T) : H p = some (.frz od (.dK kvs)) ∧ Paired (rpPr G.K B) a.kv kvs := by
  obtain ⟨S, e1, p', e, hS, b, hh, rr⟩ := f.getO h
  cases e
  exact ⟨hh, rr⟩
theorem ej_keys {od : Obj} {kvs : List (Key × V)} {a : DFz β} (hj : T[j]? = some (.ow (owV u (@oxDF β rv od kvs)) a)) : EvJ G (iKeys (tVar j)) T (KpD rv j u od kvs a) rpInt (a.kv.map fun p => p.1) := fun B H σ f R q => by
  obtain ⟨S, e1, p, rfl, hS, b, hh, rr⟩ := f.getO hj
  have hl := Paired.length rr
  refine ⟨_, e1, p, od, rfl, .inl ⟨kvs, hh, q _ ⟨fun G' B H σ T i x eK hk f e => ?_, fun G' B H σ T eK hk f => ?_, fun G' B H σ T i x v H' eK hk f e y => ?_⟩⟩⟩
  · have := (List.getElem?_eq_some_iff.mp e).1
    rw [List.length_map] at this
    exact ⟨(kpD_get f hk).1, by omega⟩
  · exact ⟨(kpD_get f hk).1, by rw [List.length_map]; omega⟩
  · obtain ⟨rfl, k, w, hk2, rfl⟩ := y
    obtain ⟨_, rr⟩ := kpD_get f hk
    obtain ⟨x', h1, h2⟩ := paired_get' rr hk2
    rw [List.getElem?_map, h1] at e
    cases e
    exact ⟨B, Ext.refl f.bh, by rw [show k = Sum.inl x'.1 from h2.1]; rfl⟩
theorem ej_vals {od : Obj} {kvs : List (Key × V)} {a : DFz β} (hj : T[j]? = some (.ow (owV u (@oxDF β rv od kvs)) a)) : EvJ G (iVals (tVar j)) T (KpD rv j u od kvs a) rv (a.kv.map fun p => p.2) := fun B H σ f R q => by
  obtain ⟨S, e1, p, rfl, hS, b, hh, rr⟩ := f.getO hj
  have hl := Paired.length rr
  refine ⟨_, e1, p, od, kvs, rfl, hh, q _ ⟨fun G' B H σ T i x eK hk f e => ?_, fun G' B H σ T eK hk f => ?_, fun G' B H σ T i x v H' eK hk f e y => ?_⟩⟩
  · have := (List.getElem?_eq_some_iff.mp e).1
    rw [List.length_map] at this
    exact ⟨(kpD_get f hk).1, by omega⟩
  · exact ⟨(kpD_get f hk).1, by rw [List.length_map]; omega⟩
  · obtain ⟨rfl, k, hk2⟩ := y
    obtain ⟨_, rr⟩ := kpD_get f hk
    obtain ⟨x', h1, h2⟩ := paired_get' rr hk2
    rw [List.getElem?_map, h1] at e
    cases e
    exact ⟨B, Ext.refl f.bh, by rw [← eK]; exact h2.2⟩
theorem ej_items {od : Obj} {kvs : List (Key × V)} {a : DFz β} (hj : T[j]? = some (.ow (owV u (@oxDF β rv od kvs)) a)) : EvJ G (iItems (tVar j)) T (KpD rv j u od kvs a) (@rpPair Int β rpInt rv) a.kv := fun B H σ f R q => by
  obtain ⟨S, e1, p, rfl, hS, b, hh, rr⟩ := f.getO hj
  have hl := Paired.length rr
  refine ⟨_, e1, p, od, kvs, rfl, hh, q _ ⟨fun G' B H σ T i x eK hk f e => ?_, fun G' B H σ T eK hk f => ?_, fun G' B H σ T i x v H' eK hk f e y => ?_⟩⟩
  · have := (List.getElem?_eq_some_iff.mp e).1
    exact ⟨(kpD_get f hk).1, by omega⟩
  · exact ⟨(kpD_get f hk).1, by omega⟩
  · obtain ⟨t, k, w, hk2, rfl, hn, rfl⟩ := y
    obtain ⟨_, rr⟩ := kpD_get f hk
    obtain ⟨x', h1, h2⟩ := paired_get' rr hk2
    rw [h1] at e
    cases e
    have x3 := upd_ext (o := .tup [kV k, w]) f.bh hn
    exact ⟨_, x3, t, _, w, rfl, upd_same, by rw [show k = Sum.inl x.1 from h2.1]; rfl, by rw [← eK]; exact rv.mono x3.b h2.2⟩
/-- [e for .. in d .. if ..] -/
theorem ev_lcF [r2 : Rp δ] {wi : TI} {g : TG} {tt : TT} {vs : List Nat} {Kp : List Ty → Prop} (p : α → Bool) (f : α → δ) (hi : EvJ G wi T Kp r xs) (hK : Kp T) (ho : Own g vs)
    (hs : ∀ x, x ∈ xs → ∃ T2, EvG G g (wipeT T vs) r x T2 ∧ EvT G tt T2 (p x) ∧ (p x = true → EvD G te T2 r2 (f x))) (hz : xs.length ≤ 90000) : EvN G (tLc wi g tt te vs) T r2 ((xs.filter p).map f) := fun B H σ fr Q q => hi B H σ fr _ fun J ok => by
  refine fun Dl nD => ?_
  have nB : B Dl = none := fr.bh.free nD
  have x1' : Ext B H B (upd H Dl (.lst [])) := upd_extN fr.bh nD
  refine ⟨fun i m H' => m = xs.length - i ∧ i ≤ xs.length ∧ ∃ B' ws, Ext B H B' H' ∧ B' Dl = none ∧ H' Dl = some (.lst ws) ∧ Paired (r2.rp G.K B') (((xs.take i).filter p).map f) ws,
    ⟨xs.length, rfl, Nat.zero_le _, B, [], x1', nB, upd_same, by rw [List.take_zero]; exact .nil⟩, ?_⟩
  rintro i m H' ⟨rfl, hle, B', ws, x', nB', hDl, pw⟩
  by_cases hlt : i < xs.length
  · have ex : xs[i]? = some xs[i] := List.getElem?_eq_getElem hlt
    obtain ⟨T2, hg, ht, he⟩ := hs xs[i] (List.getElem_mem hlt)
    have etk : xs.take (i + 1) = xs.take i ++ [xs[i]] := by rw [List.take_add_one, ex] <;> rfl
    refine .inr ⟨ok.go G B' H' σ T i _ rfl hK (fr.ext x') ex, fun H3 => ∃ B3 ws3, Ext B H B3 H3 ∧ B3 Dl = none ∧ H3 Dl = some (.lst ws3) ∧ Paired (r2.rp G.K B3) (((xs.take (i + 1)).filter p).map f) ws3, fun H3 h3 => ⟨xs.length - (i + 1), by omega, rfl, hlt, h3⟩, fun v H2 y => ?_⟩
    obtain ⟨B2, x2, rv⟩ := ok.yld G B' H' σ T i _ v H2 rfl hK (fr.ext x') ex y
    have fr2 : Fr G B2 H2 (L2.wipe σ vs) (wipeT T vs) := ((fr.ext x').ext x2).wipe vs
    refine ho v _ H2 (fun σ2 H4 => H4 = H2 ∧ Fr G B2 H2 σ2 T2) _ (fun σ2 hw hq => ?_) (hg B2 H2 _ v fr2 rv _ fun σ2 f2 => ⟨rfl, f2⟩)
    obtain ⟨_, f2⟩ := hq
    refine ⟨by rw [hw, wipe_wipe], ht B2 H2 σ2 f2 _ fun B5 H5 x5 => ?_⟩
    have hD5 : H5 Dl = some (.lst ws) := x5.h _ _ (x2.h _ _ hDl)
    have x25 := x2.trans x5
    have nB5 : B5 Dl = none := x25.none hDl nB'
    cases hp : p xs[i] with
    | true =>
      refine iteT (he hp B5 H5 σ2 (f2.ext x5) _ fun w B6 H6 x6 rw6 => ?_)
      have x26 := x25.trans x6
      have nB6 : B6 Dl = none := x26.none hDl nB'
      have hl : ws.length < 100000 := by
        rw [← Paired.length pw, List.length_map]
        have h1 := List.length_filter_le p (xs.take i)
        have h2 := List.length_take_le i xs
        omega
      refine ⟨ws, x6.h _ _ hD5, sz_lt hl, B6, ws ++ [w], ⟨(x'.trans x26).b, fun b o e => ?_, fun b o e => ?_, (x'.trans x26).n⟩, nB6, upd_same, ?_⟩
      · rw [upd_ne (ne_of_none e nD)]; exact (x'.trans x26).h b o e
      · rw [upd_ne (ne_of_none e nB6)]; exact x26.s b o e
      · rw [etk, List.filter_append, List.map_append]
        refine paired_append (paired_mono x26.b pw) ?_
        rw [show [xs[i]].filter p = [xs[i]] by rw [List.filter_cons, if_pos hp] <;> rfl]
        exact .cons rw6 .nil
    | false =>
      refine iteF ⟨B5, ws, x'.trans x25, nB5, hD5, ?_⟩
      rw [etk, List.filter_append, List.map_append, show [xs[i]].filter p = [] by rw [List.filter_cons, if_neg (by rw [hp]; decide)] <;> rfl]
      show Paired _ (_ ++ []) _
      rw [List.append_nil]
      exact paired_mono x25.b pw
  · have e : i = xs.length := by omega
    subst e
    rw [List.take_length] at pw
    exact .inl ⟨ok.stop G B' H' σ T rfl hK (fr.ext x'), q Dl ws B' H' x' nD nB' hDl pw⟩
theorem ev_lcFA [r2 : Rp δ] {wi : TI} {g : TG} {vs : List Nat} {Kp : List Ty → Prop} (f : α → δ) (hi : EvJ G wi T Kp r xs) (hK : Kp T) (ho : Own g vs)
    (hs : ∀ x, x ∈ xs → ∃ T2, EvG G g (wipeT T vs) r x T2 ∧ EvD G te T2 r2 (f x)) (hz : xs.length ≤ 90000) : EvN G (tLc wi g tYes te vs) T r2 (xs.map f) := by
  have h := ev_lcF (G := G) (T := T) (te := te) (fun _ => true) f hi hK ho (fun x hx => let ⟨T2, a, b⟩ := hs x hx; ⟨T2, a, et_yes, fun _ => b⟩) hz
  have e : xs.filter (fun _ => true) = xs := List.filter_eq_self.mpr fun _ _ => rfl
  rw [e] at h
  exact h
theorem g_forF {wi : TI} {g : TG} {Kp : List Ty → Prop} (I : Nat → List Ty → Prop) (hi : EvJ G wi T Kp r xs) (hk : ∀ i T', I i T' → Kp T') (h0 : I 0 T)
    (hs : ∀ i x T', xs[i]? = some x → I i T' → ∃ T2, EvG G g T' r x T2 ∧ Goes G T2 (tz { D with nx := At G (I (i + 1)), ct := At G (I (i + 1)), bk := D.nx }))
    (hd : ∀ T', I xs.length T' → Goes G T' D.nx) : Goes G T (tFor wi g tz D) := fun B H σ f => hi B H σ f _ fun J ok => by
  refine ⟨fun i m σ H => m = xs.length - i ∧ i ≤ xs.length ∧ ∃ T' B, I i T' ∧ Fr G B H σ T', ⟨xs.length, rfl, Nat.zero_le _, T, B, h0, f⟩, ?_⟩
  rintro i m σ' H' ⟨rfl, hle, T', B', hI, f'⟩
  by_cases hlt : i < xs.length
  · have ex : xs[i]? = some xs[i] := List.getElem?_eq_getElem hlt
    obtain ⟨T2, hg, hb⟩ := hs i _ T' ex hI
    refine .inr ⟨ok.go G B' H' σ' T' i _ rfl (hk i T' hI) f' ex, At G (I (i + 1)), fun σ2 H2 ⟨T3, B3, h3, f3⟩ => ⟨xs.length - (i + 1), by omega, rfl, hlt, T3, B3, h3, f3⟩, fun v H2 y => ?_⟩
    obtain ⟨B2, x2, rv⟩ := ok.yld G B' H' σ' T' i _ v H2 rfl (hk i T' hI) f' ex y
    exact hg B2 H2 σ' v (f'.ext x2) rv _ fun σ3 f3 => hb B2 H2 σ3 f3
  · have e : i = xs.length := by omega
    subst e
    exact .inl ⟨ok.stop G B' H' σ' T' rfl (hk _ T' hI) f', hd T' hI B' H' σ' f'⟩
end
end DL

set_option Elab.async false
set_option linter.all false
set_option maxRecDepth 100000
set_option maxHeartbeats 4000000
/-! a law's own layer, thirty-sixth part: defs whose answer is told by what holds of it; things lent to a call -/
namespace DL
open PySem PySem.Spec PyProof.Rows L2
/-- what does not rest on a dict -/
class NdR {α : Type} (r : Rp α) : Prop where
  nd : ∀ {K : PySem.W.Frag} {B : Hp} {a : α} {v : V} {S : Addr → Prop}, (∀ q, S q → ∃ kvs, B q = some (.dK kvs)) → r.rp K B a v → r.rp K (delS B S) a v
theorem nd_ne {B : Hp} {S : Addr → Prop} {q : Addr} {o : HO} (h : ∀ q, S q → ∃ kvs, B q = some (.dK kvs)) (e : B q = some o) (n : ∀ kvs, o ≠ .dK kvs) : delS B S q = some o := by
  rw [delS_ne fun z => ?_]
  · exact e
  · obtain ⟨kvs, e2⟩ := h q z
    rw [e] at e2
    exact n kvs (Option.some.inj e2)
instance : NdR rpInt := ⟨fun _ z => z⟩
instance : NdR rpBool := ⟨fun _ z => z⟩
instance : NdR rpStr := ⟨fun _ z => z⟩
instance : NdR rpUnit := ⟨fun _ z => z⟩
theorem nd_paired {α : Type} {r : Rp α} [NdR r] {K : PySem.W.Frag} {B : Hp} {S : Addr → Prop} {xs : List α} {vs : List V} (h : ∀ q, S q → ∃ kvs, B q = some (.dK kvs)) (z : Paired (r.rp K B) xs vs) : Paired (r.rp K (delS B S)) xs vs := Paired.mapP z fun _ _ y => NdR.nd h y
instance ndList {α : Type} {r : Rp α} [NdR r] : NdR (@rpList α r) := ⟨fun h ⟨p, vs, e, hp, z⟩ => ⟨p, vs, e, nd_ne h hp (fun _ w => by cases w), nd_paired h z⟩⟩
instance ndPair {α β : Type} {r : Rp α} {r' : Rp β} [NdR r] [NdR r'] : NdR (@rpPair α β r r') := ⟨fun h ⟨p, x, y, e, hp, z1, z2⟩ => ⟨p, x, y, e, nd_ne h hp (fun _ w => by cases w), NdR.nd h z1, NdR.nd h z2⟩⟩
instance ndOpt {α : Type} {r : Rp α} [NdR r] : NdR (@rpOpt α r) := ⟨fun {K B a v S} h z => by
  cases a with
  | none => exact z
  | some a => exact NdR.nd (r := r) h z⟩
class NdO {α : Type} [Rp α] (w : Ox α) : Prop where
  nd : ∀ {K : PySem.W.Frag} {B H : Hp} {a : α} {v : V} {S S0 : Addr → Prop}, (∀ q, S0 q → ∃ kvs, B q = some (.dK kvs)) → w.ox K B H a v S → w.ox K (delS B S0) H a v S
theorem del_none {B : Hp} {S : Addr → Prop} {p : Addr} (h : B p = none) : delS B S p = none := by
  by_cases hp : S p
  · exact delS_in hp
  · rw [delS_ne hp]; exact h
instance ndIm {α : Type} {r : Rp α} [NdR r] : NdO (oxIm r) := ⟨fun h z => ⟨z.1, NdR.nd h z.2⟩⟩
instance ndDI {β : Type} {rv : Rp β} [NdR rv] : NdO (@oxDI β rv) := ⟨fun h ⟨p, kvs, e, hS, b, hh, z⟩ => ⟨p, kvs, e, hS, del_none b, hh, Paired.mapP z fun _ _ y => ⟨y.1, NdR.nd h y.2⟩⟩⟩
instance ndTup {α β : Type} [ra : Rp α] [rb : Rp β] {w1 : Ox α} {w2 : Ox β} [NdO w1] [NdO w2] : NdO (oxTup w1 w2) := ⟨fun h ⟨p, x, y, S1, S2, e, hS, n1, n2, dj, hb, hH, o1, o2⟩ => ⟨p, x, y, S1, S2, e, hS, n1, n2, dj, del_none hb, hH, NdO.nd h o1, NdO.nd h o2⟩⟩
/-- a def whose answer is new, told by what holds of it -/
def SpJ (K : PySem.W.Frag) {ι α : Type} [Rp α] (As : ι → List Ty) (pre : ι → Prop) (w : Ox α) (Post : ι → α → Prop) : Sp := fun vs H Q E => ∃ (B : Hp) (x : ι), Same B H ∧ pre x ∧ ArgsOk K B vs (As x) ∧
  ∀ a, Post x a → ∀ u B' H' S, Ext B H B' H' → (∀ q, S q → H q = none) → w.ox K B' H' a u S → Q u H'
def EvOJ (G : Cn) (te : TE) (T : List Ty) {α : Type} [Rp α] (w : Ox α) (Post : α → Prop) : Prop := ∀ B H σ, Fr G B H σ T → ∀ Q : VK, (∀ a u B' H' S, Post a → Ext B H B' H' → (∀ q, S q → H q = none) → w.ox G.K B' H' a u S → Q u H') → te σ H Q
section
variable {G : Cn} {T : List Ty} {D : Ends} {te ta tb tc td : TE} {tu tz : TS} {α β γ δ : Type}
section
variable {ι : Type} {As : ι → List Ty} {pre : ι → Prop} [ra : Rp α] {w : Ox α} {Post : ι → α → Prop} {E : XK} {tr : TA} {x : ι}
theorem ev_callJ (ha : EvA G tr T (As x)) (hp : pre x) : EvOJ G (tCall (SpJ G.K As pre w Post) [] E tr) T w (Post x) := fun B H σ fr Q q => ha B H σ fr _ fun vs B1 H1 x1 ok => by
  rw [List.append_nil]
  exact ⟨B1, x, x1.s, hp, ok, fun b pb u B' H' S y hS ho => q b u B' H' S pb (x1.trans y) (fun p hp => x1.h.free (hS p hp)) ho⟩
variable {P : Program} {wd : World} {K : PySem.W.Frag} {mg : Str → Option Value} {base : Heap} {nm qual : Str} {st : Stmt} {fa : Addr} {fd : FuncData} {N ps : List Str} {k : Nat}
theorem def_okJ (F : Fun K nm qual st fa fd) (S : FnScope N ps (defScope st)) (len : ∀ x, (As x).length = ps.length)
    (hbody : ∀ (cdv : Value) (A : Around) (outer : List Env) (s : Shared) (H : Hp) (E : XK), Room k (A.deeper (envOfC qual (defScope st) s.heap.objs.size fa cdv)) →
      ∃ t, PSs (cxOf (L2.CX P wd) P wd K mg base N qual (defScope st) fa cdv A outer s H E) (defBody st) t ∧ ∀ (B : Hp) (x : ι) (Q : VK), pre x → (∀ b, Post x b → RetO ⟨K, B, H⟩ Q w b) →
        Goes ⟨K, B, H⟩ (As x ++ List.replicate (N.length - (As x).length) .un) (t { nx := fun _ H' => Q .non H', rt := Q })) :
    FnOk P wd K mg base (L2.CX P wd) (k + 1) fa fd ps (SpJ K As pre w Post) := by
  refine F.okX S (fun vs H Q E h => ?_) (fun cdv A outer s H vs Q E hr h => ?_)
  · obtain ⟨B, x, _, _, ok, _⟩ := h
    exact (args_len ok).trans (len x)
  · obtain ⟨B, x, sB, hp, ok, h1⟩ := h
    obtain ⟨t, ht, hg⟩ := hbody cdv A outer s H E hr
    exact ⟨t, ht, hg B x Q hp (fun b pb u B' H' S y hS ho => h1 b pb u B' H' S y hS ho) B H _ (Fr.entry sB ok)⟩
/-! a dict of the frame's own lent to a call -/
variable {rv : Rp β} {a0 : DI β} {u0 : V} {j : Nat}
def EvAL (G : Cn) {β : Type} (rv : Rp β) (a : DI β) (u : V) (ta : TA) (T : List Ty) (As : List Ty) : Prop := ∀ B H σ, Fr G B H σ T → ∀ Q : List V → Hp → Prop, (∀ vs B' H', Ext B H B' H' → (∀ S, (@oxDI β rv).ox G.K B' H' a u S → ArgsOk G.K (glue S H' B') vs As) → Q vs H') → ta σ H Q
theorem eal_nil : EvAL G rv a0 u0 tNil T [] := fun B H σ f Q q => q [] B H (Ext.refl f.bh) fun _ _ => trivial
theorem eal_im {r : Rp α} {y : α} {As : List Ty} (h : EvD G te T r y) (hr : EvAL G rv a0 u0 tr T As) : EvAL G rv a0 u0 (tCons te tr) T (.im r y :: As) := fun B H σ f Q q =>
  h B H σ f _ fun v B1 H1 x1 e1 => hr B1 H1 σ (f.ext x1) _ fun vs B2 H2 x2 e2 => q _ B2 H2 (x1.trans x2) fun S ho => ⟨r.mono (x2.b.trans (glue_up fun q hq => ((@oxDI β rv).nb ho q hq).1)) e1, e2 S ho⟩
theorem eal_var {As : List Ty} (hj : T[j]? = some (.ow (owV u0 (@oxDI β rv)) a0)) (hr : EvAL G rv a0 u0 tr T As) : EvAL G rv a0 u0 (tCons (tVar j) tr) T (.im (@rpDI β rv) a0 :: As) := fun B H σ f Q q => by
  obtain ⟨S0, e1, _⟩ := f.getO hj
  exact ⟨u0, e1, hr B H σ f _ fun vs B2 H2 x2 e2 => q _ B2 H2 x2 fun S ho => ⟨(@oxDI β rv).rd ho _ (glue_up fun q hq => ((@oxDI β rv).nb ho q hq).1) fun q hq => glue_in hq, e2 S ho⟩⟩
theorem ev_callJL [NdO w] (hj : T[j]? = some (.ow (owV u0 (@oxDI β rv)) a0)) (ha : EvAL G rv a0 u0 tr T (As x)) (hp : pre x) : EvOJ G (tCall (SpJ G.K As pre w Post) [] E tr) T w (Post x) := fun B H σ fr Q q => ha B H σ fr _ fun vs B1 H1 x1 ok => by
  rw [List.append_nil]
  obtain ⟨S, _, ho⟩ := (fr.ext x1).getO hj
  have hn : ∀ q, S q → B1 q = none := fun q hq => ((@oxDI β rv).nb ho q hq).1
  refine ⟨glue S H1 B1, x, glue_le x1.s, hp, ok S ho, fun b pb u B' H' S' y hS ho' => q b u (delS B' S) H' S' pb (x1.trans ⟨fun q o e => ?_, y.h, fun q o e => ?_, fun q hq => ?_⟩) (fun p hp => x1.h.free (hS p hp)) (NdO.nd (fun q hq => ?_) ho')⟩
  · have ns : ¬ S q := fun z => by rw [hn q z] at e; cases e
    rw [delS_ne ns]
    exact y.b q o (by rw [glue_ne ns]; exact e)
  · exact y.s q o (delS_some e).2
  · by_cases z : S q
    · rw [delS_in z, hn q z]
    · rw [delS_ne z, y.n q hq, glue_ne z]
  · obtain ⟨p, kvs, _, hS1, _, hh, _⟩ := ho
    have := (hS1 q).mp hq
    subst this
    exact ⟨kvs, y.b _ _ (by rw [glue_in hq]; exact hh)⟩
end
section
variable [ra : Rp α] [rb : Rp β] {w : Ox α} {w2 : Ox β} {Post : α → Prop} {i j : Nat} {u u2 : V} {a : α} {b : β}
theorem EvOJ.imp {Post' : α → Prop} (h : EvOJ G te T w Post) (e : ∀ a, Post a → Post' a) : EvOJ G te T w Post' := fun B H σ f Q q => h B H σ f Q fun a u B' H' S pa => q a u B' H' S (e a pa)
theorem EvD.toJ (h : EvD G te T ra a) : EvOJ G te T (oxIm ra) (· = a) := fun B H σ f Q q => h B H σ f Q fun v B' H' x e => q a v B' H' (fun _ => False) rfl x (fun _ z => z.elim) ⟨fun _ z => z, e⟩
theorem EvO.toJ (h : EvO G te T w a) : EvOJ G te T w (· = a) := fun B H σ f Q q => h B H σ f Q fun v B' H' S x hS e => q a v B' H' S rfl x hS e
/-- the same thing told otherwise -/
theorem EvOJ.as {Q' : β → Prop} (h : EvOJ G te T (oxIm ra) Post) (e : ∀ a, Post a → ∃ b, Q' b ∧ ∀ {K : PySem.W.Frag} {B : Hp} {v : V}, ra.rp K B a v → rb.rp K B b v) : EvOJ G te T (oxIm rb) Q' := fun B H σ f Q q => h B H σ f Q fun a v B' H' S pa x hS z => by
  obtain ⟨b, qb, eb⟩ := e a pa
  exact q b v B' H' S qb x hS ⟨z.1, eb z.2⟩
theorem g_asgJ {i : Nat} (h : EvOJ G te T w Post) (q : ∀ a u, Post a → Goes G (T.set i (.ow (owV u w) a)) D.nx) : Goes G T (tAsg te (gName i) D) := fun B H σ f => h B H σ f _ fun a u B' H' S pa x hS ho => q a u pa B' H' _ (f.newO i x hS ho)
theorem q_asgJ {i : Nat} (h : EvOJ G te T w Post) (q : ∀ a u, Post a → Goes G (T.set i (.ow (owV u w) a)) (tu D)) : Goes G T (tSeq (tAsg te (gName i)) tu D) := g_asgJ (D := { D with nx := tu D }) h q
/-- let stand -/
theorem g_asgJI {i : Nat} (h : EvOJ G te T w Post) (q : ∀ a, Post a → Goes G (T.set i (.im ra a)) D.nx) : Goes G T (tAsg te (gName i) D) := fun B H σ f => h B H σ f _ fun a u B' H' S pa x hS ho => by
  obtain ⟨y, z⟩ := ext_glue x hS ho
  exact q a pa _ H' _ ((f.ext y).set_im i ra z)
theorem q_asgJI {i : Nat} (h : EvOJ G te T w Post) (q : ∀ a, Post a → Goes G (T.set i (.im ra a)) (tu D)) : Goes G T (tSeq (tAsg te (gName i)) tu D) := g_asgJI (D := { D with nx := tu D }) h q
theorem g_retJ (h : EvOJ G te T w Post) (q : ∀ a, Post a → RetO G D.rt w a) : Goes G T (tRet te D) := fun B H σ f => h B H σ f _ fun a u B' H' S pa x hS ho => q a pa u B' H' S (f.ext x).ext0 (fun p hp => f.h0.free (hS p hp)) ho
/-- (e, x), x the frame's own -/
theorem g_retJO (h : EvOJ G ta T w Post) (hj : T[j]? = some (.ow (owV u w2) b)) (q : ∀ a, Post a → RetO G D.rt (oxTup w w2) (a, b)) : Goes G T (tRet (tTup (tCons ta (tCons (tVar j) tNil))) D) := fun B H σ f => by
  obtain ⟨own, o0, sl⟩ := f.sl
  obtain ⟨s, e2, u', rfl, rfl, S2, hS2, ho2⟩ := sl j _ hj
  refine h B H σ f _ fun a v B1 H1 S1 pa x1 hS1 ho1 => ⟨_, e2, ?_⟩
  have ho3 : w2.ox G.K B1 H1 b u' S2 := w2.fr ho2 x1.b fun q hq => by
    obtain ⟨n1, n2⟩ := w2.nb ho2 q hq
    refine ⟨?_, (x1.n q n2).trans n1⟩
    cases hH : H q with
    | none => exact absurd hH n2
    | some o => exact x1.h q o hH
  refine ⟨by show 2 ≤ sizeLine; decide, fun p hp => ?_⟩
  have x3 := upd_extN (o := .tup [v, u']) x1.s hp
  have m1 : ¬ S1 p := fun z => (w.nb ho1 p z).2 hp
  have m2 : ¬ S2 p := fun z => (w2.nb ho3 p z).2 hp
  refine q a pa (.ref p) B1 _ (fun q => q = p ∨ S1 q ∨ S2 q) ((f.ext x1).ext x3).ext0 (fun q hq => ?_) ⟨p, v, u', S1, S2, rfl, fun _ => Iff.rfl, m1, m2, fun q h1 h2 => (w2.nb ho2 q h2).2 (hS1 q h1), x1.s.free hp, upd_same, w.fr ho1 (Same.refl _) fun q hq => ⟨upd_ne fun z => m1 (by rw [← z]; exact hq), (w.nb ho1 q hq).1⟩, w2.fr ho3 (Same.refl _) fun q hq => ⟨upd_ne fun z => m2 (by rw [← z]; exact hq), (w2.nb ho3 q hq).1⟩⟩
  rcases hq with rfl | hq | hq
  · exact (f.h0.trans x1.h).free hp
  · exact f.h0.free (hS1 q hq)
  · exact o0 q j (hS2 q hq)
/-- (x, e), x the frame's own -/
theorem g_retOJ (hi : T[i]? = some (.ow (owV u w) a)) (h : EvD G tb T rb b) (q : RetO G D.rt (oxTup w (oxIm rb)) (a, b)) : Goes G T (tRet (tTup (tCons (tVar i) (tCons tb tNil))) D) := fun B H σ f => by
  obtain ⟨own, o0, sl⟩ := f.sl
  obtain ⟨s, e2, u', rfl, rfl, S2, hS2, ho2⟩ := sl i _ hi
  refine ⟨_, e2, h B H σ f _ fun v B1 H1 x1 e1 => ?_⟩
  have ho3 : w.ox G.K B1 H1 a u' S2 := w.fr ho2 x1.b fun q hq => by
    obtain ⟨n1, n2⟩ := w.nb ho2 q hq
    refine ⟨?_, (x1.n q n2).trans n1⟩
    cases hH : H q with
    | none => exact absurd hH n2
    | some o => exact x1.h q o hH
  refine ⟨by show 2 ≤ sizeLine; decide, fun p hp => ?_⟩
  have x3 := upd_extN (o := .tup [u', v]) x1.s hp
  have m2 : ¬ S2 p := fun z => (w.nb ho3 p z).2 hp
  refine q (.ref p) B1 _ (fun q => q = p ∨ S2 q ∨ False) ((f.ext x1).ext x3).ext0 (fun q hq => ?_) ⟨p, u', v, S2, fun _ => False, rfl, fun _ => Iff.rfl, m2, fun z => z, fun q _ z => z, x1.s.free hp, upd_same, w.fr ho3 (Same.refl _) fun q hq => ⟨upd_ne fun z => m2 (by rw [← z]; exact hq), (w.nb ho3 q hq).1⟩, fun _ z => z, e1⟩
  rcases hq with rfl | hq | hq
  · exact (f.h0.trans x1.h).free hp
  · exact o0 q i (hS2 q hq)
  · exact hq.elim
/-- (x, y), both the frame's own -/
theorem g_retOO (hi : T[i]? = some (.ow (owV u w) a)) (hj : T[j]? = some (.ow (owV u2 w2) b)) (hij : i ≠ j) (q : RetO G D.rt (oxTup w w2) (a, b)) : Goes G T (tRet (tTup (tCons (tVar i) (tCons (tVar j) tNil))) D) := fun B H σ f => by
  obtain ⟨own, o0, sl⟩ := f.sl
  obtain ⟨s, e1, v1, rfl, rfl, S1, hS1, ho1⟩ := sl i _ hi
  obtain ⟨s, e2, v2, rfl, rfl, S2, hS2, ho2⟩ := sl j _ hj
  refine ⟨_, e1, _, e2, ?_⟩
  refine ⟨by show 2 ≤ sizeLine; decide, fun p hp => ?_⟩
  have x3 := upd_extN (o := .tup [v1, v2]) f.bh hp
  have m1 : ¬ S1 p := fun z => (w.nb ho1 p z).2 hp
  have m2 : ¬ S2 p := fun z => (w2.nb ho2 p z).2 hp
  refine q (.ref p) B _ (fun q => q = p ∨ S1 q ∨ S2 q) (f.ext x3).ext0 (fun q hq => ?_) ⟨p, _, _, S1, S2, rfl, fun _ => Iff.rfl, m1, m2, fun q h1 h2 => hij (Option.some.inj ((hS1 q h1).symm.trans (hS2 q h2))), f.bh.free hp, upd_same, w.fr ho1 (Same.refl _) fun q hq => ⟨upd_ne fun z => m1 (by rw [← z]; exact hq), (w.nb ho1 q hq).1⟩, w2.fr ho2 (Same.refl _) fun q hq => ⟨upd_ne fun z => m2 (by rw [← z]; exact hq), (w2.nb ho2 q hq).1⟩⟩
  rcases hq with rfl | hq | hq
  · exact f.h0.free hp
  · exact o0 q i (hS1 q hq)
  · exact o0 q j (hS2 q hq)
end
section
variable [ra : Rp α] [rb : Rp β] {w : Ox α} {w2 : Ox β} {Post : α × β → Prop} {i j : Nat}
/-- x, y = e: the first let stand, the second one's own -/
theorem g_asgIO (h : EvOJ G te T (oxTup w w2) Post) (hij : i ≠ j) (q : ∀ a u, Post a → Goes G ((T.set i (.im ra a.1)).set j (.ow (owV u w2) a.2)) D.nx) : Goes G T (tAsg te (gTup G.K 2 (gCons (gName i) (gCons (gName j) gNil))) D) := fun B H σ f => h B H σ f _ fun a v B1 H1 S pa x1 hS ho => by
  obtain ⟨p, x, y, S1, S2, rfl, hS', n1, n2, dj, hb, hH, o1, o2⟩ := ho
  refine ⟨p, [x, y], rfl, .inl (.inl hH), rfl, x, [y], rfl, y, [], rfl, rfl, ?_⟩
  obtain ⟨x2, e1⟩ := ext_glue (S := S1) x1 (fun q hq => hS q ((hS' q).mpr (.inr (.inl hq)))) o1
  have o3 : w2.ox G.K (glue S1 H1 B1) H1 a.2 y S2 := w2.fr o2 (glue_up fun q hq => (w.nb o1 q hq).1) fun q hq => ⟨rfl, by rw [glue_ne fun z => dj q z hq]; exact (w2.nb o2 q hq).1⟩
  have f2 := (f.newO j x2 (fun q hq => hS q ((hS' q).mpr (.inr (.inr hq)))) o3).set_im i ra e1
  rw [List.set_comm _ _ (Ne.symm hij), List.set_comm _ _ (Ne.symm hij)] at f2
  exact q a y pa _ H1 _ f2
theorem q_asgIO (h : EvOJ G te T (oxTup w w2) Post) (hij : i ≠ j) (q : ∀ a u, Post a → Goes G ((T.set i (.im ra a.1)).set j (.ow (owV u w2) a.2)) (tu D)) : Goes G T (tSeq (tAsg te (gTup G.K 2 (gCons (gName i) (gCons (gName j) gNil)))) tu D) := g_asgIO (D := { D with nx := tu D }) h hij q
theorem g_asgOI (h : EvOJ G te T (oxTup w w2) Post) (hij : i ≠ j) (q : ∀ a u, Post a → Goes G ((T.set i (.ow (owV u w) a.1)).set j (.im rb a.2)) D.nx) : Goes G T (tAsg te (gTup G.K 2 (gCons (gName i) (gCons (gName j) gNil))) D) := fun B H σ f => h B H σ f _ fun a v B1 H1 S pa x1 hS ho => by
  obtain ⟨p, x, y, S1, S2, rfl, hS', n1, n2, dj, hb, hH, o1, o2⟩ := ho
  refine ⟨p, [x, y], rfl, .inl (.inl hH), rfl, x, [y], rfl, y, [], rfl, rfl, ?_⟩
  obtain ⟨x2, e1⟩ := ext_glue (S := S2) x1 (fun q hq => hS q ((hS' q).mpr (.inr (.inr hq)))) o2
  have o3 : w.ox G.K (glue S2 H1 B1) H1 a.1 x S1 := w.fr o1 (glue_up fun q hq => (w2.nb o2 q hq).1) fun q hq => ⟨rfl, by rw [glue_ne fun z => dj q hq z]; exact (w.nb o1 q hq).1⟩
  have f2 := (f.newO i x2 (fun q hq => hS q ((hS' q).mpr (.inr (.inl hq)))) o3).set_im j rb e1
  exact q a x pa _ H1 _ f2
theorem q_asgOI (h : EvOJ G te T (oxTup w w2) Post) (hij : i ≠ j) (q : ∀ a u, Post a → Goes G ((T.set i (.ow (owV u w) a.1)).set j (.im rb a.2)) (tu D)) : Goes G T (tSeq (tAsg te (gTup G.K 2 (gCons (gName i) (gCons (gName j) gNil)))) tu D) := g_asgOI (D := { D with nx := tu D }) h hij q
/-- e[0], e[1] -/
theorem ej_fst (h : EvOJ G te T (oxTup w w2) Post) : EvOJ G (tOp (rIxT G.K) te (tC (.int 0))) T (oxIm ra) (fun b => ∃ a, Post a ∧ b = a.1) := fun B H σ f Q q => h B H σ f _ fun a v B1 H1 S pa x1 hS ho => by
  obtain ⟨p, x, y, S1, S2, rfl, hS', n1, n2, dj, hb, hH, o1, o2⟩ := ho
  obtain ⟨x2, e1⟩ := ext_glue (S := S1) x1 (fun q hq => hS q ((hS' q).mpr (.inr (.inl hq)))) o1
  exact ⟨p, _, 0, x, rfl, rfl, .inl (.inl hH), rfl, q a.1 x _ H1 (fun _ => False) ⟨a, pa, rfl⟩ x2 (fun _ z => z.elim) ⟨fun _ z => z, e1⟩⟩
theorem ej_sndI {Post : α × β → Prop} (h : EvOJ G te T (oxIm (@rpPair α β ra rb)) Post) : EvOJ G (tOp (rIxT G.K) te (tC (.int 1))) T (oxIm rb) (fun b => ∃ a, Post a ∧ b = a.2) := fun B H σ f Q q => h B H σ f _ fun a v B1 H1 S pa x1 hS ho => by
  obtain ⟨hn, p, x, y, rfl, hp, h1, h2⟩ := ho
  exact ⟨p, _, 1, y, rfl, rfl, .inl (.inl (x1.s _ _ hp)), rfl, q a.2 y _ H1 (fun _ => False) ⟨a, pa, rfl⟩ x1 (fun _ z => z.elim) ⟨fun _ z => z, h2⟩⟩
/-- sorted(d) -/
theorem ej_sorted {Post : DI β → Prop} (h : EvOJ G te T (oxIm (@rpDI β rb)) Post) (hl : ∀ d, Post d → d.kv.length < 64) : EvOJ G (tCB rSortedDI (tCons te tNil)) T (oxIm (@rpList Int rpInt)) (fun ys => ∃ d, Post d ∧ ys = isort (d.kv.map fun p => p.1)) := fun B H σ f Q q => h B H σ f _ fun d v B1 H1 S pd x1 hS ho => by
  obtain ⟨hn, p, kvs, rfl, hp, z⟩ := ho
  refine ⟨p, kvs, d.kv.map fun p => p.1, rfl, .inl (x1.s _ _ hp), by rw [pr_keys z, List.map_map]; rfl, by rw [List.length_map]; exact hl d pd, fun ns l h1 h2 hl => ?_⟩
  have e2 := isort_is h1 h2
  subst e2
  have x2 := upd_ext (o := .lst ((isort (d.kv.map fun p => p.1)).map V.int)) x1.s hl
  exact q _ _ _ _ (fun _ => False) ⟨d, pd, rfl⟩ (x1.trans x2) (fun _ z => z.elim) ⟨fun _ z => z, l, _, rfl, upd_same, of_ints⟩
/-- (e, f) -/
theorem ej_pair {a : α} {Post : β → Prop} (ha : EvD G ta T ra a) (hb : EvOJ G tb T (oxIm rb) Post) : EvOJ G (tTup (tCons ta (tCons tb tNil))) T (oxIm (@rpPair α β ra rb)) (fun p => p.1 = a ∧ Post p.2) := fun B H σ f Q q =>
  ha B H σ f _ fun v B1 H1 x1 e1 => hb B1 H1 σ (f.ext x1) _ fun b u B2 H2 S pb x2 hS e2 => ⟨by show 2 ≤ sizeLine; decide, fun p hp => by
    have x3 := upd_ext (o := .tup [v, u]) x2.s hp
    exact q (a, b) _ _ _ (fun _ => False) ⟨rfl, pb⟩ ((x1.trans x2).trans x3) (fun _ z => z.elim) ⟨fun _ z => z, p, v, u, rfl, upd_same, ra.mono (x2.b.trans x3.b) e1, rb.mono x3.b e2.2⟩⟩
end
/-- d[i] of a dict that is walked -/
theorem ev_dgetF [rb : Rp β] {od : Obj} {kvs : List (Key × V)} {a : DFz β} {u : V} {j : Nat} {i : Int} {b : β} (hj : T[j]? = some (.ow (owV u (@oxDF β rb od kvs)) a)) (hk : EvD G ta T rpInt i) (hl : lookI i a.kv = some b) : EvD G (tDGet (tVar j) ta) T rb b := fun B H σ f Q q => by
  obtain ⟨S, e1, _⟩ := f.getO hj
  refine ⟨u, e1, hk B H σ f _ fun w B2 H2 x2 h2 => ?_⟩
  obtain ⟨S2, _, p, e, _, _, hh, rr⟩ := (f.ext x2).getO hj
  obtain ⟨v, e3, e4⟩ := valV_look rr hl
  refine ⟨p, v, e, ?_, q v B2 H2 x2 e4⟩
  rw [show w = kV (.inl i) from h2, ← e3]
  exact .inl ⟨kvs, .inl i, .inr ⟨od, hh⟩, rfl, rfl⟩
theorem RetO.d [ra : Rp α] {rt : VK} {a : α} (h : RetO G rt (oxIm ra) a) : RetD G rt ra a := fun v B H x z => h v B H (fun _ => False) x (fun _ z => z.elim) ⟨fun _ z => z, z⟩
end
end DL

set_option Elab.async false
set_option linter.all false
set_option maxRecDepth 100000
set_option maxHeartbeats 4000000
/-! a law's own layer, thirty-seventh part: new lists of numbers as answers; <= of pairs -/
namespace DL
open PySem PySem.Spec PyProof.Rows L2
@[reducible] def oxLI : @Ox (List Int) (@rpList Int rpInt) := @Ox.mk (List Int) (@rpList Int rpInt)
  (fun K B H a v S => ∃ p : Addr, v = .ref p ∧ (∀ q, S q ↔ q = p) ∧ B p = none ∧ H p = some (.lst (a.map V.int)))
  (by
    rintro K B H B' H' a v S ⟨p, e, hS, b, h⟩ sb k
    obtain ⟨k1, k2⟩ := k p ((hS p).mpr rfl)
    exact ⟨p, e, hS, k2, k1.trans h⟩)
  (by
    rintro K B H a v S ⟨p, e, hS, b, h⟩ q hq
    rw [(hS q).mp hq]
    exact ⟨b, by rw [h]; intro z; cases z⟩)
  (by
    rintro K B H a v S ⟨p, e, hS, b, h⟩ H' sb k
    exact ⟨p, _, e, (k p ((hS p).mpr rfl)).trans h, of_ints⟩)
/-- what rests on nothing but itself -/
class OxI {α : Type} [Rp α] (w : Ox α) : Prop where
  ind : ∀ {K : PySem.W.Frag} {B H B2 : Hp} {a : α} {v : V} {S : Addr → Prop}, w.ox K B H a v S → (∀ q, S q → B2 q = none) → w.ox K B2 H a v S
instance oiLI : OxI oxLI := ⟨fun ⟨p, e, hS, b, h⟩ k => ⟨p, e, hS, k p ((hS p).mpr rfl), h⟩⟩
instance oiIm {α : Type} {r : Rp α} [Sc α] : OxI (oxIm r) := ⟨fun h _ => ⟨h.1, Sc.any h.2⟩⟩
instance oiTup {α β : Type} [ra : Rp α] [rb : Rp β] {w1 : Ox α} {w2 : Ox β} [OxI w1] [OxI w2] : OxI (oxTup w1 w2) := ⟨fun ⟨p, x, y, S1, S2, e, hS, n1, n2, dj, hb, hH, o1, o2⟩ k => ⟨p, x, y, S1, S2, e, hS, n1, n2, dj, k p ((hS p).mpr (.inl rfl)), hH, OxI.ind o1 fun q hq => k q ((hS q).mpr (.inr (.inl hq))), OxI.ind o2 fun q hq => k q ((hS q).mpr (.inr (.inr hq)))⟩⟩
instance ndLI : NdO oxLI := ⟨fun h ⟨p, e, hS, b, hh⟩ => ⟨p, e, hS, del_none b, hh⟩⟩
section
variable {G : Cn} {T : List Ty} {D : Ends} {te ta tb : TE} {tu : TS} {α β : Type}
theorem ev_callJH {ι : Type} {As : ι → List Ty} {pre : ι → Prop} [ra : Rp α] {w : Ox α} [OxI w] {Post : ι → α → Prop} {E : XK} {tr : TA} {x : ι} (ha : EvAH G tr T (As x)) (hp : pre x) : EvOJ G (tCall (SpJ G.K As pre w Post) [] E tr) T w (Post x) := fun B H σ fr Q q => ha B H σ fr _ fun vs B1 H1 x1 ok => by
  rw [List.append_nil]
  exact ⟨H1, x, Same.refl _, hp, ok, fun b pb u B' H' S y hS ho => q b u B1 H' S pb (x1.trans ⟨Same.refl _, y.h, x1.s.trans y.h, fun _ _ => rfl⟩) (fun p hp => x1.h.free (hS p hp)) (OxI.ind ho fun p hp => x1.s.free (hS p hp))⟩
theorem EvN.toJ {xs : List Int} (h : EvN G te T rpInt xs) : EvOJ G te T oxLI (· = xs) := fun B H σ f Q q => h B H σ f Q fun p vs B' H' x n1 n2 e z => q xs (.ref p) B' H' (fun q => q = p) rfl x (fun q hq => by rw [hq]; exact n1) ⟨p, rfl, fun _ => Iff.rfl, n2, by rw [e, ints_of z]⟩
theorem ej_pairO [ra : Rp α] [rb : Rp β] {w : Ox β} {a : α} {Post : β → Prop} (ha : EvD G ta T ra a) (hb : EvOJ G tb T w Post) : EvOJ G (tTup (tCons ta (tCons tb tNil))) T (oxTup (oxIm ra) w) (fun p => p.1 = a ∧ Post p.2) := fun B H σ f Q q =>
  ha B H σ f _ fun v B1 H1 x1 e1 => hb B1 H1 σ (f.ext x1) _ fun b u B2 H2 S pb x2 hS e2 => ⟨by show 2 ≤ sizeLine; decide, fun p hp => by
    have x3 := upd_extN (o := .tup [v, u]) x2.s hp
    have m2 : ¬ S p := fun z => (w.nb e2 p z).2 hp
    refine q (a, b) (.ref p) B2 _ (fun q => q = p ∨ False ∨ S q) ⟨rfl, pb⟩ ((x1.trans x2).trans x3) (fun q hq => ?_) ⟨p, v, u, fun _ => False, S, rfl, fun _ => Iff.rfl, fun z => z, m2, fun _ z => z.elim, x2.s.free hp, upd_same, ⟨fun _ z => z, ra.mono x2.b e1⟩, w.fr e2 (Same.refl _) fun q hq => ⟨upd_ne fun z => m2 (by rw [← z]; exact hq), (w.nb e2 q hq).1⟩⟩
    rcases hq with rfl | hq | hq
    · exact (x1.trans x2).h.free hp
    · exact hq.elim
    · exact x1.h.free (hS q hq)⟩
theorem ej_snd [ra : Rp α] [rb : Rp β] {w : Ox α} {w2 : Ox β} {Post : α × β → Prop} (h : EvOJ G te T (oxTup w w2) Post) : EvOJ G (tOp (rIxT G.K) te (tC (.int 1))) T w2 (fun b => ∃ a, Post a ∧ b = a.2) := fun B H σ f Q q => h B H σ f _ fun a v B1 H1 S pa x1 hS ho => by
  obtain ⟨p, x, y, S1, S2, rfl, hS', n1, n2, dj, hb, hH, o1, o2⟩ := ho
  exact ⟨p, _, 1, y, rfl, rfl, .inl (.inl hH), rfl, q a.2 y B1 H1 S2 ⟨a, pa, rfl⟩ x1 (fun q hq => hS q ((hS' q).mpr (.inr (.inr hq)))) o2⟩
theorem ej_sortedN [rb : Rp β] {Post : DI β → Prop} (h : EvOJ G te T (oxIm (@rpDI β rb)) Post) (hl : ∀ d, Post d → d.kv.length < 64) : EvOJ G (tCB rSortedDI (tCons te tNil)) T oxLI (fun ys => ∃ d, Post d ∧ ys = isort (d.kv.map fun p => p.1)) := fun B H σ f Q q => h B H σ f _ fun d v B1 H1 S pd x1 hS ho => by
  obtain ⟨hn, p, kvs, rfl, hp, z⟩ := ho
  refine ⟨p, kvs, d.kv.map fun p => p.1, rfl, .inl (x1.s _ _ hp), by rw [pr_keys z, List.map_map]; rfl, by rw [List.length_map]; exact hl d pd, fun ns l h1 h2 hl => ?_⟩
  have e2 := isort_is h1 h2
  subst e2
  have x2 := upd_extN (o := .lst ((isort (d.kv.map fun p => p.1)).map V.int)) x1.s hl
  exact q _ _ _ _ (fun q => q = l) ⟨d, pd, rfl⟩ (x1.trans x2) (fun q hq => by rw [hq]; exact x1.h.free hl) ⟨l, rfl, fun _ => Iff.rfl, x1.s.free hl, upd_same⟩
theorem ko_leT {X : Cx} {k : Nat} (K : PySem.W.Frag) (h : X.K = K) (hr : Room k X.A) : OpR X (compareOp .LtE) (rLeT K) := by subst h; exact op_leT (by have := hr.un; omega)
/-- the first places tell -/
theorem ev_leP0 {p q : Int × Int} (ha : EvD G ta T (@rpPair Int Int rpInt rpInt) p) (hb : EvD G tb T (@rpPair Int Int rpInt rpInt) q) (h : q.1 < p.1) : EvD G (tOp (rLeT G.K) ta tb) T rpBool false := fun B H σ f Q k =>
  ha B H σ f _ fun v B1 H1 x1 e1 => hb B1 H1 σ (f.ext x1) _ fun u B2 H2 x2 e2 => by
    obtain ⟨a, x, y, rfl, h1, hx, hy⟩ := e1
    obtain ⟨b, x', y', rfl, h2, hx', hy'⟩ := e2
    have hx : x = .int p.1 := hx
    have hy : y = .int p.2 := hy
    have hx' : x' = .int q.1 := hx'
    have hy' : y' = .int q.2 := hy'
    subst hx hy hx' hy'
    refine ⟨a, b, [p.1, p.2], [q.1, q.2], rfl, rfl, .inl (.inl (x2.h _ _ (x1.s _ _ h1))), .inl (.inl (x2.s _ _ h2)), k _ B2 H2 (x1.trans x2) ?_⟩
    show V.bl _ = V.bl false
    congr 1
    have n1 : ¬ p.1 = q.1 := by omega
    have n2 : ¬ p.1 ≤ q.1 := by omega
    unfold Ob.lexAt
    simp [n1, n2]
end
end DL

set_option Elab.async false
set_option linter.all false
set_option maxRecDepth 100000
set_option maxHeartbeats 4000000
/-! a law's own layer, thirty-eighth part: sorted(set(list of numbers)), tuples of a text and a number -/
namespace DL
open PySem PySem.Spec PyProof.Rows L2
section
variable {P : Program} {w : World} {A : Around} {E : Value → Shared → Prop} {s : Shared}
set_option maxHeartbeats 6400000 in
/-- set(l) of a list of whole numbers: a set that can be walked -/
theorem call_set_listR {l : Addr} {items : Array Value} (ns : List Int) {Q : Value → Shared → Prop} (hh : A.handled = none) (hl : s.heap.IsList l items) (hit : IntsAre items.toList ns) (hb : ns.length + 1 < scanBound)
    (h : ∀ (h' : Heap) (tk c : Nat), SetR w h' s.heap.objs.size (fun j => decide (j ∈ ns)) c → c ≤ ns.length → (∀ b o, s.heap.get? b = some o → h'.get? b = some o) → Q (.ref s.heap.objs.size) { s with heap := h', toks := tk }) :
    wpAny (model P w) A (call (.type "set") [.ref l]) Q E s := by
  have hisz : items.size = ns.length := by
    have q := IntsAre.length hit
    rw [Array.length_toList] at q
    exact q
  obtain ⟨c, tl, hmro⟩ := F.called_set.mro
  have hmade := F.called_set.made
  have hsub := F.called_set.sub
  refine wpAny_call (codeAny_of_tree ?_)
  show wpAny _ _ (callAny (.type "set") _) _ _ _
  refine wpAny_pure ⟨Code.quiet_builtin _ (by decide +kernel), codeAny_builtin F.entry_type_call ?_⟩
  rw [Around.under_plain (weight_type_call_type "set" [.ref l] []) rfl]
  have h1 := F.called_set.notType
  have h2 := F.called_set.canCreate
  have hct := F.typeCall_set_1 (.ref l)
  repeat (any_goals (first | assumption | wp_step))
  refine codeAny_mono (code_set_led1 (.ref l) (E := E) (Q₁ := fun obj s₁ => obj = .ref s.heap.objs.size ∧ s₁ = { s with heap := s.heap.push { cls := .type "set", dict := none, data := .set #[] 0 (.fresh 0 0 (!w.params.followText "set-order")) } }) ⟨rfl, rfl⟩) fun r s₁ hr => ?_
  cases r with
  | error e => exact hr
  | ok fl =>
    cases fl with
    | ret obj =>
      obtain ⟨rfl, rfl⟩ := hr
      have hS : (s.heap.push { cls := .type "set", dict := none, data := .set #[] 0 (.fresh 0 0 (!w.params.followText "set-order")) }).get? s.heap.objs.size = some { cls := .type "set", dict := none, data := .set #[] 0 (.fresh 0 0 (!w.params.followText "set-order")) } := Heap.get?_push_size _ rfl
      have hT : Shared.TypeIs { s with heap := s.heap.push { cls := .type "set", dict := none, data := .set #[] 0 (.fresh 0 0 (!w.params.followText "set-order")) } } (.ref s.heap.objs.size) "set" := ⟨_, hS, rfl⟩
      have hli := F.called_set.init.lookup
      have hbi := F.called_set.init.bind (.ref s.heap.objs.size)
      repeat (any_goals (first | assumption | wp_step))
      refine codeAny_mono (codeAny_call_builtin (R := wants (fun r s₂ => r = .none ∧ ∃ h' tk c, s₂ = { s with heap := h', toks := tk } ∧ SetR w h' s.heap.objs.size (fun j => decide (j ∈ ns)) c ∧ c ≤ ns.length ∧
          (∀ b o, s.heap.get? b = some o → h'.get? b = some o)) E) F.called_set.init.plain F.entry_set_init (check_set_init_1 hT ?_)) fun r₂ s₂ hr₂ => ?_
      · obtain ⟨ol, hol, hcl, nl, hdl⟩ := hl
        obtain ⟨ocls, odict, odata, oslots⟩ := ol
        simp only at hcl hdl
        subst hcl; subst hdl
        have hol' : (s.heap.push { cls := .type "set", dict := none, data := .set #[] 0 (.fresh 0 0 (!w.params.followText "set-order")) }).get? l = some { cls := .type "list", dict := odict, data := .seq items nl, slots := oslots } := Heap.get?_push_of_some _ hol
        have hsls := F.sub_list_set
        have hslf := F.sub_list_frozenset
        have hne : (Value.type "list" == Value.type "dict") = false := by decide
        have hl1 : (s.heap.push { cls := .type "set", dict := none, data := .set #[] 0 (.fresh 0 0 (!w.params.followText "set-order")) }).IsList l items := ⟨_, hol', rfl, nl, rfl⟩
        unfold Builtin.«set.__init__» noKeywords Builtin.Frozenset.updateFrom
        generalize hPI : pyIter = PI
        wp_walk
        subst hPI
        refine wpAny_pyIter_list hl1 ?_
        refine wpAny_bind (wpAny_runValue ?_)
        have hlS : l < s.heap.objs.size := Heap.lt_size hol
        have hh3 : A.in1.in1.in1.handled = none := by simp [hh]
        have hneI : l ≠ (s.heap.push { cls := .type "set", dict := none, data := .set #[] 0 (.fresh 0 0 (!w.params.followText "set-order")) }).objs.size := by
          rw [Heap.size_push]; exact Nat.ne_of_lt (Nat.lt_succ_of_lt hlS)
        have hSf : s.heap.objs.size ∉ [(s.heap.push { cls := .type "set", dict := none, data := .set #[] 0 (.fresh 0 0 (!w.params.followText "set-order")) }).objs.size, l] := by
          rw [Heap.size_push]; simp only [List.mem_cons, List.mem_singleton, List.not_mem_nil, or_false, not_or]
          exact ⟨Nat.ne_of_lt (Nat.lt_succ_self _), Nat.ne_of_gt hlS⟩
        have hval : ∀ (i : Nat) (v : Value), items[i]? = some v → ∃ k t, ns[i]? = some k ∧ v = .int k t := fun i v hv => by
          have hi : i < ns.length := by rw [← hisz]; exact (Array.getElem?_eq_some_iff.mp hv).1
          obtain ⟨t, e⟩ := PyProof.Rows.IntsAre.int_at hit i v (by rw [Array.getElem?_toList]; exact hv)
          refine ⟨ns[i], t, List.getElem?_eq_getElem hi, ?_⟩
          rw [e, List.getD_eq_getElem?_getD, List.getElem?_eq_getElem hi] <;> rfl
        refine set_update_ints ((Walks.list hh3 _ l hneI items).toS) s.heap.objs.size
          hSf ns hisz hb hval (items.size - 0) 0 _ (by omega) (Nat.zero_le _)
          ⟨⟨_, Heap.get?_push_size _ rfl, rfl, rfl⟩, (hl1.push _)⟩ ?hS0 ?hR
        case hS0 =>
          have hget : ((s.heap.push { cls := .type "set", dict := none, data := .set #[] 0 (.fresh 0 0 (!w.params.followText "set-order")) }).push { cls := .type "list_iterator", data := .fields #[.ref l, .int 0 0] }).get? s.heap.objs.size
              = some { cls := .type "set", dict := none, data := .set #[] 0 (.fresh 0 0 (!w.params.followText "set-order")) } := Heap.get?_push_of_some _ hS
          exact ⟨0, Nat.le_refl 0, setR_new_at hget⟩
        case hR =>
          intro s' c' hm hc' hS'
          obtain ⟨h', g2, d', tk', os'⟩ := s'
          have eg : g2 = s.gens := hm.gens
          have ed : d' = s.drawn := hm.drawn
          have eo : os' = s.os := hm.os
          subst eg; subst ed; subst eo
          show wpAny _ _ _ _ _ _
          refine wpAny_pure ?_
          show wpAny _ _ (ret Value.none) _ _ _
          rw [hisz] at hc'
          refine wpAny_pure ⟨rfl, h', tk', c', rfl, hS', hc', fun b o e => ?_⟩
          have hb0 : b < s.heap.objs.size := Heap.lt_size e
          have hb1 : b ≠ s.heap.objs.size := Nat.ne_of_lt hb0
          have hb2 : b ≠ (s.heap.push { cls := .type "set", dict := none, data := .set #[] 0 (.fresh 0 0 (!w.params.followText "set-order")) }).objs.size := by
            rw [Heap.size_push]; exact Nat.ne_of_lt (Nat.lt_succ_of_lt hb0)
          exact hm.heap b o (by simp only [List.mem_cons, List.mem_singleton, List.not_mem_nil, or_false, not_or]; exact ⟨hb1, hb2⟩) (Heap.get?_push_of_some _ (Heap.get?_push_of_some _ e))
      · cases r₂ with
        | error e => exact hr₂
        | ok fl₂ =>
          cases fl₂ with
          | ret r =>
            obtain ⟨rfl, h', tk, c', rfl, hS', hc', hk'⟩ := hr₂
            repeat (any_goals (first | assumption | wp_step))
            exact h _ _ _ hS' hc' hk'
          | _ => exact hr₂.elim
    | _ => exact hr.elim
end
/-- set(xs), xs a list of whole numbers -/
def rSetL (K : PySem.W.Frag) (w : World) : List V → Hp → VK → Prop := fun vs H Q => ∃ (l : Addr) (ns : List Int), vs = [V.ref l] ∧ SqL K H l (ns.map V.int) ∧ ns.length < 4000 ∧ ∀ a c, H a = none → c ≤ ns.length → Q (.ref a) (upd H a (SetO w a (fun j => decide (j ∈ ns)) c))
section
variable {X : Cx}
theorem cr_setL (hc : X.calm = true) : CallR X (.type "set") (rSetL X.K X.w) := by
  intro pins s σ H xs us Q I r h
  obtain ⟨l, ns, rfl, hl, hz0, q⟩ := h
  rw [Vals.ref1 r]
  obtain ⟨its, rv, pl, hz⟩ := I.list hl
  have hn : H s.heap.objs.size = none := I.hok.fresh (Nat.le_refl _)
  refine call_set_listR (P := X.prog) (w := X.w) ns (I.ok.hd hc) pl.isList (by simpa using rv.ints) (by unfold scanBound; omega) fun h' tk c R hc k => ?_
  exact ⟨.ref s.heap.objs.size, upd H s.heap.objs.size (SetO X.w s.heap.objs.size (fun j => decide (j ∈ ns)) c), I.laid (t' := tk) k (Nat.le_refl _) (setO_new R), rfl, q _ c hn hc⟩
theorem kr_setL (K : PySem.W.Frag) (w : World) (h : X.K = K) (hw : X.w = w) (hc : X.calm = true) : CallR X (.type "set") (rSetL K w) := by subst h hw; exact cr_setL hc
theorem kr_sortedSet (w : World) (hw : X.w = w) (hc : X.calm = true) : CallR X (.builtin "sorted") (rSortedSet w) := by subst hw; exact cr_sortedSet hc
end
section
variable {G : Cn} {T : List Ty} {te ta tb : TE} {w : World}
theorem ev_sortedSet {xs ys : List Int} (h : EvC G te T rpInt xs) (hl : xs.length < 64) (hs : ys.Pairwise (· < ·)) (hm : ∀ k, k ∈ ys ↔ k ∈ xs) : EvN G (tCB (rSortedSet w) (tCons (tCB (rSetL G.K w) (tCons te tNil)) tNil)) T rpInt ys := fun B H σ f Q q =>
  h B H σ f _ fun v B1 H1 x1 e1 => by
    obtain ⟨p, vs, rfl, s, z⟩ := e1
    have e := ints_of z
    subst e
    refine ⟨p, xs, rfl, s, by omega, fun a c ha hc => ?_⟩
    have x2 := upd_extN (o := SetO w a (fun j => decide (j ∈ xs)) c) x1.s ha
    refine ⟨a, _, c, rfl, upd_same, by omega, fun ns l h1 h2 h3 h4 => ?_⟩
    have en : ns = ys := by
      refine List.Perm.eq_of_pairwise (le := fun a b : Int => a ≤ b) (fun a b _ _ h1 h2 => Int.le_antisymm h1 h2) (h1.imp fun h => Int.le_of_lt h) (hs.imp fun h => Int.le_of_lt h) ?_
      refine (List.perm_ext_iff_of_nodup (h1.imp fun h => by omega) (hs.imp fun h => by omega)).mpr fun k => ?_
      rw [h2, hm, decide_eq_true_eq]
    subst en
    have x3 := upd_extN (o := .lst (ns.map V.int)) x2.s h4
    exact q l _ B1 _ ((x1.trans x2).trans x3) ((x1.trans x2).h.free h4) (x2.s.free h4) upd_same of_ints
end
end DL

set_option Elab.async false
set_option linter.all false
set_option maxRecDepth 100000
set_option maxHeartbeats 4000000
/-! a law's own layer, thirty-ninth part: data of one form sorted and compared, at any length -/
namespace DL
open PySem PySem.Spec PyProof.Rows L2
def rSortedA (K : PySem.W.Frag) : List V → Hp → VK → Prop := fun vs H Q => ∃ (β : Type) (enc : β → PyData) (val : β → V) (bs : List β) (a : Addr), vs = [V.ref a] ∧ SqL K H a (bs.map val) ∧ (∀ b, b ∈ bs → Dp K H (val b) (enc b)) ∧
  PySem.W.AllAlike (bs.map enc) ∧ PySem.W.Sortable (bs.map enc) ∧ (∀ b, b ∈ bs → (enc b).depth ≤ 60) ∧ ∀ p, H p = none → Q (.ref p) (upd H p (.lst ((bs.mergeSort (PySem.W.dataLe false enc)).map val)))
theorem each_vals {β : Type} {val : β → V} : ∀ {bs : List β} {us : List Value}, Vals (bs.map val) us → PySem.W.EachIs (fun v b => RelV (val b) v) us bs
  | [], _, .nil => .nil
  | b :: bs, _, .cons r t => .cons r (each_vals t)
theorem vals_each {β : Type} {val : β → V} : ∀ {bs : List β} {us : List Value}, PySem.W.EachIs (fun v b => RelV (val b) v) us bs → Vals (bs.map val) us
  | [], _, .nil => .nil
  | b :: bs, _, .cons r t => .cons r (vals_each t)
theorem each_mem2 {α β : Type} {R S : α → β → Prop} : ∀ {as : List α} {bs : List β}, PySem.W.EachIs R as bs → (∀ a b, b ∈ bs → R a b → S a b) → PySem.W.EachIs S as bs
  | _, _, .nil, _ => .nil
  | _, _, .cons r t, h => .cons (h _ _ List.mem_cons_self r) (each_mem2 t fun a b hb => h a b (List.mem_cons_of_mem _ hb))
section
variable {X : Cx}
theorem cr_sortedA (hu : X.A.units + 65 < cLine) : CallR X (.builtin "sorted") (rSortedA X.K) := by
  intro pins s σ H vs us Q I r h
  obtain ⟨β, enc, val, bs, a, rfl, hs, hd, hal, hk, hdep, q⟩ := h
  obtain ⟨its, rv, hl, hz⟩ := I.list hs
  obtain ⟨u, rfl, ru⟩ := vals1 r
  obtain rfl : u = Value.ref a := ru
  have hlen : (bs.map val).length = its.length := rv.length
  have hz' : bs.length ≤ sizeLine := by rw [← List.length_map (f := val)]; exact hz
  refine PySem.W.sorted_data (β := β) (enc := enc) (R := fun v b => RelV (val b) v) (vs := its) (bs := bs) hl.isList (each_vals rv) (each_mem2 (each_vals rv) fun v b hb hr => Dp.reads I _ _ _ (hd b hb) hr) hal hk hz' (fun b hb => ?_) fun out hlo eo => ?_
  · have := hdep b hb
    omega
  · obtain ⟨n, hn⟩ := sortedAll_at s.heap its (List.toArray out)
    refine ⟨.ref (s.heap.objs.size + 1), upd H (s.heap.objs.size + 1) (.lst ((bs.mergeSort (PySem.W.dataLe false enc)).map val)), I.laid (t' := s.toks) (fun b u e => sortedAll_old e) (Nat.le_succ _) ⟨?_, out, n, vals_each eo, hn⟩, rfl, q _ (I.hok.fresh (Nat.le_succ _))⟩
    rw [List.length_map, List.length_mergeSort]
    exact hz'
theorem kr_sortedA {k : Nat} (K : PySem.W.Frag) (h : X.K = K) (hr : Room k X.A) : CallR X (.builtin "sorted") (rSortedA K) := by subst h; exact cr_sortedA (hu65 hr)
/-- x <= y of data of one form -/
def rLeA (K : PySem.W.Frag) : R2 := fun x y H Q => ∃ (d e : PyData), Dp K H x d ∧ Dp K H y e ∧ PySem.W.alike d e = true ∧ d ≠ .none ∧ d.depth ≤ 60 ∧ Q (.bl (!PySem.W.dataLt e d)) H
theorem op_leA (hu : X.A.units + 65 < cLine) : OpR X (compareOp .LtE) (rLeA X.K) := by
  intro pins s σ H x y v u Q I rx ry h
  obtain ⟨d, e, hd, he, hal, hn, hdep, q⟩ := h
  obtain ⟨as, r1⟩ := Dp.reads I d x v hd rx
  obtain ⟨bs, r2⟩ := Dp.reads I e y u he ry
  exact PySem.W.le_data r1 r2 hal hn (by have := Nat.min_le_left d.depth e.depth; omega) ⟨.bl _, H, I, rfl, q⟩
theorem ko_leA {k : Nat} (K : PySem.W.Frag) (h : X.K = K) (hr : Room k X.A) : OpR X (compareOp .LtE) (rLeA K) := by subst h; exact op_leA (hu65 hr)
end
/-- data of one form -/
class Alk (α : Type) [Rp α] [Pd α] : Prop where
  al : ∀ a b : α, PySem.W.alike (Pd.pd a) (Pd.pd b) = true
  nn : ∀ a : α, Pd.pd a ≠ PyData.none
section
variable {α β : Type} [Rp α] [Pd α] [Rp β] [Pd β]
instance alInt : Alk Int := ⟨fun _ _ => by simp [Pd.pd, PySem.W.alike], fun _ h => by simp [Pd.pd] at h⟩
theorem al_all [Alk α] : ∀ as bs : List α, PySem.W.alikeAll (as.map Pd.pd) (bs.map Pd.pd) = true
  | [], bs => by simp [PySem.W.alikeAll]
  | _ :: _, [] => by simp [PySem.W.alikeAll]
  | a :: as, b :: bs => by simp [PySem.W.alikeAll, Alk.al a b, al_all as bs]
instance alList [Alk α] : Alk (List α) := ⟨fun a b => by show PySem.W.alike (.list _) (.list _) = true; simp only [PySem.W.alike]; exact al_all a b, fun a h => by cases (show PyData.list (a.map Pd.pd) = PyData.none from h)⟩
instance alPair [Alk α] [Alk β] : Alk (α × β) := ⟨fun a b => by show PySem.W.alike (.tuple _) (.tuple _) = true; simp [PySem.W.alike, PySem.W.alikeAll, Alk.al], fun a h => by cases (show PyData.tuple [Pd.pd a.1, Pd.pd a.2] = PyData.none from h)⟩
end
/-- a before b or like it -/
def leA {α : Type} [Rp α] [Pd α] (a b : α) : Bool := !PySem.W.dataLt (Pd.pd b) (Pd.pd a)
/-- the order of data is one -/
theorem leA_trans {α : Type} [Rp α] [Pd α] {a b c : α} (h1 : leA a b = true) (h2 : leA b c = true) : leA a c = true := by
  unfold leA at h1 h2 ⊢
  rw [Bool.not_eq_true'] at h1 h2 ⊢
  cases h : PySem.W.dataLt (Pd.pd c) (Pd.pd a) with
  | false => rfl
  | true =>
    rcases (PyProof.Rows.listOrd PyProof.Rows.itemOrd).negTrans (PySem.W.keyToks (Pd.pd c)) (PySem.W.keyToks (Pd.pd b)) (PySem.W.keyToks (Pd.pd a)) h with z | z
    · exact absurd ((show PySem.W.dataLt (Pd.pd c) (Pd.pd b) = true from z).symm.trans h2) (by decide)
    · exact absurd ((show PySem.W.dataLt (Pd.pd b) (Pd.pd a) = true from z).symm.trans h1) (by decide)
theorem leA_total {α : Type} [Rp α] [Pd α] (a b : α) : (leA a b || leA b a) = true := by
  unfold leA
  cases h1 : PySem.W.dataLt (Pd.pd b) (Pd.pd a) with
  | false => rfl
  | true =>
    cases h2 : PySem.W.dataLt (Pd.pd a) (Pd.pd b) with
    | false => rfl
    | true =>
      have h3 := (PyProof.Rows.listOrd PyProof.Rows.itemOrd).trans _ _ _ h1 h2
      rw [(PyProof.Rows.listOrd PyProof.Rows.itemOrd).irrefl] at h3
      exact absurd h3 (by decide)
theorem leA_keys {α : Type} [Rp α] [Pd α] {a b : α} (h1 : leA a b = true) (h2 : leA b a = true) : PySem.W.keyToks (Pd.pd a) = PySem.W.keyToks (Pd.pd b) := by
  unfold leA at h1 h2
  rw [Bool.not_eq_true'] at h1 h2
  exact (PyProof.Rows.listOrd PyProof.Rows.itemOrd).total _ _ h2 h1
theorem sortA_le {α : Type} [Rp α] [Pd α] (l : List α) : (l.mergeSort leA).Pairwise fun a b => leA a b = true := List.pairwise_mergeSort (le := leA) (fun a b c h1 h2 => leA_trans h1 h2) leA_total l
/-- data without doubles, sorted: each stands strictly ahead of what follows -/
theorem sortA_lt {α : Type} [Rp α] [Pd α] (inj : ∀ a b : α, PySem.W.keyToks (Pd.pd a) = PySem.W.keyToks (Pd.pd b) → a = b) {l : List α} (h : l.Nodup) : (l.mergeSort leA).Pairwise fun a b => leA b a = false := by
  have n := (List.mergeSort_perm l leA).nodup_iff.mpr h
  refine (List.pairwise_and_iff.mpr ⟨sortA_le l, n⟩).imp fun {a b} z => ?_
  obtain ⟨z1, z2⟩ := z
  cases e : leA b a with
  | false => rfl
  | true => exact absurd (inj a b (leA_keys z1 e)) z2
section
variable {G : Cn} {T : List Ty} {te ta tb : TE} {α : Type}
theorem ev_leA [r : Rp α] [p : Pd α] [l : Alk α] {a b : α} (ha : EvH G ta T r a) (hb : EvH G tb T r b) (hd : p.dn ≤ 60 := by decide) : EvD G (tOp (rLeA G.K) ta tb) T rpBool (leA a b) := fun B H σ f Q q =>
  ha B H σ f _ fun v B1 H1 x1 e1 => hb B1 H1 σ (f.ext x1) _ fun u B2 H2 x2 e2 => ⟨_, _, p.dp (r.mono x2.h e1), p.dp e2, l.al a b, l.nn a, Nat.le_trans (p.dep a) hd, q _ B2 H2 (x1.trans x2) rfl⟩
theorem paired_zip {F : α → V → Prop} : ∀ {as : List α} {vs : List V}, Paired F as vs → (as.zip vs).map (·.1) = as ∧ (as.zip vs).map (·.2) = vs ∧ ∀ b, b ∈ as.zip vs → F b.1 b.2
  | _, _, .nil => ⟨rfl, rfl, fun _ h => by cases h⟩
  | _, _, .cons r t => by
    obtain ⟨h1, h2, h3⟩ := paired_zip t
    refine ⟨by rw [List.zip_cons_cons, List.map_cons, h1], by rw [List.zip_cons_cons, List.map_cons, h2], fun b hb => ?_⟩
    rcases List.mem_cons.mp hb with rfl | hb
    · exact r
    · exact h3 b hb
theorem zip_paired {F : α → V → Prop} : ∀ {bs : List (α × V)}, (∀ b, b ∈ bs → F b.1 b.2) → Paired F (bs.map (·.1)) (bs.map (·.2))
  | [], _ => .nil
  | b :: bs, h => .cons (h b List.mem_cons_self) (zip_paired fun c hc => h c (List.mem_cons_of_mem _ hc))
theorem sort_fst {bs : List (α × V)} {le : α → α → Bool} : (bs.mergeSort fun a b => le a.1 b.1).map (·.1) = (bs.map (·.1)).mergeSort le := List.map_mergeSort fun _ _ _ _ => rfl
/-- sorted of data of one form: all of them tuples, or none -/
theorem ev_sortedA [r : Rp α] [p : Pd α] [l : Alk α] {xs : List α} (h : EvC G te T r xs) (hd : p.dn ≤ 60) (hk : PySem.W.Sortable (xs.map p.pd)) : EvN G (tCB (rSortedA G.K) (tCons te tNil)) T r (xs.mergeSort (@leA α r p)) := fun B H σ f Q q =>
  h B H σ f _ fun v B1 H1 x1 e1 => by
    obtain ⟨a, vs, rfl, s, z⟩ := e1
    obtain ⟨z1, z2, z3⟩ := paired_zip z
    have zH := paired_mono x1.s z
    obtain ⟨_, _, z4⟩ := paired_zip zH
    refine ⟨α × V, fun b => p.pd b.1, fun b => b.2, xs.zip vs, a, rfl, by rw [z2]; exact s, fun b hb => p.dp (z4 b hb), ?_, ?_, fun b _ => Nat.le_trans (p.dep b.1) hd, fun m hm => ?_⟩
    · intro d1 h1 d2 h2
      obtain ⟨b1, _, rfl⟩ := List.mem_map.mp h1
      obtain ⟨b2, _, rfl⟩ := List.mem_map.mp h2
      exact l.al b1.1 b2.1
    · have e : (xs.zip vs).map (fun b => p.pd b.1) = xs.map p.pd := by
        rw [← z1, List.map_map, z1]
        rfl
      rw [e]
      exact hk
    · have x2 := upd_extN (o := .lst (((xs.zip vs).mergeSort (PySem.W.dataLe false fun b => p.pd b.1)).map fun b => b.2)) x1.s hm
      refine q m _ B1 _ (x1.trans x2) (x1.h.free hm) (x1.s.free hm) upd_same ?_
      have e : xs.mergeSort (@leA α r p) = ((xs.zip vs).mergeSort (PySem.W.dataLe false fun b => p.pd b.1)).map (·.1) := by
        rw [PySem.W.dataLe_eq]
        show _ = ((xs.zip vs).mergeSort fun a b => leA a.1 b.1).map (·.1)
        rw [sort_fst, z1]
      rw [e]
      exact zip_paired fun b hb => z3 b ((List.mergeSort_perm _ _).mem_iff.mp hb)
/-- l.index(x) -/
theorem ev_indexD [r : Rp α] [p : Pd α] {xs : List α} {y : α} {j : Nat} (hl : EvH G te T (@rpList α r) xs) (hy : EvH G ta T r y) (hj : xs[j]? = some y) (hf : ∀ m, m < j → xs[m]? ≠ some y) (hd : p.dn ≤ 63 := by decide) :
    EvD G (tBM G.K "list" (rIndexD G.K) te (tCons ta tNil)) T rpInt (j : Int) := fun B H σ f Q q =>
  hl B H σ f _ fun v B1 H1 x1 e1 => by
    refine ⟨?_, hy B1 H1 σ (f.ext x1) _ fun u B2 H2 x2 e2 => ?_⟩
    · obtain ⟨a, vs, rfl, s, _⟩ := e1
      exact .inl ⟨rfl, vs, .inl (.inl s)⟩
    · have e1' := (@rpList α r).mono x2.h e1
      obtain ⟨a, vs, rfl, _⟩ := id e1'
      have hds : (xs.map p.pd)[j]? = some (p.pd y) := by rw [List.getElem?_map, hj]; rfl
      exact ⟨a, u, p.pd y, xs.map p.pd, j, p.pd y, rfl, rfl, (@pdList α r p).dp e1', p.dp e2, @shaped_of (List α) (@rpList α r) (@pdList α r p) xs (by show p.dn + 1 ≤ 64; omega), shaped_of (by omega), hds, (p.eqv y y).mpr rfl, fun m z' hm hz => by
        rw [List.getElem?_map] at hz
        cases hx : xs[m]? with
        | none => rw [hx] at hz; cases hz
        | some x =>
          rw [hx] at hz
          cases hz
          cases hc : PyData.eqv (p.pd x) (p.pd y) with
          | false => rfl
          | true => exact absurd (by rw [hx, (p.eqv x y).mp hc]) (hf m hm), q _ B2 H2 (x1.trans x2) rfl⟩
end
section
variable {X : Cx}
theorem km_indexD {k : Nat} (K : PySem.W.Frag) (h : X.K = K) (hr : Room k X.A) : MtR X "list.index" (rIndexD K) := by subst h; exact mt_indexD (hu65 hr)
end
end DL

set_option Elab.async false
set_option linter.all false
set_option maxRecDepth 100000
set_option maxHeartbeats 4000000
/-! a law's own layer, fortieth part: dicts whose keys are tuples of numbers: displayed with one key, sorted (raw rules) -/
namespace DL
open PySem PySem.Spec PyProof.Rows L2
/-- {k: v}, k a tuple of numbers and texts -/
def tDispT (tk tv : TE) : TE := fun σ H Q => ∀ p, H p = none → tk σ (upd H p (.dT [])) fun x H1 => tv σ H1 fun y H2 => H2 p = some (.dT []) ∧ ∃ (b : Addr) (k : List Key), x = .ref b ∧ H2 b = some (.tup (k.map kV)) ∧ Q (.ref p) (upd H2 p (.dT [(k, y)]))
section
variable {prog : Program} {w : World} {κ : Type} [DecidableEq κ] {knd : HeapKind prog w κ} {A : Around} {E : Value → Shared → Prop} {s : Shared}
theorem wpAny_subDict1 {pairs : List (Sem Value × Sem Value)} {Q : Addr → Shared → Prop} (hlen : pairs.length ≤ 15)
    (h : wpAny (model prog w) A (evalPairs pairs) (fun vs s₁ => ∃ (b : Addr) (r : Value) (ky : κ), vs = [(.ref b, r)] ∧ knd.room A ∧ knd.is s₁.heap ky b ∧ s₁.heap.DictOfH knd s.heap.objs.size [] ∧
      ∀ h' t', h'.DictOfH knd s.heap.objs.size (storedH [] ky b r) → Heap.SameBut s.heap.objs.size s₁.heap h' → Q s.heap.objs.size { s₁ with heap := h', toks := t' }) E
      { s with heap := s.heap.push { cls := .type "dict", data := .dict #[] } }) :
    wpAny (model prog w) A (subDict pairs) Q E s := by
  unfold subDict
  refine wpAny_bind (wpAny_alloc ?_)
  refine wpAny_bind (wpAny_holding ?_)
  rw [if_pos hlen]
  refine wpAny_bind (wpAny_mono h (fun vs s₁ h₁ => ?_) fun _ _ e => e)
  obtain ⟨b, r, ky, rfl, hu, hkey, hm, hQ⟩ := h₁
  refine wpAny_holding ?_
  have hsz : ([] : List (κ × Addr × Value)).length ≤ sizeLine := Nat.zero_le _
  refine wpAny_bind ?_
  rw [List.forIn_cons]
  refine wpAny_bind (wpAny_bind (wpAny_dictSet_heap (hsz := hsz) hu hkey hm fun h' hm' hs' => wpAny_pure ?_))
  dsimp only
  rw [List.forIn_nil]
  exact wpAny_pure (wpAny_pure (wpAny_pure (hQ h' _ hm' hs')))
theorem wpAny_Dict_one {k v : Expr} {env : Env} {pos : Pos} {Q : Value → Shared → Prop}
    (h : wpAny (model prog w) A (evalPairs (pairTrees [some k] [v] env pos)) (fun vs s₁ => ∃ (b : Addr) (r : Value) (ky : κ), vs = [(.ref b, r)] ∧ knd.room A ∧ knd.is s₁.heap ky b ∧ s₁.heap.DictOfH knd s.heap.objs.size [] ∧
      ∀ h' t', h'.DictOfH knd s.heap.objs.size (storedH [] ky b r) → Heap.SameBut s.heap.objs.size s₁.heap h' → Q (.ref s.heap.objs.size) { s₁ with heap := h', toks := t' }) E
      { s with heap := s.heap.push { cls := .type "dict", data := .dict #[] } }) :
    wpAny (model prog w) A (eval (.Dict [some k] [v] pos) env) Q E s := by
  have hn := pairTrees_length [some k] [v] env pos rfl rfl
  have h0 : pairTrees [some k] [v] env pos ≠ [] := fun z => by rw [z] at hn; cases hn
  rw [arm_eval_Dict, zip_pairTrees [some k] [v] env pos rfl rfl, dictDisplay_pairs _ h0 (by rw [hn]; show 1 < 17; decide)]
  exact wpAny_bind (wpAny_standAt (wpAny_bind (wpAny_subDict1 (knd := knd) (Q := fun d s' => wpAny (model prog w) A (pure (Value.ref d)) Q E s') (by rw [hn]; show 1 ≤ 15; decide)
    (wpAny_mono h (fun vs s₁ h₁ => by obtain ⟨b, r, ky, a1, a2, a3, a4, hq⟩ := h₁; exact ⟨b, r, ky, a1, a2, a3, a4, fun h' t' a b => wpAny_pure (hq h' t' a b)⟩) fun _ _ e => e))))
end
theorem pe_dispT {X : Cx} {k v : Expr} {pos : Pos} {tk tv : TE} (hu : X.A.units + 1 < cLine) (hk : PE X k tk) (hv : PE X v tv) : PE X (.Dict [some k] [v] pos) (tDispT tk tv) := by
  refine ⟨fun pins s σ H Q I q => ?_⟩
  have hn := I.hok.fresh (Nat.le_refl s.heap.objs.size)
  have I1 := I.laid (a := s.heap.objs.size) (o := .dT []) (h' := s.heap.push { cls := .type "dict", data := .dict #[] }) (t' := s.toks) (fun _ _ q => Heap.get?_push_of_some _ q) (Nat.le_refl _) (dt_empty s.heap I.big)
  refine wpAny_Dict_one (knd := tupleKind (mixKind X.prog X.w)) (pairTrees_cons_walk (thn (hk.run pins _ σ _ _ I1 (q _ hn)) fun u s1 ⟨x, H1, I2, rx, q1⟩ => thn (hv.run pins s1 σ H1 _ I2 q1) fun r s2 ⟨y, H2, I3, ry, e, b, ky, ex, eb, q2⟩ => pairTrees_nil_walk ?_))
  subst ex
  obtain rfl : u = Value.ref b := rx
  obtain ⟨z, hd, xs0, r0, dd⟩ := dt_of I3.hok e
  cases r0
  refine ⟨b, r, ky, rfl, (show X.A.units < cLine by omega), key_of I3.hok eb, dd, fun h' t' dd' hs => ⟨.ref s.heap.objs.size, upd H2 s.heap.objs.size (.dT [(ky, y)]), ?_, rfl, q2⟩⟩
  obtain ⟨o, es, ep, hq, h2, h3, h4, _, h5⟩ := dd'
  refine d_write I3 (by rw [e]; exact True.intro) hs ⟨o, hq⟩ ⟨(show 1 ≤ sizeLine by decide), hd, _, KT.keeps (H := H2) (show KT H2 (putK [] ky y) (storedH [] ky b r) from KT.put .nil ky eb ry) fun c ys ec => ?_, o, es, ep, hq, h2, h3, h4, h5⟩
  rw [upd_ne (ne_of ec e (fun z => nomatch z))]
  exact ec
/-- sorted(d) of a dict whose keys are tuples of numbers: a new list of these -/
def encT (b : List Int × Addr) : PyData := .tuple (b.1.map .int)
def rSortedDT : List V → Hp → VK → Prop := fun xs H Q => ∃ (a : Addr) (kvs : List (List Key × V)) (ks : List (List Int)), xs = [.ref a] ∧ Rd H a (.dT kvs) ∧ kvs.map (·.1) = ks.map (fun k => k.map Sum.inl) ∧ (∀ k, k ∈ ks → k ≠ []) ∧ ks.length ≤ 90000 ∧
  ∀ (bs : List (List Int × Addr)) (p : Addr), bs.map (·.1) = ks → (∀ b, b ∈ bs → H b.2 = some (.tup (b.1.map V.int))) → H p = none → Q (.ref p) (upd H p (.lst ((bs.mergeSort (PySem.W.dataLe false encT)).map fun b => V.ref b.2)))
theorem dpAll_ints {K : PySem.W.Frag} {H : Hp} : ∀ ks : List Int, DpAll K H (ks.map V.int) (ks.map PyData.int)
  | [] => .nil
  | k :: ks => .cons (.int k) (dpAll_ints ks)
theorem kV_ints (k : List Int) : ((k.map Sum.inl : List Key).map kV) = k.map V.int := by rw [List.map_map]; rfl
theorem call_sortedDT {X : Cx} (hcalm : X.calm = true) (hu : X.A.units + 65 < cLine) : CallR X (.builtin "sorted") rSortedDT := by
  intro pins s σ H xs us Q I r q
  obtain ⟨a, kvs, ks, ex, hd, hks, hne, hlen, q⟩ := q
  subst ex
  obtain ⟨u, eu, rx⟩ := vals1 r
  subst eu
  cases rx
  obtain ⟨z, hs, xs0, pr, o, es, ep, ho, hx, hdt, he, hn⟩ := (show ObjOk X.prog X.w H s.heap a (.dT kvs) from hd.ok I.hok)
  have l1 : es.size = xs0.length := size_of_entries he
  have l2 : kvs.length = xs0.length := Paired.length pr
  have l3 : kvs.length = ks.length := by
    have e := congrArg List.length hks
    rwa [List.length_map, List.length_map] at e
  have hLine : sizeLine = 16777216 := sizeLine_eq
  refine Calls.call_function_entry PyProof.Rows.kind_sorted PyProof.Rows.plain_sorted PyProof.Rows.entry_sorted (PyProof.Rows.args_sorted1 _) ?_
  unfold Builtin.«sorted»
  refine wpAny_bind (m := checkCount "sorted" 1 1 _) (wpAny_pure ?_)
  refine wpAny_bind (PySem.W.kdu_collect (A := X.A.in1) (kdl_raw hs hx hdt) (I.ok.hd hcalm) ho (by omega) fun h' tk acc' hk it => ?_)
  have ea : acc'.toList = xs0.map fun x => Value.ref x.2.1 := by
    have hl : acc'.toList.length = xs0.length := by rw [Array.length_toList, it.1]; exact l1
    apply List.ext_getElem?
    intro j
    rw [List.getElem?_map]
    cases hj : acc'.toList[j]? with
    | none =>
      have h1 := List.getElem?_eq_none_iff.mp hj
      rw [List.getElem?_eq_none (by omega)]
      all_goals rfl
    | some v =>
      obtain ⟨en, hen, hv⟩ := it.2 j v (by rw [← Array.getElem?_toList]; exact hj)
      have qe := entry_at he j
      rw [hen] at qe
      cases hb : xs0[j]? with
      | none =>
        rw [hb] at qe
        exact nomatch (show some en = none from qe)
      | some b =>
        rw [hb] at qe
        have e2 : en = entryOfKey (tupleKind (mixKind X.prog X.w)) b := Option.some.inj qe
        rw [hv, e2]
        all_goals rfl
  -- the keys with their tuples
  obtain ⟨bs, b1, b2, b3⟩ : ∃ bs : List (List Int × Addr), bs.map (·.1) = ks ∧ (bs.map fun b => Value.ref b.2) = xs0.map (fun x => Value.ref x.2.1) ∧ ∀ b, b ∈ bs → H b.2 = some (.tup (b.1.map V.int)) := by
    clear ea it hn he hdt hx ho l1 l2 l3 hlen hne q hd z
    induction pr generalizing ks with
    | nil =>
      cases ks with
      | nil => exact ⟨[], rfl, rfl, fun _ h => by cases h⟩
      | cons k ks => cases hks
    | @cons p x ps xs' h t ih =>
      cases ks with
      | nil => cases hks
      | cons k ks =>
        rw [List.map_cons, List.map_cons] at hks
        obtain ⟨e1, e2⟩ := List.cons.inj hks
        obtain ⟨bs, c1, c2, c3⟩ := ih ks e2
        refine ⟨(k, x.2.1) :: bs, by rw [List.map_cons, c1], by rw [List.map_cons, List.map_cons, c2], fun b hb => ?_⟩
        rcases List.mem_cons.mp hb with rfl | hb
        · have h2 := h.2.1
          rw [e1, kV_ints] at h2
          exact h2
        · exact c3 b hb
  have lb : bs.length = ks.length := by rw [← b1, List.length_map]
  rw [ea, ← b2]
  have I1 : Inv X pins σ H { s with heap := h', toks := tk } := I.kept hk
  have hvl : (bs.map fun b => Value.ref b.2).length ≤ sizeLine := by rw [List.length_map]; omega
  refine wpAny_bind (wpAny_newList ?_ hvl)
  have hoL : (h'.push (seqObj "list" (bs.map fun b => Value.ref b.2).toArray 0)).get? h'.objs.size = some (seqObj "list" (bs.map fun b => Value.ref b.2).toArray 0) := Heap.get?_push_size _ rfl
  show wpAny _ _ _ _ _ { s with heap := h'.push (seqObj "list" (bs.map fun b => Value.ref b.2).toArray 0), toks := tk }
  have rdAll : PySem.W.EachIs (fun v b => ∃ as, Reads (PySem.W.sortingHeap (h'.push (seqObj "list" (bs.map fun b => Value.ref b.2).toArray 0)) h'.objs.size (bs.map fun b => Value.ref b.2)) v (encT b) as) (bs.map fun b => Value.ref b.2) bs := by
    have key : ∀ l : List (List Int × Addr), (∀ b, b ∈ l → b ∈ bs) → PySem.W.EachIs (fun v b => ∃ as, Reads (PySem.W.sortingHeap (h'.push (seqObj "list" (bs.map fun b => Value.ref b.2).toArray 0)) h'.objs.size (bs.map fun b => Value.ref b.2)) v (encT b) as) (l.map fun b => Value.ref b.2) l := by
      intro l
      induction l with
      | nil => intro _; exact .nil
      | cons b l ih =>
        intro hl
        refine .cons ?_ (ih fun c hc => hl c (List.mem_cons_of_mem _ hc))
        obtain ⟨as, rr⟩ := Dp.reads I1 (encT b) (.ref b.2) (.ref b.2) (.tup (.inl (.inl (b3 b (hl b List.mem_cons_self)))) (dpAll_ints b.1)) rfl
        exact ⟨as, PyProof.Rows.Reads.keeps (fun c o e => PySem.W.sortingHeap_old (Nat.ne_of_lt (Heap.lt_size e)) (Heap.get?_push_of_some _ e)) rr⟩
    exact key bs fun _ h => h
  have hal : PySem.W.AllAlike (bs.map encT) := PySem.W.AllAlike.of fun b b' => by
    show PySem.W.alike (.tuple _) (.tuple _) = true
    simp only [PySem.W.alike]
    exact PySem.W.alike_ints _ _
  have hsk : PySem.W.Sortable (bs.map encT) := .inl fun d hd => by
    obtain ⟨b, hb, rfl⟩ := List.mem_map.mp hd
    have hb1 : b.1 ∈ ks := by rw [← b1]; exact List.mem_map.mpr ⟨b, hb, rfl⟩
    have hb2 := hne _ hb1
    unfold encT
    cases hbl : b.1 with
    | nil => exact absurd hbl hb2
    | cons x r => exact ⟨_, _, rfl⟩
  have hdep : ∀ b : List Int × Addr, (encT b).depth ≤ 1 := fun b => by
    unfold encT
    simp only [PyData.depth, PySem.W.depth_ints]
    omega
  have rdR : PySem.W.EachIs (fun v b => RelV (V.ref b.2) v) (bs.map fun b => Value.ref b.2) bs := by
    clear rdAll hvl hoL lb b2 b1 b3 hal hsk ea
    induction bs with
    | nil => exact .nil
    | cons b l ih => exact .cons rfl ih
  refine wpAny_bind (wpAny_holding (wpAny_call_entry PyProof.Rows.slot_list_sort ⟨_, hoL, rfl⟩ PyProof.Rows.entry_list_sort
    (PySem.W.list_sort_vals (s := { s with heap := h'.push (seqObj "list" (bs.map fun b => Value.ref b.2).toArray 0), toks := tk }) hoL
      (PySem.W.SortsAt.data (s := { s with heap := PySem.W.sortingHeap (h'.push (seqObj "list" (bs.map fun b => Value.ref b.2).toArray 0)) h'.objs.size (bs.map fun b => Value.ref b.2), toks := tk }) (PySem.W.each_map (R := fun v d => ∃ as, Reads (PySem.W.sortingHeap (h'.push (seqObj "list" (bs.map fun b => Value.ref b.2).toArray 0)) h'.objs.size (bs.map fun b => Value.ref b.2)) v d as) encT rdAll) hal hsk fun d hd => ?hroom)
      hvl ⟨_, rfl, ?_⟩) (PyProof.Rows.args_list_sort _)))
  case hroom =>
    obtain ⟨b, _, rfl⟩ := List.mem_map.mp hd
    have := hdep b
    show X.A.units + 2 + (encT b).depth < cLine
    omega
  generalize ho2 : PySem.W.sortVals (PySem.W.dataKind (PySem.W.sortingHeap (h'.push (seqObj "list" (bs.map fun b => Value.ref b.2).toArray 0)) h'.objs.size (bs.map fun b => Value.ref b.2)) (bs.map encT)) false (bs.map fun b => Value.ref b.2) (bs.map fun b => Value.ref b.2) = out
  have hout : PySem.W.EachIs (fun v b => RelV (V.ref b.2) v) out (bs.mergeSort (PySem.W.dataLe false encT)) := by
    rw [← ho2]
    exact PySem.W.sortVals_data false rdR rdAll hal
  obtain ⟨e', he'⟩ := PyProof.Rows.sortedHeap_at (vs := bs.map fun b => Value.ref b.2) (out := out.toArray) hoL
  refine wpAny_pure ⟨_, rfl, .ref h'.objs.size, upd H h'.objs.size (.lst ((bs.mergeSort (PySem.W.dataLe false encT)).map fun b => V.ref b.2)), I1.laid (t' := tk) (fun b u e => ?_) (Nat.le_refl _)
    (show ObjOk X.prog X.w _ _ _ (.lst ((bs.mergeSort (PySem.W.dataLe false encT)).map fun b => V.ref b.2)) from ⟨by rw [List.length_map, List.length_mergeSort]; omega, out, e', vals_each hout, he'⟩), rfl, q bs _ b1 b3 (I1.hok.fresh (Nat.le_refl _))⟩
  have hb : b < h'.objs.size := Heap.lt_size e
  rw [PyProof.Rows.sortedHeap_old (Nat.ne_of_lt hb) (by rw [size_push']; exact Nat.lt_succ_of_lt hb)]
  exact Heap.get?_push_of_some _ e
end DL

set_option Elab.async false
set_option linter.all false
set_option maxRecDepth 100000
set_option maxHeartbeats 4000000
/-! a law's own layer, forty-first part: dicts whose keys are tuples of numbers, plainly -/
namespace DL
open PySem PySem.Spec PyProof.Rows L2
structure DT (β : Type) where
  kv : List (List Int × β)
def kI (k : List Int) : List Key := k.map Sum.inl
theorem kI_inj : ∀ {a b : List Int}, kI a = kI b → a = b
  | [], [], _ => rfl
  | [], _ :: _, h => by cases h
  | _ :: _, [], h => by cases h
  | x :: a, y :: b, h => by
    obtain ⟨h1, h2⟩ := List.cons.inj (show (Sum.inl x : Key) :: kI a = Sum.inl y :: kI b from h)
    rw [Sum.inl.inj h1, kI_inj h2]
theorem kI_V (k : List Int) : (kI k).map kV = k.map V.int := kV_ints k
def rpPt {β : Type} [Rp β] (K : PySem.W.Frag) (H : Hp) (a : List Int × β) (b : List Key × V) : Prop := b.1 = kI a.1 ∧ Rp.rp K H a.2 b.2
instance rpDT {β : Type} [Rp β] : Rp (DT β) := ⟨fun K H a v => ∃ p kvs, v = .ref p ∧ H p = some (.dT kvs) ∧ Paired (rpPt K H) a.kv kvs, fun e ⟨p, kvs, a, b, c⟩ => ⟨p, kvs, a, e _ _ b, Paired.mapP c fun _ _ z => ⟨z.1, Rp.mono e z.2⟩⟩⟩
instance oxDT {β : Type} [Rp β] : Ox (DT β) where
  ox K B H x v S := ∃ (p : Addr) (kvs : List (List Key × V)), v = .ref p ∧ (∀ q, S q ↔ q = p) ∧ B p = none ∧ H p = some (.dT kvs) ∧ Paired (rpPt K B) x.kv kvs
  fr := by
    rintro K B H B' H' a v S ⟨p, kvs, e, hS, b, h, r⟩ sb k
    obtain ⟨k1, k2⟩ := k p ((hS p).mpr rfl)
    exact ⟨p, kvs, e, hS, k2, k1.trans h, Paired.mapP r fun _ _ z => ⟨z.1, Rp.mono sb z.2⟩⟩
  nb := by
    rintro K B H a v S ⟨p, kvs, e, hS, b, h, r⟩ q hq
    rw [(hS q).mp hq]
    exact ⟨b, by rw [h]; intro z; cases z⟩
  rd := by
    rintro K B H a v S ⟨p, kvs, e, hS, b, h, r⟩ H' sb k
    exact ⟨p, kvs, e, (k p ((hS p).mpr rfl)).trans h, Paired.mapP r fun _ _ z => ⟨z.1, Rp.mono sb z.2⟩⟩
def lookT {β : Type} (k : List Int) : List (List Int × β) → Option β
  | [] => none
  | p :: r => if p.1 = k then some p.2 else lookT k r
theorem pt_val {β : Type} [Rp β] {K : PySem.W.Frag} {B : Hp} {k : List Int} : ∀ {kv : List (List Int × β)} {kvs : List (List Key × V)}, Paired (rpPt K B) kv kvs → (lookT k kv = none ∧ valV kvs (kI k) = none) ∨ ∃ b v, lookT k kv = some b ∧ valV kvs (kI k) = some v ∧ Rp.rp K B b v
  | _, _, .nil => .inl ⟨rfl, rfl⟩
  | p :: kv, q :: kvs, .cons ⟨h1, h2⟩ t => by
    by_cases e : p.1 = k
    · have e' : q.1 = kI k := by rw [h1, e]
      exact .inr ⟨p.2, q.2, if_pos e, valV_pos e', h2⟩
    · have e' : ¬ q.1 = kI k := fun z => e (kI_inj (h1.symm.trans z))
      rcases pt_val (k := k) t with ⟨a, b⟩ | ⟨b, v, a, c, d⟩
      · exact .inl ⟨(if_neg e).trans a, (valV_neg e').trans b⟩
      · exact .inr ⟨b, v, (if_neg e).trans a, (valV_neg e').trans c, d⟩
theorem pt_put {β : Type} [Rp β] {K : PySem.W.Frag} {B : Hp} {k : List Int} {b : β} {v : V} {kv : List (List Int × β)} {kvs : List (List Key × V)} (h : Paired (rpPt K B) kv kvs) (hn : lookT k kv = none) (hv : Rp.rp K B b v) : Paired (rpPt K B) (kv ++ [(k, b)]) (putK kvs (kI k) v) := by
  have hva : valV kvs (kI k) = none := by
    rcases pt_val (k := k) h with ⟨_, e⟩ | ⟨b, v, e, _⟩
    · exact e
    · rw [hn] at e; cases e
  have ha : (kvs.any fun p => decide (p.1 = kI k)) = false := by
    rw [valV_any, hva]
    rfl
  unfold putK
  rw [ha]
  exact paired_append h (.cons ⟨rfl, hv⟩ .nil)
theorem tl_key {K : PySem.W.Frag} {B : Hp} {k : List Int} {v : V} (h : (@rpTL Int rpInt).rp K B ⟨k⟩ v) : ∃ b, v = .ref b ∧ B b = some (.tup ((kI k).map kV)) := by
  obtain ⟨p, vs, e, hp, z⟩ := h
  refine ⟨p, e, ?_⟩
  rw [kI_V, ← ints_of z]
  exact hp
theorem pt_keys {β : Type} [Rp β] {K : PySem.W.Frag} {B : Hp} : ∀ {kv : List (List Int × β)} {kvs : List (List Key × V)}, Paired (rpPt K B) kv kvs → kvs.map (·.1) = (kv.map fun p => p.1).map (fun k => k.map Sum.inl)
  | _, _, .nil => rfl
  | _, _, .cons h t => by rw [List.map_cons, List.map_cons, List.map_cons, pt_keys t, h.1]; rfl
section
variable {G : Cn} {T : List Ty} {D : Ends} {te ta tb tc td ty tv tk : TE} {tu : TS} {β : Type} {rv : Rp β}
/-- {k: v} -/
theorem ev_dispT {k : List Int} {b : β} (hk : EvD G tk T (@rpTL Int rpInt) ⟨k⟩) (hv : EvD G tv T rv b) : EvO G (tDispT tk tv) T (@oxDT β rv) ⟨[(k, b)]⟩ := fun B H σ f Q q p hp => by
  have x0 := upd_extN (o := .dT []) f.bh hp
  refine hk B _ σ (f.ext x0) _ fun u B1 H1 x1 e1 => hv B1 H1 σ ((f.ext x0).ext x1) _ fun v B2 H2 x2 e2 => ?_
  obtain ⟨a, rfl, ha⟩ := tl_key e1
  have h2 : H2 p = some (.dT []) := x2.h _ _ (x1.h _ _ upd_same)
  have n1 : B1 p = none := x1.none upd_same (f.bh.free hp)
  have n2 : B2 p = none := x2.none (x1.h _ _ upd_same) n1
  have x := x0.trans (x1.trans x2)
  refine ⟨h2, a, kI k, rfl, x2.h _ _ (x1.s _ _ ha), q (.ref p) B2 _ (fun q => q = p) ⟨x.b, fun y o hy => ?_, fun y o hy => ?_, x.n⟩ (fun q hq => by rw [hq]; exact hp) ⟨p, _, rfl, fun _ => Iff.rfl, n2, upd_same, .cons ⟨rfl, e2⟩ .nil⟩⟩
  · rw [upd_ne (ne_of_none hy hp)]
    exact x.h y o hy
  · rw [upd_ne (ne_of_none hy n2)]
    exact x.s y o hy
/-- k not in d -/
theorem ev_dninT {d : DT β} {k : List Int} (hk : EvD G ta T (@rpTL Int rpInt) ⟨k⟩) (hd : EvH G td T (@rpDT β rv) d) : EvD G (tDNotIn ta td) T rpBool (!(lookT k d.kv).isSome) := fun B H σ f Q q =>
  hk B H σ f _ fun u B1 H1 x1 e1 => hd B1 H1 σ (f.ext x1) _ fun v B2 H2 x2 e2 => by
    obtain ⟨p, kvs, rfl, hp, z⟩ := e2
    obtain ⟨a, rfl, ha⟩ := tl_key e1
    refine ⟨p, valV kvs (kI k), rfl, DGet.t hp (x2.s _ _ (x2.b _ _ ha)), ?_⟩
    have e : (valV kvs (kI k)).isSome = (lookT k d.kv).isSome := by
      rcases pt_val (k := k) z with ⟨e1, e2⟩ | ⟨b, v, e1, e2, _⟩
      · rw [e1, e2]; rfl
      · rw [e1, e2]; rfl
    rw [e]
    exact q _ B2 H2 (x1.trans x2) rfl
/-- d[k] of a dict that is changed in place -/
theorem ev_dgetT {a : DT β} {U : DT β → List Ty} {k : List Int} {b : β} (hi : Has G td T (@oxDT β rv) a U) (hk : EvD G ty T (@rpTL Int rpInt) ⟨k⟩) (hl : lookT k a.kv = some b) : EvD G (tDGet td ty) T rv b := fun B H σ f Q q => by
  obtain ⟨u, eu, ku⟩ := hi B H σ f
  refine eu _ (hk B H σ f _ fun w B2 H2 x2 h2 => ?_)
  obtain ⟨S, ⟨p, kvs, ep, hS, b0, hH, r⟩, kk⟩ := ku B2 H2 x2
  obtain ⟨c, rfl, hc⟩ := tl_key h2
  rcases pt_val (k := k) r with ⟨e1, _⟩ | ⟨b', v, e1, e2, e3⟩
  · rw [hl] at e1; cases e1
  · rw [hl] at e1
    cases e1
    refine ⟨p, v, ep, ?_, q v B2 H2 x2 e3⟩
    rw [← e2]
    exact DGet.t hH (x2.s _ _ hc)
/-- d.get(k) -/
theorem ev_dget1T {a : DT β} {U : DT β → List Ty} {k : List Int} (hi : Has G td T (@oxDT β rv) a U) (hk : EvD G ty T (@rpTL Int rpInt) ⟨k⟩) : EvD G (tDGet1 td ty) T (@rpOpt β rv) (lookT k a.kv) := fun B H σ f Q q => by
  obtain ⟨u, eu, ku⟩ := hi B H σ f
  obtain ⟨S0, ⟨p0, kvs0, e0, _, _, hH0, _⟩, _⟩ := ku B H (Ext.refl f.bh)
  refine eu _ ⟨p0, e0, .inr ⟨kvs0, .inl hH0⟩, hk B H σ f _ fun w B2 H2 x2 h2 => ?_⟩
  obtain ⟨S, ⟨p, kvs, ep, hS, b0, hH, r⟩, kk⟩ := ku B2 H2 x2
  rw [e0] at ep
  cases ep
  obtain ⟨c, rfl, hc⟩ := tl_key h2
  refine ⟨valV kvs (kI k), DGet.t hH (x2.s _ _ hc), q _ B2 H2 x2 ?_⟩
  rcases pt_val (k := k) r with ⟨e1, e2⟩ | ⟨b', v, e1, e2, e3⟩
  · rw [e1, e2]; exact rfl
  · rw [e1, e2]; exact e3
/-- d[k] = b, k not there yet -/
theorem g_dputT {a : DT β} {U : DT β → List Ty} {k : List Int} {b : β} (hi : Has G td T (@oxDT β rv) a U) (hv : EvD G tv T rv b) (hk : EvD G ty T (@rpTL Int rpInt) ⟨k⟩) (hn : lookT k a.kv = none) (hz : a.kv.length < 100000) (q : Goes G (U ⟨a.kv ++ [(k, b)]⟩) D.nx) : Goes G T (sDPut td ty tv D) := fun B H σ f =>
  hv B H σ f _ fun v B1 H1 x1 h1 => by
    obtain ⟨u, eu, ku⟩ := hi B1 H1 σ (f.ext x1)
    refine eu _ (hk B1 H1 σ (f.ext x1) _ fun w B2 H2 x2 h2 => ?_)
    obtain ⟨S, ⟨p, kvs, rfl, hS, b0, hH, r⟩, kk⟩ := ku B2 H2 x2
    obtain ⟨c, rfl, hc⟩ := tl_key h2
    refine ⟨p, upd H2 p (.dT (putK kvs (kI k) v)), rfl, DPut.t hH (x2.s _ _ hc) (by rw [← Paired.length r]; exact sz_lt hz), ?_⟩
    refine q B2 _ σ (kk ⟨a.kv ++ [(k, b)]⟩ B2 _ S ⟨Same.refl _, fun y o hy => ?_, fun y o hy => ?_, fun _ _ => rfl⟩ (fun y hy => delS_in hy) ⟨p, _, rfl, hS, b0, upd_same, pt_put r hn (rv.mono x2.b h1)⟩)
    · obtain ⟨k1, k2⟩ := delS_some hy
      rw [upd_ne fun z => k1 ((hS y).mpr z)]
      exact k2
    · rw [upd_ne (ne_of_none hy b0)]
      exact (x2.s) y o hy
theorem q_dputT {a : DT β} {U : DT β → List Ty} {k : List Int} {b : β} (hi : Has G td T (@oxDT β rv) a U) (hv : EvD G tv T rv b) (hk : EvD G ty T (@rpTL Int rpInt) ⟨k⟩) (hn : lookT k a.kv = none) (hz : a.kv.length < 100000) (q : Goes G (U ⟨a.kv ++ [(k, b)]⟩) (tu D)) : Goes G T (tSeq (sDPut td ty tv) tu D) := g_dputT (D := { D with nx := tu D }) hi hv hk hn hz q
theorem toks_tl (k : List Int) : PySem.W.keyToks (.tuple (k.map .int)) = PySem.W.keyToks (@Pd.pd (List Int) (@rpList Int rpInt) _ k) := by
  show _ = PySem.W.keyToks (.list (k.map .int))
  simp only [PySem.W.keyToks]
theorem wipe_len (σ : L2.St) : ∀ vs : List Nat, (L2.wipe σ vs).length = σ.length
  | [] => rfl
  | v :: vs => by
    show ((L2.wipe σ vs).set v none).length = _
    rw [List.length_set, wipe_len σ vs]
/-- [list(k) for k in sorted(d)], d a dict just made -/
theorem ev_lcST {d : DT β} {i : Nat} (h : EvO G te T (@oxDT β rv) d) (hk : ∀ p, p ∈ d.kv → p.1 ≠ []) (hn : d.kv.length ≤ 90000) (hi : i < T.length) :
    EvN G (tLc (iList G.K (tCB rSortedDT (tCons te tNil))) (gName i) tYes (tCB (rListQ G.K) (tCons (tVar i) tNil)) [i]) T (@rpList Int rpInt) ((d.kv.map fun p => p.1).mergeSort (@leA (List Int) (@rpList Int rpInt) _)) := fun B H σ fr Q q => by
  refine h B H σ fr _ fun u B1 H1 S x1 hS ho => ?_
  obtain ⟨p, kvs, rfl, hSp, b0, hH, z⟩ := ho
  refine ⟨p, kvs, d.kv.map fun p => p.1, rfl, .inl hH, ?_, fun k hm => ?_, by rw [List.length_map]; exact hn, fun bs l hb1 hb2 hl => ?_⟩
  · exact pt_keys z
  · obtain ⟨p, hp, rfl⟩ := List.mem_map.mp hm
    exact hk p hp
  have es : ((bs.mergeSort (PySem.W.dataLe false encT)).map (·.1)) = (d.kv.map fun p => p.1).mergeSort (@leA (List Int) (@rpList Int rpInt) _) := by
    rw [← hb1, PySem.W.dataLe_eq]
    refine List.map_mergeSort fun a _ b _ => ?_
    show (!PySem.W.dataLt (encT b) (encT a)) = leA a.1 b.1
    unfold leA PySem.W.dataLt encT
    rw [toks_tl, toks_tl]
  have hm : ∀ b, b ∈ bs.mergeSort (PySem.W.dataLe false encT) → H1 b.2 = some (.tup (b.1.map V.int)) := fun b hb => hb2 b ((List.mergeSort_perm _ _).mem_iff.mp hb)
  have hlen : (bs.mergeSort (PySem.W.dataLe false encT)).length ≤ 90000 := by
    rw [List.length_mergeSort, ← List.length_map (f := (·.1)), hb1, List.length_map]
    exact hn
  rw [← es] at q
  generalize bs.mergeSort (PySem.W.dataLe false encT) = cs at hm hlen q
  have x2 := upd_extN (o := .lst (cs.map fun b => V.ref b.2)) x1.s hl
  have x12 := x1.trans x2
  refine ⟨l, rfl, ⟨_, .inl (.inl upd_same)⟩, fun Dl nD => ?_⟩
  generalize hH2 : upd H1 l (.lst (cs.map fun b => V.ref b.2)) = H2 at x2 x12 nD
  have hl2 : H2 l = some (.lst (cs.map fun b => V.ref b.2)) := by rw [← hH2]; exact upd_same
  have hm2 : ∀ b, b ∈ cs → H2 b.2 = some (.tup (b.1.map V.int)) := fun b hb => x2.h _ _ (hm b hb)
  have x3 := upd_extN (o := .lst []) x12.s nD
  have x13 := x12.trans x3
  have nB : B1 Dl = none := x12.s.free nD
  have nH : H Dl = none := x12.h.free nD
  refine ⟨fun i' m H' => m = cs.length - i' ∧ i' ≤ cs.length ∧ ∃ B' ws, Ext B H B' H' ∧ Same H2 H' ∧ B' Dl = none ∧ H' Dl = some (.lst ws) ∧ Paired ((@rpList Int rpInt).rp G.K B') ((cs.take i').map (·.1)) ws,
    ⟨cs.length, rfl, Nat.zero_le _, B1, [], x13, x3.h, nB, upd_same, by rw [List.take_zero]; exact .nil⟩, ?_⟩
  rintro i' m H' ⟨rfl, hle, B', ws, x', sH, nB', hDl, pw⟩
  have hl' : H' l = some (.lst (cs.map fun b => V.ref b.2)) := sH _ _ hl2
  by_cases hlt : i' < cs.length
  · have ex : cs[i']? = some cs[i'] := List.getElem?_eq_getElem hlt
    have etk : cs.take (i' + 1) = cs.take i' ++ [cs[i']] := by rw [List.take_add_one, ex] <;> rfl
    have exV : (cs.map fun b => V.ref b.2)[i']? = some (.ref cs[i'].2) := by rw [List.getElem?_map, ex]; rfl
    refine .inr ⟨⟨_, _, .inl (.inl hl'), exV⟩, fun H3 => ∃ B3 ws3, Ext B H B3 H3 ∧ Same H2 H3 ∧ B3 Dl = none ∧ H3 Dl = some (.lst ws3) ∧ Paired ((@rpList Int rpInt).rp G.K B3) ((cs.take (i' + 1)).map (·.1)) ws3, fun H3 h3 => ⟨cs.length - (i' + 1), by omega, rfl, hlt, h3⟩, fun v H3 y => ?_⟩
    obtain ⟨rfl, hv⟩ := y
    have hv := hv _ (.inl (.inl hl'))
    rw [exV] at hv
    cases hv
    have hil : i < (L2.wipe σ [i]).length := by rw [wipe_len, fr.len]; exact hi
    refine ⟨wipe_set (List.mem_singleton.mpr rfl) |>.trans wipe_wipe, ?_⟩
    have hg : ((L2.wipe σ [i]).set i (some (V.ref cs[i'].2)))[i]? = some (some (V.ref cs[i'].2)) := List.getElem?_set_self hil
    unfold tYes
    dsimp only
    rw [if_pos rfl]
    refine ⟨_, hg, cs[i'].2, cs[i'].1.map V.int, rfl, .inr (.inl (.inl (sH _ _ (hm2 _ (List.getElem_mem hlt))))), fun l2 n2 => ?_⟩
    have n2B : B' l2 = none := x'.s.free n2
    have n2H : H l2 = none := x'.h.free n2
    have hDl2 : Dl ≠ l2 := fun e => by rw [e, n2] at hDl; cases hDl
    have hD5 : upd H3 l2 (.lst (cs[i'].1.map V.int)) Dl = some (.lst ws) := (upd_ne hDl2).trans hDl
    have hwl : ws.length < 100000 := by
      rw [← Paired.length pw, List.length_map]
      have h2 := List.length_take_le i' cs
      omega
    refine ⟨ws, hD5, sz_lt hwl, upd B' l2 (.lst (cs[i'].1.map V.int)), ws ++ [.ref l2], ⟨fun y o hy => ?_, fun y o hy => ?_, fun y o hy => ?_, fun y hy => ?_⟩, fun y o hy => ?_, (upd_ne hDl2).trans nB', upd_same, ?_⟩
    · rw [upd_ne (ne_of_none hy (x'.b.free n2B))]
      exact x'.b y o hy
    · rw [upd_ne (ne_of_none hy nH), upd_ne (ne_of_none hy n2H)]
      exact x'.h y o hy
    · by_cases e : y = l2
      · subst e
        rw [upd_same] at hy
        rw [upd_ne (Ne.symm hDl2), upd_same]
        exact hy
      · rw [upd_ne e] at hy
        rw [upd_ne (ne_of_none hy nB'), upd_ne e]
        exact x'.s y o hy
    · have e : y ≠ l2 := fun e => hy (by rw [e]; exact n2H)
      rw [upd_ne e]
      exact x'.n y hy
    · have e1 : y ≠ Dl := fun e => by rw [e, nD] at hy; cases hy
      have e2 : y ≠ l2 := fun e => by
        have := sH y o hy
        rw [e, n2] at this
        cases this
      rw [upd_ne e1, upd_ne e2]
      exact sH y o hy
    · rw [etk, List.map_append]
      refine paired_append (paired_mono (fun y o hy => ?_) pw) (.cons ⟨l2, _, rfl, upd_same, of_ints⟩ .nil)
      rw [upd_ne (ne_of_none hy n2B)]
      exact hy
  · have e : i' = cs.length := by omega
    subst e
    rw [List.take_length] at pw
    exact .inl ⟨⟨_, .inl (.inl hl'), by rw [List.length_map]; exact Nat.le_refl _⟩, q Dl ws B' H' x' nH nB' hDl pw⟩
end
end DL

set_option Elab.async false
set_option linter.all false
set_option maxRecDepth 100000
set_option maxHeartbeats 4000000
/-! a law's own layer, forty-second part: an exception that leaves a comprehension's block -/
namespace DL
open PySem PySem.Spec PyProof.Rows L2
/-- noting depends on the frame alone -/
theorem note_frame {e : Value} {env env' : Env} (h : env.frame = env'.frame) : noteFrame e env = noteFrame e env' := by
  unfold noteFrame PySem.frameOf
  rw [h]
/-- what flies out of a call within the block -/
def Xf (X blk : Cx) (E : XK) : Value → Shared → Prop := fun u s' => ∃ (pins : List (Addr × Obj)) (σ : L2.St) (H : Hp) (s : Shared), Inv blk pins σ H s ∧ L2.CX X.prog X.w X.stack H s E u s'
theorem comp_raise {X : Cx} {pins : List (Addr × Obj)} {σ : L2.St} {H3 : Hp} {s3 s' : Shared} {scope : Scope} {ce : Env} {fp : List Addr} {E : XK} {u : Value}
    (hs : X.stack = X.env :: X.outer) (hf : X.env.frame = some X.env.locals) (hcf : ce.frame = X.env.frame) (cL : ce.locals = s3.heap.objs.size) (I3 : Inv X pins σ H3 s3) (f3 : ∀ b ∈ fp, FpOk X pins H3 b)
    (tk : Takes X fun cls d _ H => E cls d H) (x : Xf X (X.blk s3 H3 scope ce fp) E u s') :
    notedBy (model X.prog X.w) X.A ce (fun e s'' => CompFails (model X.prog X.w) X.A X.xe ce e s'') u s' := by
  obtain ⟨pins', σ', H, s, I, c⟩ := x
  have nC : H ce.locals = none := I.free
  have IX : Inv X pins σ H s := I3.call' (ch := fp) I.os I.base I.hok I.bare fun b hb => ⟨(f3 b hb).2.2.2.1, (f3 b hb).2.1, (f3 b hb).2.2.2.2.1, (f3 b hb).2.2.2.2.2⟩
  have fC : FpOk X pins H ce.locals := by rw [cL] at nC ⊢; exact I3.fpOk (Nat.le_refl _) nC
  obtain ⟨m, hn, _⟩ := I.loc
  have hn : s.heap.Ns ce.locals m := hn
  generalize hC : ce.locals = C at nC fC hn cL
  obtain ⟨f0, f1, f2, f3', f4, f5⟩ := fC
  have hCf : C ∉ frs X.stack := fun z => (List.mem_cons.mp (I3.stkSub C z)).elim f1 f2
  obtain ⟨a, B, H', cls, d, rfl, fl, hok, ub, na, os, ag, hE⟩ := c
  obtain ⟨st, hBa, hFF, hTr⟩ := fl
  obtain ⟨oC, es, ep, hoC, r⟩ := hn
  have hBC : B.get? C = some oC := ub.keep C oC hoC nC hCf
  have nC' : H' C = none := ub.free C oC hoC nC
  show wpAny _ _ (noteFrame (.ref a) ce) _ _ s'
  rw [note_frame hcf]
  refine HandSPX.looks_onZ (L := X.env.locals) Zc.steady (by rw [IX.ok.frames, hs]) hf ⟨st, hBa, hs ▸ hFF, hTr⟩ fun h1 hh1 up1 => ?_
  obtain ⟨st1, _, ff1, tr1⟩ := hh1
  refine ⟨m, ?_, fun h2 m' hn2 sb => ?_⟩
  · rw [hC]
    exact ⟨oC, es, ep, st1 C oC hBC, r⟩
  rw [hC] at sb
  -- the ground without the block's names
  have b1 : ∀ b o, (PySem.W.hideAll B [C]).get? b = some o → B.get? b = some o ∧ b ≠ C := fun b o e => ⟨PySem.W.of_hideAll _ e, fun z => by
    rw [z, PySem.W.hideAll_none [C] (List.mem_singleton.mpr rfl)] at e
    cases e⟩
  have b2 : ∀ b o, b ≠ C → B.get? b = some o → (PySem.W.hideAll B [C]).get? b = some o := fun b o hb e => PySem.W.hideAll_get _ e fun z => hb (List.mem_singleton.mp z)
  have b3 : ∀ b, B.get? b = none → (PySem.W.hideAll B [C]).get? b = none := fun b e => by
    cases q : (PySem.W.hideAll B [C]).get? b with
    | none => rfl
    | some o => rw [(b1 b o q).1] at e; cases e
  generalize PySem.W.hideAll B [C] = B' at b1 b2 b3
  have st2 : B'.StaysIn h2 := fun b o e => by
    obtain ⟨e1, e2⟩ := b1 b o e
    exact (sb.2 b e2).trans (st1 b o e1)
  have frB : ∀ b ∈ frs X.stack, B.get? b = none := fun b hb => (hFF.mem hb).1
  have frC : ∀ b ∈ frs X.stack, b ≠ C := fun b hb z => hCf (by rw [← z]; exact hb)
  have ff1' : h1.FunFrames B X.stack := by rw [hs]; exact ff1
  have ff2 : h2.FunFrames B' X.stack := by
    have key : ∀ (l : List Env), (∀ b ∈ frs l, b ≠ C) → h1.FunFrames B l → h2.FunFrames B' l := by
      intro l
      induction l with
      | nil => intro _ _; trivial
      | cons env l ih =>
        intro hl ⟨hk, ⟨L, o, hfr, hn', ho, hd⟩, hr⟩
        refine ⟨hk, ⟨L, o, hfr, b3 L hn', (sb.2 L (hl L (List.mem_filterMap.mpr ⟨env, List.mem_cons_self, hfr⟩))).trans ho, hd⟩, ih (fun b hb => hl b ?_) hr⟩
        obtain ⟨e, he, q⟩ := List.mem_filterMap.mp hb
        exact List.mem_filterMap.mpr ⟨e, List.mem_cons_of_mem _ he, q⟩
    exact key X.stack frC ff1'
  have haC : a ≠ C := fun z => by rw [z, hBC] at hBa; cases hBa
  have tr2 : HandSPX.TracedZ h2 B' a (Zc cls d) (rawInt X.env.locals) := by
    obtain ⟨oe, vs, T, oT, ts, he, hz, hd, h1', hnT, hTe, hT, hdT, h3⟩ := tr1
    have hTC : T ≠ C := fun z => by rw [z, hBC] at hnT; cases hnT
    exact ⟨oe, vs, T, oT, ts, (sb.2 a haC).trans he, hz, hd, h1', b3 T hnT, hTe, (sb.2 T hTC).trans hT, hdT, h3⟩
  obtain ⟨oe, vs, T, oT, ts, he, hz, hd, h1', hnT, hTe, hT, hdT, h3⟩ := id tr2
  have fin : wpAny (model X.prog X.w) X.A (setFlight (.ref a) ce.frame) (fun _ s₂ => wpAny (model X.prog X.w) X.A (throw (.ref a) : Sem Value) (fun _ _ => False) X.xe s₂) X.xe { s' with heap := h2 } := by
    rw [hcf, hf]
    refine HandSPX.setFlight_onZ (s := { s' with heap := h2 }) (base := B') (l := X.stack) (Z := Zc cls d) ⟨st2, b3 a hBa, ff2, tr2⟩ fun h' hh' up' => ?_
    refine wpAny_throw (tk _ _ ?_)
    obtain ⟨st', _, ff', tr'⟩ := id hh'
    -- the ground with the frames
    obtain ⟨Gr, g1, g2⟩ := restrict h' fun b => (B'.get? b).isSome || decide (b ∈ frs X.stack)
    have gB : ∀ b o, B'.get? b = some o → Gr.get? b = some o := fun b o e => by
      rw [g1 b (by simp [e])]
      exact st' b o e
    have gF : ∀ b, b ∈ frs X.stack → Gr.get? b = h'.get? b := fun b hb => g1 b (by simp [hb])
    have og : ∀ b o, Gr.get? b = some o → h'.get? b = some o ∧ ((B'.get? b).isSome = true ∨ b ∈ frs X.stack) := fun b o e => by
      cases q : ((B'.get? b).isSome || decide (b ∈ frs X.stack)) with
      | false => rw [g2 b q] at e; cases e
      | true =>
        rw [g1 b q] at e
        exact ⟨e, by simpa [Bool.or_eq_true] using q⟩
    have slots : ∀ b o, s.heap.get? b = some o → b ∈ frs X.stack → ∃ sl, h'.get? b = some { o with slots := sl } := fun b o e hb => by
      obtain ⟨_, o', e', hnf⟩ := IX.stack.mem hb
      rw [e] at e'; cases e'
      obtain ⟨sl1, q1⟩ := ub.slot b o e hb
      obtain ⟨sl2, q2⟩ := up1 b _ q1 hnf
      have q3 : h2.get? b = some { o with slots := sl2 } := (sb.2 b (frC b hb)).trans q2
      obtain ⟨sl3, q4⟩ := up' b _ q3 hnf
      exact ⟨sl3, q4⟩
    refine ⟨a, B', { s with heap := Gr, gens := s'.gens, drawn := s'.drawn, toks := s'.toks }, pins, σ, H', cls, d, rfl, ?_, fun b o e hb => ?_, Heap.UpToSlots.of_keeps fun b o e => (og b o e).1, .inr (.inr hh'), na, os, ag, hE⟩
    · refine IX.call (ch := [C]) ⟨fun b o e n hb hc => gB b o (b2 b o (fun z => hc (List.mem_singleton.mpr z)) (ub.keep b o e n hb)), fun b o e n hb _ => ?_, fun b o e n _ => ub.free b o e n, fun b o e hc => ?_, ub.tups, ub.frzs, ub.tbls⟩ ?_ ag fun b hb => ?_
      · obtain ⟨sl, q⟩ := slots b o e hb
        exact ⟨sl, by rw [gF b hb]; exact q⟩
      · have hc' : b ≠ C := fun z => hc (List.mem_singleton.mpr z)
        by_cases hb : b ∈ frs X.stack
        · obtain ⟨sl, q⟩ := slots b o e hb
          exact ⟨_, by rw [gF b hb]; exact q⟩
        · obtain ⟨o', q⟩ := ub.there b o e hb
          exact ⟨o', gB b o' (b2 b o' hc' q)⟩
      · intro b o q
        refine (hok b o q).stay (fun c u hc e => gB c u (b2 c u (fun z => ?_) e)) (fun _ r => r) fun _ _ r => r
        rcases hc with hc | hc
        · rw [← hc, z, nC'] at q; cases q
        · rw [z, nC'] at hc; cases hc
      · rw [List.mem_singleton.mp hb]
        exact ⟨f3', f1, f4, f5⟩
    · obtain ⟨e', h⟩ := og b o e
      rcases h with h | h
      · obtain ⟨o', q⟩ := Option.isSome_iff_exists.mp h
        have z := st' b o' q
        rw [e'] at z; cases z
        exact q
      · exact absurd h hb
  unfold PySem.passOn
  refine wpAny_bind (wpAny_field he hd h1' ?_)
  rw [if_neg (show ¬ ((Value.ref T == Value.none) = true) from by simp)]
  first
    | exact wpAny_bind (wpAny_pure (wpAny_bind fin))
    | exact wpAny_bind fin
end DL

set_option Elab.async false
set_option linter.all false
set_option maxRecDepth 100000
set_option maxHeartbeats 4000000
/-! a law's own layer, forty-third part: comprehensions whose element may raise -/
namespace DL
open PySem PySem.Spec PyProof.Rows L2
/-- the block's context, where calls may raise -/
abbrev blkX (X : Cx) (E : XK) (s : Shared) (H : Hp) (scope : Scope) (ce : Env) (fp : List Addr) : Cx := (X.blk s H scope ce fp).wish (Xf X (X.blk s H scope ce fp) E)
theorem passB {X : Cx} {E : XK} {s : Shared} {H : Hp} {scope : Scope} {ce : Env} {fp : List Addr} : Passes (L2.CX X.prog X.w) (blkX X E s H scope ce fp) E := fun pins σ H' s0 e s' I c => ⟨pins, σ, H', s0, I.unwish, c⟩
section
variable {X : Cx}
theorem lcX_core {E : XK} {pins : List (Addr × Obj)} {s : Shared} {σ : L2.St} {H : Hp} {Q : VK} {elt tg iter : Expr} {ifs : List Expr} {scope : Scope} {own : List (Str × Nat)} {pos pos' : Pos} {wi : TI} {g : TG} {tt : TT} {te : TE} {use : Option (Value → Sem Unit)} {Qf : Value → Shared → Prop}
    (hst : X.stack = X.env :: X.outer) (hfr : X.env.frame = some X.env.locals) (tk : Takes X fun cls d _ H => E cls d H)
    (hc : X.calm = true) (hN : X.N.Nodup) (I : Inv X pins σ H s) (hi : PI X tg iter wi) (ok : BlkOk X.N X.env.scope scope own)
    (hg : ∀ (s : Shared) (H : Hp) (C : Addr) (cl : List (Str × Addr)) (fp : List Addr), PG (X.blk s H scope (compEnvC scope cl C X.env) fp) tg g) (ht : ∀ (s : Shared) (H : Hp) (C : Addr) (cl : List (Str × Addr)) (fp : List Addr), PTs (X.blk s H scope (compEnvC scope cl C X.env) fp) ifs tt)
    (he : ∀ (s : Shared) (H : Hp) (C : Addr) (cl : List (Str × Addr)) (fp : List Addr), PE (blkX X E s H scope (compEnvC scope cl C X.env) fp) elt te) (hs : ∀ x, foldedSetIterable iter X.env x = pure x)
    (h : tLc wi g tt te (own.map (·.2)) σ H Q)
    (hRR : ∀ D ce s' m H', Inv X pins σ H' s' → Q (.ref D) H' → s'.heap.Ns ce.locals m → FpOk X pins H' ce.locals → compEnds (model X.prog X.w) X.A X.xe use Qf (.ref D) ce (.ok .next) s') :
    wpAny (model X.prog X.w) X.A (comprehension (.ListComp elt [⟨tg, iter, ifs, 0⟩] scope pos) scope X.env pos' (newList []) false (eval iter X.env) use) Qf X.xe s := by
  have hfree : ∀ y ∈ scope.names, y.2 = .free → ∃ c, X.env.cells.lookup y.1 = some c := fun y hy e => by
    rcases ok.free y hy e with k | k
    · exact I.ok.has _ (.inl k)
    · exact I.ok.has _ (.inr k)
  refine comprehension_at (use := use) rfl hs (closure_ok hfree) ok.kind (fun y hy e => by rw [ok.uniq y hy, e])
    (thn (hi.run pins s σ H _ I h) fun xv s1 hx => thn hx fun itv s2 h2 => ?_)
  obtain ⟨it, fp, tn, J, H2, e, I2, T, st2, f2, q⟩ := h2
  subst e
  refine wpAny_newObj_type (newEnv_comp ?_) (by show 0 ≤ sizeLine; decide)
  generalize hD : s2.heap.objs.size = D
  have hDn : H2 D = none := I2.hok.fresh (Nat.le_of_eq hD)
  obtain ⟨W, ⟨m0, w0⟩, turn⟩ := q D hDn
  generalize hs3 : ({ s2 with heap := s2.heap.push { cls := .type "list", data := .seq ([] : List Value).toArray } } : Shared) = s3
  have I3 : Inv X pins σ (upd H2 D (.lst [])) s3 := by
    rw [← hs3]
    refine I2.laid (t' := s2.toks) (fun b o e => Heap.get?_push_of_some _ e) (Nat.le_of_eq hD) ⟨Nat.zero_le _, [], 0, .nil, ?_⟩
    rw [← hD]
    exact Heap.get?_push_size _ rfl
  have h3 : s3.heap = s2.heap.push { cls := .type "list", data := .seq ([] : List Value).toArray } := by rw [← hs3]
  have sz : ∀ b ∈ fp, b < s2.heap.objs.size := fun b hb => by
    obtain ⟨o, e, _⟩ := T.obj _ _ st2 b hb
    exact Heap.lt_size e
  have f3 : ∀ b ∈ fp, FpOk X pins (upd H2 D (.lst [])) b ∧ b < s3.heap.objs.size := fun b hb => by
    have hlt := sz b hb
    refine ⟨⟨?_, (f2 b hb).2⟩, by rw [h3, Heap.size_push]; exact Nat.lt_succ_of_lt hlt⟩
    rw [upd_ne (by rw [← hD]; exact Nat.ne_of_lt hlt)]
    exact (f2 b hb).1
  have st3 : tn 0 s3.heap := T.keep _ _ _ st2 fun b _ o e => by rw [h3]; exact Heap.get?_push_of_some _ e
  have I4 := block_start I3 ok hN f3
  have pg := hg s3 (upd H2 D (.lst [])) s3.heap.objs.size (cellsFrom (s3.heap.objs.size + 1) scope.names (cloFrom X.env.cells scope.names [])) fp
  have pt := ht s3 (upd H2 D (.lst [])) s3.heap.objs.size (cellsFrom (s3.heap.objs.size + 1) scope.names (cloFrom X.env.cells scope.names [])) fp
  have pe := he s3 (upd H2 D (.lst [])) s3.heap.objs.size (cellsFrom (s3.heap.objs.size + 1) scope.names (cloFrom X.env.cells scope.names [])) fp
  show codeAny _ _ (.compStart (.ListComp elt [⟨tg, iter, ifs, 0⟩] scope pos) 0 (.ref it) (.ref D) (compEnvC scope (cellsFrom (s3.heap.objs.size + 1) scope.names (cloFrom X.env.cells scope.names [])) s3.heap.objs.size X.env)) (compEnds (model X.prog X.w) X.A X.xe use Qf (.ref D) (compEnvC scope (cellsFrom (s3.heap.objs.size + 1) scope.names (cloFrom X.env.cells scope.names [])) s3.heap.objs.size X.env)) { s3 with heap := pushCells (s3.heap.push { cls := .type "dict", data := .dict #[] }) scope.names }
  have nfp : ∀ b ∈ fp, (upd H2 D (.lst [])) b = none := fun b hb => (f3 b hb).1.1
  generalize hce : compEnvC scope (cellsFrom (s3.heap.objs.size + 1) scope.names (cloFrom X.env.cells scope.names [])) s3.heap.objs.size X.env = ce at I4 pg pt pe ⊢
  have cL : ce.locals = s3.heap.objs.size := by subst hce; rfl
  have cF : ce.frame = X.env.frame := by subst hce; rfl
  generalize hH3 : upd H2 D (.lst []) = H3 at I3 I4 pg pt pe w0 nfp f3
  generalize hs4 : ({ s3 with heap := pushCells (s3.heap.push { cls := .type "dict", data := .dict #[] }) scope.names } : Shared) = s4 at I4 ⊢
  have st4 : tn 0 s4.heap := T.keep _ _ _ st3 fun b _ o e => by rw [← hs4]; exact pushCells_keeps _ _ _ _ (Heap.get?_push_of_some _ e)
  have stat : ∀ {σ' : L2.St} {H' : Hp} {s' : Shared}, Inv (X.blk s3 H3 scope ce fp) [] σ' H' s' → (∀ b ∈ fp, H' b = none) → ∀ b ∈ fp, FpOk (X.blk s3 H3 scope ce fp) [] H' b := fun {σ' H' s'} I' hn b hb =>
    ⟨hn b hb, (I'.ok.exf b hb).1, I'.ok.exfs b hb, .inl hb, fun x c e => (I'.ok.exf b hb).2 x c e, fun p hp => absurd (show p ∈ ([] : List (Addr × Obj)) ++ [] from hp) (by simp)⟩
  have rais : ∀ {u : Value} {s' : Shared}, Xf X (X.blk s3 H3 scope ce fp) E u s' → notedBy (model X.prog X.w) X.A ce (fun e s'' => compEnds (model X.prog X.w) X.A X.xe use Qf (.ref D) ce (.error e) s'') u s' := fun {u s'} x => by
    have z := comp_raise hst hfr cF cL I3 (fun b hb => (f3 b hb).1) tk x
    refine wpAny_mono z (fun _ s'' k => ?_) fun _ _ k => ?_
    · cases use <;> exact k
    · cases use <;> exact k
  have loop : codeAny (model X.prog X.w) X.A (.compLoop (.ListComp elt [⟨tg, iter, ifs, 0⟩] scope pos) 0 (.ref it) (.ref D) ce) (compEnds (model X.prog X.w) X.A X.xe use Qf (.ref D) ce) s4 := by
    refine compLoop_any (fun n s' => ∃ i H', Inv (X.blk s3 H3 scope ce fp) [] (wipe σ (own.map (·.2))) H' s' ∧ tn i s'.heap ∧ (∀ b ∈ fp, H' b = none) ∧ W i n H') ?_ m0 ⟨0, H3, I4, st4, nfp, w0⟩
    rintro n s5 ⟨i, H5, I5, st5, n5, w5⟩
    rcases turn i n H5 w5 with ⟨stop, qq⟩ | ⟨go, Nx, hNx, step⟩
    · have td := T.done (X.blk s3 H3 scope ce fp) rfl rfl rfl hc i [] s5 _ H5 (fun _ _ => False) I5 (stat I5 n5) st5 stop
      refine thnF td fun r s6 ⟨hr, I6⟩ => ?_
      subst hr
      have I7 : Inv X pins σ H5 s6 := I3.call' (ch := fp) I6.os I6.base I6.hok I6.bare fun b hb => ⟨(f3 b hb).1.2.2.2.1, (f3 b hb).1.2.1, (f3 b hb).1.2.2.2.2.1, (f3 b hb).1.2.2.2.2.2⟩
      have nC : H5 ce.locals = none := I6.free
      obtain ⟨m, hn, _⟩ := I6.loc
      have hn : s6.heap.Ns ce.locals m := hn
      exact hRR D ce s6 m H5 I7 qq hn (by rw [cL] at nC ⊢; exact I3.fpOk (Nat.le_refl _) nC)
    · have ti := T.item (X.blk s3 H3 scope ce fp) rfl rfl rfl hc i [] s5 _ H5 (fun _ _ => False) I5 (stat I5 n5) st5 go
      refine thnF ti fun r s6 ⟨u, hr, h6⟩ => ?_
      subst hr
      refine thnF h6 fun _ s7 ⟨x, H7, I7, r7, y7, st7, n7⟩ => ?_
      have I7' := I7.pinned (stat I7 n7) (T.obj _ _ st7)
      refine thnF (pg.run _ s7 _ H7 x u _ I7' r7 (step x H7 y7)) fun _ s8 ⟨σ8, H8, I8, hw8, q8⟩ => ?_
      refine thnF (pt.run _ s8 σ8 H8 _ I8 q8) fun b s9 ⟨H9, I9, q9⟩ => ?_
      have fin : ∀ {s' : Shared} {H' : Hp}, Inv (X.blk s3 H3 scope ce fp) ([] ++ pinsAt fp s7.heap) σ8 H' s' → Nx H' → ∃ m, m < n ∧ ∃ i H', Inv (X.blk s3 H3 scope ce fp) [] (wipe σ (own.map (·.2))) H' s' ∧ tn i s'.heap ∧ (∀ b ∈ fp, H' b = none) ∧ W i m H' := fun {s' H'} I' nx => by
        obtain ⟨m', hm, w'⟩ := hNx H' nx
        have pin' : ∀ b ∈ fp, ∀ o, s7.heap.get? b = some o → s'.heap.get? b = some o ∧ H' b = none := fun b hb o e =>
          let z := I'.pin (b, o) (List.mem_append_right _ (List.mem_append_right _ (mem_pinsAt hb e)))
          ⟨z.1, z.2.1⟩
        have hl : (wipe σ (own.map (·.2))).length = σ8.length := by rw [← hw8, wipe_length]
        refine ⟨m', hm, i + 1, H', (I'.unpinned (pins := [])).weak hl (fun j v e => ?_), T.keep _ _ _ st7 fun b hb o e => (pin' b hb o e).1, fun b hb => ?_, w'⟩
        · rw [← hw8] at e
          exact (wipe_some e).1
        · obtain ⟨o, e, _⟩ := T.obj _ _ st7 b hb
          exact (pin' b hb o e).2
      cases b with
      | false =>
        simp only [Bool.false_eq_true, if_false] at q9 ⊢
        exact fin I9 q9
      | true =>
        simp only [if_true] at q9 ⊢
        refine wpAny_mono (pe.run _ s9 σ8 H9 _ (I9.wish _) q9) (fun z s10 ⟨yv, H10, I10, r10, acc, hD10, hz10, nx⟩ => ?_) fun _ _ x => rais x
        exact app_ok (X := X.blk s3 H3 scope ce fp) I10.unwish hD10 hz10 r10 fun s11 I11 => fin I11 nx
  exact codeAny_compStart_list loop (T.self X.A 0 _ _ _ st4 loop)
theorem pe_lcX {E : XK} {elt tg iter : Expr} {ifs : List Expr} {scope : Scope} {own : List (Str × Nat)} {pos : Pos} {wi : TI} {g : TG} {tt : TT} {te : TE} (hst : X.stack = X.env :: X.outer) (hfr : X.env.frame = some X.env.locals) (tk : Takes X fun cls d _ H => E cls d H) (hc : X.calm = true) (hN : X.N.Nodup) (hi : PI X tg iter wi) (ok : BlkOk X.N X.env.scope scope own)
    (hg : ∀ (s : Shared) (H : Hp) (C : Addr) (cl : List (Str × Addr)) (fp : List Addr), PG (X.blk s H scope (compEnvC scope cl C X.env) fp) tg g) (ht : ∀ (s : Shared) (H : Hp) (C : Addr) (cl : List (Str × Addr)) (fp : List Addr), PTs (X.blk s H scope (compEnvC scope cl C X.env) fp) ifs tt)
    (he : ∀ (s : Shared) (H : Hp) (C : Addr) (cl : List (Str × Addr)) (fp : List Addr), PE (blkX X E s H scope (compEnvC scope cl C X.env) fp) elt te) (hs : ∀ x, foldedSetIterable iter X.env x = pure x := by intro _; rfl) :
    PE X (.ListComp elt [⟨tg, iter, ifs, 0⟩] scope pos) (tLc wi g tt te (own.map (·.2))) := by
  refine ⟨fun pins s σ H Q I h => ?_⟩
  rw [eval_ListComp]
  refine lcX_core hst hfr tk hc hN I hi ok hg ht he hs h fun D ce s' m H' I' q hn f => ⟨m, hn, fun h'' sb => ?_⟩
  obtain ⟨f0, f1, f2, f3, f4, f5⟩ := f
  exact ⟨.ref D, H', I'.turned (t' := s'.toks) (fun b o hb e => (sb.2 b hb).trans e) f0 f1 f3 f4 f5, rfl, q⟩
theorem ps_setLcX {E : XK} {i : Nat} {y : Str} {py : Pos} {elt tg iter : Expr} {ifs : List Expr} {scope : Scope} {own : List (Str × Nat)} {pos spos : Pos} {wi : TI} {g : TG} {tt : TT} {te : TE} (hst : X.stack = X.env :: X.outer) (hfr : X.env.frame = some X.env.locals) (tk : Takes X fun cls d _ H => E cls d H) (hc : X.calm = true) (hN : X.N.Nodup) (hy : X.N[i]? = some y) (hyl : X.env.scope.names.lookup y = some .local)
    (hsw : swapsWith (.ListComp elt [⟨tg, iter, ifs, 0⟩] scope pos) (some (.Name y py)) spos.line X.env = pure true) (hi : PI X tg iter wi) (ok : BlkOk X.N X.env.scope scope own)
    (hg : ∀ (s : Shared) (H : Hp) (C : Addr) (cl : List (Str × Addr)) (fp : List Addr), PG (X.blk s H scope (compEnvC scope cl C X.env) fp) tg g) (ht : ∀ (s : Shared) (H : Hp) (C : Addr) (cl : List (Str × Addr)) (fp : List Addr), PTs (X.blk s H scope (compEnvC scope cl C X.env) fp) ifs tt)
    (he : ∀ (s : Shared) (H : Hp) (C : Addr) (cl : List (Str × Addr)) (fp : List Addr), PE (blkX X E s H scope (compEnvC scope cl C X.env) fp) elt te) (hs : ∀ x, foldedSetIterable iter X.env x = pure x := by intro _; rfl) :
    PS X (.Assign [.Name y py] (.ListComp elt [⟨tg, iter, ifs, 0⟩] scope pos) spos) (tAsg (tLc wi g tt te (own.map (·.2))) (gName i)) := by
  refine ⟨fun pins s σ H D I h => ?_⟩
  rw [exec_Assign_Name_used _ _ _ _ hsw]
  refine wpAny_bind (wpAny_standAt (wpAny_bind ?_))
  show wpAny _ X.A (do let _ ← comprehension (.ListComp elt [⟨tg, iter, ifs, 0⟩] scope pos) scope X.env (firstIterPos [⟨tg, iter, ifs, 0⟩] pos) (newList []) false (eval iter X.env) (some (assign (.Name y py) X.env))) _ _ s
  have h : tLc wi g tt te (own.map (·.2)) σ H (fun x H1 => gName i x σ H1 D.nx) := h
  refine wpAny_bind (thn (lcX_core (Qf := fun _ s' => SP X pins D .next s') hst hfr tk hc hN I hi ok hg ht he hs h fun L ce s' m H' I' q hn f => ?_) fun _ s' hq => wpAny_pure (wpAny_pure hq))
  show wpAny _ _ (assign (.Name y py) X.env (.ref L)) _ _ _
  refine wpAny_assign_Name (store_ok2 (v := V.ref L) I' hN hy (.inl hyl) rfl (fun s2 I2 ⟨a, sb, ha⟩ => ?_) (.inr hyl))
  obtain ⟨f0, f1, f2, f3, f4, f5⟩ := f
  have haC : ce.locals ≠ a := by
    rcases ha with z | z
    · rw [z]; exact f1
    · exact fun e => f4 y a z e.symm
  refine ⟨m, hn.sameBut sb haC, fun h3 sb3 => ?_⟩
  exact ⟨_, H', I2.turned (t' := s2.toks) (fun b o hb e => (sb3.2 b hb).trans e) f0 f1 f3 f4 f5, q⟩
end
end DL

set_option Elab.async false
set_option linter.all false
set_option maxRecDepth 100000
set_option maxHeartbeats 4000000
/-! a law's own layer, forty-fourth part: comprehensions that raise, plainly; a def of an owned answer that raises within a try -/
namespace DL
open PySem PySem.Spec PyProof.Rows L2
section
variable {G : Cn} {T : List Ty} {D : Ends} {te ta tb : TE} {α β : Type} {r : Rp α}
/-- [e for .. in xs]: the element at k raises, none ahead of it -/
theorem ex_lcA {δ : Type} [r2 : Rp δ] {wi : TI} {g : TG} {vs : List Nat} {xs : List α} {x : α} {W : Hp → Prop} (f : α → δ) (k : Nat) (hi : EvI G wi T r xs) (ho : Own g vs)
    (hs : ∀ y, y ∈ xs.take k → ∃ T2, EvG G g (wipeT T vs) r y T2 ∧ EvD G te T2 r2 (f y)) (hk : xs[k]? = some x) (hx : ∃ T2, EvG G g (wipeT T vs) r x T2 ∧ EvX G te T2 W) (hz : xs.length ≤ 90000) :
    EvX G (tLc wi g tYes te vs) T W := fun B H σ fr hw Q => hi B H σ fr _ fun J B1 H1 x1 ok => by
  refine fun Dl hD => ?_
  have nD : H Dl = none := x1.h.free hD
  have nB : B1 Dl = none := x1.s.free hD
  have x1' : Ext B H B1 (upd H1 Dl (.lst [])) := x1.trans (upd_extN x1.s hD)
  have hkl := (List.getElem?_eq_some_iff.mp hk).1
  refine ⟨fun i m H' => m = k - i ∧ i ≤ k ∧ ∃ B' ws, Ext B H B' H' ∧ Same B1 B' ∧ B' Dl = none ∧ H' Dl = some (.lst ws) ∧ Paired (r2.rp G.K B') ((xs.take i).map f) ws,
    ⟨k, rfl, Nat.zero_le _, B1, [], x1', Same.refl _, nB, upd_same, by rw [List.take_zero]; exact .nil⟩, ?_⟩
  rintro i m H' ⟨rfl, hle, B', ws, x', s1, nB', hDl, pw⟩
  have hlt : i < xs.length := by omega
  have ex : xs[i]? = some xs[i] := List.getElem?_eq_getElem hlt
  refine .inr ⟨ok.go B' H' i _ s1 x'.s ex, fun H3 => i < k ∧ ∃ B3 ws3, Ext B H B3 H3 ∧ Same B1 B3 ∧ B3 Dl = none ∧ H3 Dl = some (.lst ws3) ∧ Paired (r2.rp G.K B3) ((xs.take (i + 1)).map f) ws3, fun H3 h3 => ⟨k - (i + 1), by omega, rfl, by omega, h3.2⟩, fun v H2 y => ?_⟩
  obtain ⟨B2, x2, rv⟩ := ok.yld B' H' i _ v H2 s1 x'.s ex y
  have fr2 : Fr G B2 H2 (L2.wipe σ vs) (wipeT T vs) := ((fr.ext x').ext x2).wipe vs
  by_cases hik : i = k
  · subst hik
    rw [ex] at hk
    cases hk
    obtain ⟨T2, hg, he⟩ := hx
    refine ho v _ H2 (fun σ2 H4 => H4 = H2 ∧ Fr G B2 H2 σ2 T2) _ (fun σ2 hw2 hq => ?_) (hg B2 H2 _ v fr2 rv _ fun σ2 f2 => ⟨rfl, f2⟩)
    obtain ⟨_, f2⟩ := hq
    exact ⟨by rw [hw2, wipe_wipe], et_yes B2 H2 σ2 f2 _ fun B5 H5 x5 => iteT (he B5 H5 σ2 (f2.ext x5) hw _)⟩
  · obtain ⟨T2, hg, he⟩ := hs xs[i] (by
      rw [List.mem_take_iff_getElem]
      exact ⟨i, by omega, rfl⟩)
    have etk : xs.take (i + 1) = xs.take i ++ [xs[i]] := by rw [List.take_add_one, ex] <;> rfl
    refine ho v _ H2 (fun σ2 H4 => H4 = H2 ∧ Fr G B2 H2 σ2 T2) _ (fun σ2 hw2 hq => ?_) (hg B2 H2 _ v fr2 rv _ fun σ2 f2 => ⟨rfl, f2⟩)
    obtain ⟨_, f2⟩ := hq
    refine ⟨by rw [hw2, wipe_wipe], et_yes B2 H2 σ2 f2 _ fun B5 H5 x5 => ?_⟩
    have hD5 : H5 Dl = some (.lst ws) := x5.h _ _ (x2.h _ _ hDl)
    have x25 := x2.trans x5
    have nB5 : B5 Dl = none := x25.none hDl nB'
    refine iteT (he B5 H5 σ2 (f2.ext x5) _ fun w B6 H6 x6 rw6 => ?_)
    have x26 := x25.trans x6
    have nB6 : B6 Dl = none := x26.none hDl nB'
    have hl : ws.length < 100000 := by
      rw [← Paired.length pw, List.length_map]
      have h2 := List.length_take_le i xs
      omega
    refine ⟨ws, x6.h _ _ hD5, sz_lt hl, by omega, B6, ws ++ [w], ⟨(x'.trans x26).b, fun b o e => ?_, fun b o e => ?_, (x'.trans x26).n⟩, s1.trans x26.b, nB6, upd_same, ?_⟩
    · rw [upd_ne (ne_of_none e nD)]; exact (x'.trans x26).h b o e
    · rw [upd_ne (ne_of_none e nB6)]; exact x26.s b o e
    · rw [etk, List.map_append]
      exact paired_append (paired_mono x26.b pw) (.cons rw6 .nil)
/-- the iterator's list raises -/
theorem ex_lcI {W : Hp → Prop} {g : TG} {tt : TT} {tel : TE} {vs : List Nat} {rr : List V → Hp → VK → Prop} (h : EvX G te T W) : EvX G (tLc (iList G.K (tCB rr (tCons te tNil))) g tt tel vs) T W := fun B H σ fr w Q => h B H σ fr w _
theorem ex_callTW {ι : Type} {As : ι → List Ty} {pre : ι → Prop} [ra : Rp α] {w : Ox α} {f : ι → Except Addr α} {E : L2.St → XK} {tr : TA} {x : ι} {C : Addr} (ha : EvAH G tr T (As x)) (hp : pre x) (hf : f x = .error C) : EvXT G (tCallS (SpW G.K As pre w f) E tr) T (fun σ H => E σ (.ref C) none H) := fun k B H σ fr Q => ha B H σ fr _ fun vs B1 H1 x1 ok =>
  ⟨H1, x, Same.refl _, hp, ok, fun b' e => (by rw [hf] at e; cases e), fun C' e H' s => by rw [hf] at e; cases e; exact k B1 H' σ ((fr.ext x1).ext (Ext.raise x1.s s))⟩
/-- a datum of a told form -/
theorem g_ofDA [ra : Rp α] [t : ToD α] {i : Nat} {a : α} {k : L2.St → Hp → Prop} (hi : T[i]? = some (.im rpD (ToD.d a))) (q : Goes G (T.set i (.im ra a)) k) : Goes G T k := g_as (r := rpD) (r' := ra) (b := a) hi (fun h => ToD.pr h) q
end
end DL

set_option Elab.async false
set_option linter.all false
set_option maxRecDepth 100000
set_option maxHeartbeats 4000000
/-! a law's own layer, forty-fifth part: the table of a set, up to 512 slots, as unlike things are put in (nothing is ever taken out): it has an empty slot on every way, and is laid anew larger -/
namespace DL
open PySem PySem.Spec PyProof.Rows L2
/-- how large it is -/
def Msk (m : Nat) : Prop := m = 7 ∨ m = 31 ∨ m = 127 ∨ m = 511
/-! every slot is met by i -> 5 i + 1: the slots that are met as the bits of one number -/
def metB (m : Nat) : Nat → Nat
  | 0 => 0
  | n + 1 => metB m n ||| 2 ^ lcgN m n
theorem metB_bit (m : Nat) : ∀ n j, (metB m n).testBit j = true → ∃ b, b < n ∧ lcgN m b = j
  | 0, j, h => by rw [show metB m 0 = 0 from rfl, Nat.zero_testBit] at h; cases h
  | n + 1, j, h => by
    rw [show metB m (n + 1) = metB m n ||| 2 ^ lcgN m n from rfl, Nat.testBit_or, Bool.or_eq_true] at h
    rcases h with h | h
    · obtain ⟨b, hb, e⟩ := metB_bit m n j h
      exact ⟨b, Nat.lt_succ_of_lt hb, e⟩
    · rw [Nat.testBit_two_pow, decide_eq_true_eq] at h
      exact ⟨n, Nat.lt_succ_self n, h⟩
/-- the same, the last one handed on -/
def metG (m : Nat) : Nat → Nat → Nat → Nat
  | 0, _, acc => acc
  | n + 1, x, acc => metG m n ((x * 5 + 1) % (m + 1)) (acc ||| 2 ^ x)
theorem metG_is (m : Nat) : ∀ n k, metG m n (lcgN m k) (metB m k) = metB m (k + n)
  | 0, k => rfl
  | n + 1, k => by
    show metG m n (lcgN m (k + 1)) (metB m (k + 1)) = _
    rw [metG_is m n (k + 1), show k + 1 + n = k + (n + 1) by omega]
def lastG (m : Nat) : Nat → Nat → Nat
  | 0, x => x
  | n + 1, x => lastG m n ((x * 5 + 1) % (m + 1))
theorem lastG_is (m : Nat) : ∀ n k, lastG m n (lcgN m k) = lcgN m (k + n)
  | 0, k => rfl
  | n + 1, k => by
    show lastG m n (lcgN m (k + 1)) = _
    rw [lastG_is m n (k + 1), show k + 1 + n = k + (n + 1) by omega]
theorem met7 : metG 7 8 0 0 = 2 ^ 8 - 1 := by decide +kernel
theorem met31 : metG 31 32 0 0 = 2 ^ 32 - 1 := by decide +kernel
theorem met127 : metG 127 128 0 0 = 2 ^ 128 - 1 := by decide +kernel
theorem met511 : metG 511 512 0 0 = 2 ^ 512 - 1 := by decide +kernel
theorem met_all {m : Nat} (hm : Msk m) {j : Nat} (hj : j ≤ m) : ∃ b, b ≤ m ∧ lcgN m b = j := by
  have key : metG m (m + 1) 0 0 = 2 ^ (m + 1) - 1 → ∃ b, b ≤ m ∧ lcgN m b = j := fun h => by
    have h1 := metG_is m (m + 1) 0
    rw [show lcgN m 0 = 0 from rfl, show metB m 0 = 0 from rfl, h, Nat.zero_add] at h1
    obtain ⟨b, hb, e⟩ := metB_bit m (m + 1) j (by rw [← h1, Nat.testBit_two_pow_sub_one, decide_eq_true_eq]; omega)
    exact ⟨b, by omega, e⟩
  rcases hm with e | e | e | e
  · subst e; exact key met7
  · subst e; exact key met31
  · subst e; exact key met127
  · subst e; exact key met511
theorem met_round {m : Nat} (hm : Msk m) : lcgN m (m + 1) = 0 := by
  have h := lastG_is m (m + 1) 0
  rw [Nat.zero_add] at h
  rw [← h, show lcgN m 0 = 0 from rfl]
  rcases hm with e | e | e | e <;> subst e <;> decide +kernel
theorem met_mod {m : Nat} (hm : Msk m) : ∀ k, lcgN m (m + 1 + k) = lcgN m k
  | 0 => met_round hm
  | k + 1 => by
    show (lcgN m (m + 1 + k) * 5 + 1) % (m + 1) = (lcgN m k * 5 + 1) % (m + 1)
    rw [met_mod hm k]
theorem met_from {m : Nat} (hm : Msk m) {i j : Nat} (hi : i ≤ m) (hj : j ≤ m) : ∃ k, k ≤ m ∧ lcgI m i k = j := by
  obtain ⟨a, ha, rfl⟩ := met_all hm hi
  obtain ⟨b, hb, rfl⟩ := met_all hm hj
  by_cases c : a ≤ b
  · exact ⟨b - a, by omega, by rw [lcgN_add, show a + (b - a) = b by omega]⟩
  · exact ⟨b + (m + 1) - a, by omega, by rw [lcgN_add, show a + (b + (m + 1) - a) = m + 1 + b by omega, met_mod hm]⟩
theorem runs_meet {m : Nat} (hm : Msk m) (h : Int) {j : Nat} (hj : j ≤ m) : ∃ n, n ≤ m + 12 ∧ runI m (SetTable.bits h) n = j := by
  obtain ⟨k, hk, e⟩ := met_from hm (runI_le m (SetTable.bits h) 12) hj
  exact ⟨12 + k, by omega, (runI_tail (bits_lt h) k).trans e⟩
theorem way_meets {m : Nat} (hm : Msk m) (h : Int) {j : Nat} (hj : j ≤ m) : ∃ k, k < 10 * SetTable.turns m ∧ way m h k = j := by
  obtain ⟨n, hn, e⟩ := runs_meet hm h hj
  obtain ⟨k, hk, e2⟩ := run_nth m (SetTable.bits h) n
  exact ⟨k, by unfold SetTable.turns; omega, (congrArg SetTable.Probe.j e2).trans e⟩
theorem way_in (m : Nat) (h : Int) (k : Nat) : way m h k ≤ m := by
  have hi : SetTable.bits h % (m + 1) ≤ m := Nat.le_of_lt_succ (Nat.mod_lt _ (Nat.succ_pos _))
  have r := runEnd_bd hi
  have q := nth_in (m := m) k (runAt m (SetTable.bits h % (m + 1)) (SetTable.bits h)) (by
    show SetTable.bits h % (m + 1) + (SetTable.runEnd m (SetTable.bits h % (m + 1)) - SetTable.bits h % (m + 1)) ≤ m
    omega)
  exact Nat.le_trans (Nat.le_add_right _ _) q
theorem msk_odd {m : Nat} (h : Msk m) : m % 2 = 1 := by rcases h with e | e | e | e <;> subst e <;> rfl
/-- n things sit in the table -/
structure Tb (t : SetTable) (n : Nat) : Prop where
  ris : Ris t.place.toList
  dm : t.dummies = #[]
  sz : t.place.size = n
  msk : Msk t.mask
  bd : ∀ x ∈ t.place.toList, x ≤ t.mask
theorem Tb.first {t : SetTable} {n : Nat} (T : Tb t n) (hl : n ≤ t.mask) (h : Int) : ∃ K, K < 10 * SetTable.turns t.mask ∧ way t.mask h K ∉ t.place.toList ∧ ∀ k, k < K → way t.mask h k ∈ t.place.toList := by
  obtain ⟨j, hj, hn⟩ := st_missing t.place.toList (t.mask + 1) (by rw [Array.length_toList, T.sz]; omega)
  obtain ⟨k, hk, e⟩ := way_meets T.msk h (Nat.le_of_lt_succ hj)
  obtain ⟨K, h1, h2, h3⟩ := st_least (p := fun k => way t.mask h k ∉ t.place.toList) k (by show way t.mask h k ∉ _; rw [e]; exact hn)
  exact ⟨K, Nat.lt_of_le_of_lt h1 hk, h2, fun k' hk' => Classical.byContradiction fun c => h3 k' hk' c⟩
theorem Tb.put {t : SetTable} {n j : Nat} (T : Tb t n) (hj : j ∉ t.place.toList) (hm : j ≤ t.mask) : Tb (t.put j).1 (n + 1) ∧ (t.put j).1.mask = t.mask ∧ (t.put j).1.led = t.led ∧ (t.put j).1.plain = t.plain ∧ (t.put j).1.fill = n + 1 ∧ (t.put j).2 = SetTable.below t.place j ∧ SetTable.below t.place j ≤ n := by
  obtain ⟨c1, _, _⟩ := below_cut T.ris j
  have hp : SetTable.below t.place j ≤ t.place.toList.length := by rw [Array.length_toList]; exact c1
  have hsz : (t.put j).1.place.size = n + 1 := by
    rw [← Array.length_toList, put_place t j, len_ins _ hp, Array.length_toList, T.sz]
  refine ⟨⟨ris_insert T.ris fun e => hj (List.mem_of_getElem? (by rw [Array.getElem?_toList]; exact e)), put_dm T.dm j, hsz, T.msk, fun x hx => ?_⟩, rfl, rfl, rfl, ?_, rfl, by rw [← T.sz]; exact c1⟩
  · rw [put_place t j] at hx
    rcases mem_ins.1 hx with z | z
    · rw [z]; exact hm
    · exact T.bd x z
  · show (t.put j).1.place.size + (t.put j).1.dummies.size = n + 1
    rw [hsz, put_dm T.dm j]
    rfl
/-! laid anew -/
/-- the first n things have their slots -/
structure Ows (m n : Nat) (owner : Array (Option Nat)) : Prop where
  sz : owner.size = m + 1
  all : ∀ k, k < n → ∃ j, j ≤ m ∧ oAt owner j = some k
  ps : ∃ ps : List Nat, ps.length = n ∧ ∀ j, j ≤ m → oAt owner j ≠ none → j ∈ ps
theorem Ows.zero (m : Nat) : Ows m 0 (Array.replicate (m + 1) none) := ⟨by simp, fun k hk => absurd hk (Nat.not_lt_zero _), [], rfl, fun j hj e => absurd (oAt_init hj) e⟩
theorem free_at {m : Nat} (hm : Msk m) (owner : Array (Option Nat)) (h : Int) {j : Nat} (hj : j ≤ m) (hf : oAt owner j = none) :
    ∃ j', j' ≤ m ∧ SetTable.layClean.free m owner (SetTable.turns m) (SetTable.bits h % (m + 1)) (SetTable.bits h) = some j' ∧ oAt owner j' = none := by
  obtain ⟨n, hn, e⟩ := runs_meet hm h hj
  have hw : way m h (off m (SetTable.bits h % (m + 1)) (SetTable.bits h) n) = j := by
    show (nth m (runAt m (SetTable.bits h % (m + 1)) (SetTable.bits h)) (off m (SetTable.bits h % (m + 1)) (SetTable.bits h) n)).j = j
    rw [nth_off, itL_run]
    exact e
  obtain ⟨K, k1, k2, k3⟩ := st_least (p := fun k => oAt owner (way m h k) = none) _ (by show oAt owner (way m h _) = none; rw [hw]; exact hf)
  have k2 : oAt owner (way m h K) = none := k2
  refine ⟨way m h K, way_in m h K, free_spec m owner (SetTable.turns m) n _ _ K (by unfold SetTable.turns; omega) k1 (fun k hk => ?_) (by show (oAt owner (way m h K)).isNone = true; rw [k2]; rfl), k2⟩
  show (oAt owner (way m h k)).isNone = false
  cases z : oAt owner (way m h k) with
  | none => exact absurd z (k3 k hk)
  | some _ => rfl
theorem Ows.step {m n : Nat} (hm : Msk m) {owner : Array (Option Nat)} (W : Ows m n owner) (hl : n ≤ m) (h : Int) :
    ∃ j, SetTable.layClean.free m owner (SetTable.turns m) (SetTable.bits h % (m + 1)) (SetTable.bits h) = some j ∧ Ows m (n + 1) (owner.setIfInBounds j (some n)) := by
  obtain ⟨ps, hps, hin⟩ := W.ps
  obtain ⟨j0, h0, hn0⟩ := st_missing ps (m + 1) (by omega)
  have hj0 : oAt owner j0 = none := Classical.byContradiction fun c => hn0 (hin j0 (Nat.le_of_lt_succ h0) c)
  obtain ⟨j, hjm, e1, e2⟩ := free_at hm owner h (Nat.le_of_lt_succ h0) hj0
  have hself := oAt_set_self (owner := owner) (j := j) (some n) (by rw [W.sz]; omega)
  refine ⟨j, e1, by rw [Array.size_setIfInBounds]; exact W.sz, fun k hk => ?_, j :: ps, by rw [List.length_cons, hps], fun i hi e => ?_⟩
  · by_cases c : k = n
    · rw [c]; exact ⟨j, hjm, hself⟩
    · obtain ⟨i, hi, e⟩ := W.all k (by omega)
      exact ⟨i, hi, by rw [oAt_set_ne _ fun z => by rw [z, e2] at e; cases e]; exact e⟩
  · by_cases c : i = j
    · rw [c]; exact List.mem_cons_self
    · rw [oAt_set_ne _ c] at e
      exact List.mem_cons_of_mem _ (hin i hi e)
theorem fold_at {m : Nat} (hm : Msk m) : ∀ (hs : List Int) (n : Nat) (owner : Array (Option Nat)), Ows m n owner → n + hs.length ≤ m → ∃ owner', hs.foldl (stepF m) (some (owner, n)) = some (owner', n + hs.length) ∧ Ows m (n + hs.length) owner'
  | [], n, owner, W, _ => ⟨owner, rfl, W⟩
  | h :: hs, n, owner, W, hl => by
    rw [List.length_cons] at hl
    obtain ⟨j, e, W'⟩ := W.step hm (by omega) h
    obtain ⟨owner', f, W2⟩ := fold_at hm hs (n + 1) _ W' (by omega)
    have ea : n + 1 + hs.length = n + (h :: hs).length := by rw [List.length_cons]; omega
    rw [ea] at f W2
    exact ⟨owner', by rw [List.foldl_cons, stepF_some e]; exact f, W2⟩
theorem relaid_at (t : SetTable) {hs : Array Int} {wanted M : Nat} (hw : SetTable.sizeAbove wanted - 1 = M) (hM : Msk M) (hn : hs.size ≤ M) :
    ∃ t' order, t.relaid hs wanted = some (t', order) ∧ order.toList.Perm (List.range hs.size) ∧ Tb t' hs.size ∧ t'.mask = M ∧ t'.led = t.led ∧ t'.plain = t.plain := by
  obtain ⟨owner, f, W⟩ := fold_at hM hs.toList 0 _ (Ows.zero M) (by rw [Array.length_toList]; omega)
  rw [Nat.zero_add, Array.length_toList] at f W
  have hr : t.relaid hs wanted = some (tabOf t M owner, ((liveOf M owner).map (·.2)).toArray) := by
    rw [relaid_eq, hw, layClean_eq, f]
    rfl
  obtain ⟨r1, r2⟩ := ris_live (fun j => owner.getD j none) (List.range (M + 1)) (by
    unfold Ris
    first | exact List.pairwise_lt_range | exact List.pairwise_lt_range _)
  have r1 : Ris ((liveOf M owner).map (·.1)) := r1
  have nd : ((liveOf M owner).map (·.1)).Nodup := List.Pairwise.imp (fun h => Nat.ne_of_lt h) r1
  have hle : (liveOf M owner).length ≤ hs.size := by
    obtain ⟨ps, p1, p2⟩ := W.ps
    have a := nat_nodup_len ((liveOf M owner).map (·.1)) ps nd fun x hx => by
      obtain ⟨⟨y, k⟩, hq, e⟩ := List.mem_map.mp hx
      have e : y = x := e
      obtain ⟨b1, b2⟩ := (mem_live W.sz).1 hq
      rw [← e]
      exact p2 y b1 (by rw [b2]; exact fun z => nomatch z)
    rwa [List.length_map, p1] at a
  have has : ∀ k, k < hs.size → k ∈ (liveOf M owner).map (·.2) := fun k hk => by
    obtain ⟨j, b1, b2⟩ := W.all k hk
    exact List.mem_map.mpr ⟨(j, k), (mem_live W.sz).2 ⟨b1, b2⟩, rfl⟩
  have hge := nat_nodup_len (List.range hs.size) ((liveOf M owner).map (·.2)) List.nodup_range fun k hk => has k (List.mem_range.mp hk)
  rw [List.length_map, List.length_range] at hge
  have hlen : (liveOf M owner).length = hs.size := Nat.le_antisymm hle hge
  refine ⟨_, _, hr, perm_range hs.size _ (by show ((liveOf M owner).map (·.2)).length = _; rw [List.length_map, hlen]) has, ⟨r1, rfl, ?_, hM, fun x hx => Nat.le_of_lt_succ (List.mem_range.mp (r2 x hx))⟩, rfl, rfl, rfl⟩
  show ((liveOf M owner).map (·.1)).toArray.size = hs.size
  rw [List.size_toArray, List.length_map, hlen]
end DL

set_option Elab.async false
set_option linter.all false
set_option maxRecDepth 100000
set_option maxHeartbeats 4000000
/-! a law's own layer, forty-sixth part: set(xs), xs tuples of numbers and texts, all unlike, up to 300 -/
namespace DL
open PySem PySem.Spec PyProof.Rows L2
section
variable {P : Program} {w : World} {A : Around} {E : Value → Shared → Prop} {s : Shared}
abbrev Hk (P : Program) (w : World) (k : List Key) : Int := tupleKeyHash (mixKind P w) k
abbrev IsK (P : Program) (w : World) (h : Heap) (k : List Key) (a : Addr) : Prop := IsTupleKey (mixKind P w) h k a
/-- a number or a text -/
def Flt (v : Value) : Prop := (∃ i t, v = Value.int i t) ∨ ∃ x t, v = Value.str x t
theorem items_flt {k : List Key} {vs : List Value} (h : ItemsAre (mixKind P w) k vs) : ∀ v ∈ vs, Flt v := by
  induction h with
  | nil => intro v hv; cases hv
  | @cons k0 v' ks vs h1 _ ih =>
    intro v hv
    rcases List.mem_cons.mp hv with e | hv
    · rw [e]
      rcases keyIs_shape (show keyIs k0 v' = true from h1) with ⟨i, t, _, ev⟩ | ⟨z, t, _, ev⟩
      · exact .inl ⟨i, t, ev⟩
      · exact .inr ⟨z, t, ev⟩
    · exact ih v hv
theorem flt_class (n : Nat) {v : Value} (h : Flt v) : ofAClassStatement n v = pure false := by
  rcases h with ⟨i, t, rfl⟩ | ⟨x, t, rfl⟩ <;> cases n <;> rfl
theorem flt_hash (n : Nat) {v : Value} (h : Flt v) : ∃ b, hashByValue n v = pure b := by
  rcases h with ⟨i, t, rfl⟩ | ⟨x, t, rfl⟩
  · exact ⟨true, by cases n <;> rfl⟩
  · exact ⟨_, hashByValue_scannable n (x := Value.str x t) rfl⟩
theorem class_key {k : List Key} {b : Addr} {Q : Bool → Shared → Prop} (hk : IsK P w s.heap k b) (h : Q false s) : wpAny (model P w) A (ofAClassStatement 8 (.ref b)) Q E s := by
  have hT := hk.typeIs
  obtain ⟨o, items, n, ho, _, hd, hi⟩ := hk
  unfold ofAClassStatement
  refine wpAny_bind (wpAny_typeOf hT ?_)
  dsimp only
  have e : (("tuple" : String) == "tuple") = true := by decide
  simp only [e, if_true, Bool.not_true, Bool.false_eq_true, if_false]
  try refine wpAny_bind (wpAny_pure ?_)
  try simp only [Bool.not_true, Bool.false_eq_true, if_false]
  show wpAny _ _ (seqItems? (.ref b) >>= _) _ _ s
  refine wpAny_bind (wpAny_seqItems ho hd ?_)
  dsimp only
  refine wpAny_bind ?_
  show wpAny _ _ (forIn items _ _) _ _ s
  rw [← Array.forIn_toList]
  refine wpAny_forIn_list _ (fun rest r s' => r.1 = none ∧ s' = s ∧ ∀ v ∈ rest, Flt v) _ ?_ ?_ _ _ ⟨rfl, rfl, items_flt hi⟩
  · rintro v rest r s' ⟨hr, rfl, hall⟩
    rw [flt_class _ (hall v List.mem_cons_self)]
    refine wpAny_bind (wpAny_pure ?_)
    simp only [Bool.false_eq_true, if_false]
    exact wpAny_pure ⟨rfl, rfl, fun u hu' => hall u (List.mem_cons_of_mem _ hu')⟩
  · rintro ⟨r1, r2⟩ s' ⟨hr, rfl, _⟩
    simp only at hr
    subst hr
    exact wpAny_pure h
theorem hash_key {k : List Key} {b : Addr} {Q : Bool → Shared → Prop} (hk : IsK P w s.heap k b) (h : ∀ q, Q q s) : wpAny (model P w) A (hashByValue 8 (.ref b)) Q E s := by
  have hT := hk.typeIs
  obtain ⟨o, items, n, ho, _, hd, hi⟩ := hk
  unfold hashByValue
  refine wpAny_bind (wpAny_specialOf hT F.slot_tuple_hash.lookup ?_)
  show wpAny _ _ (seqItems? (.ref b) >>= _) _ _ s
  refine wpAny_bind (wpAny_seqItems ho hd ?_)
  refine wpAny_bind ?_
  show wpAny _ _ (forIn items _ _) _ _ s
  rw [← Array.forIn_toList]
  refine wpAny_forIn_list _ (fun rest r s' => (r.1 = none ∨ ∃ q, r.1 = some q) ∧ s' = s ∧ ∀ v ∈ rest, Flt v) _ ?_ ?_ _ _ ⟨.inl rfl, rfl, items_flt hi⟩
  · rintro v rest r s' ⟨hr, rfl, hall⟩
    obtain ⟨q, hq⟩ := flt_hash 7 (hall v List.mem_cons_self)
    rw [hq]
    refine wpAny_bind (wpAny_pure ?_)
    have rest' : ∀ u ∈ rest, Flt u := fun u hu' => hall u (List.mem_cons_of_mem _ hu')
    cases q
    · simp only [Bool.not_false, if_true]
      exact wpAny_pure (wpAny_pure (h _))
    · simp only [Bool.not_true, Bool.false_eq_true, if_false]
      exact wpAny_pure ⟨.inl rfl, rfl, rest'⟩
  · rintro ⟨r1, r2⟩ s' ⟨hr, rfl, _⟩
    simp only at hr
    rcases hr with e | ⟨q, e⟩ <;> subst e <;> exact wpAny_pure (h _)
theorem seen_key {k : List Key} {b : Addr} {Q : Bool → Shared → Prop} (hk : IsK P w s.heap k b) {ys : List Value} (hy : ∀ y ∈ ys, ∃ k' c, y = Value.ref c ∧ IsK P w s.heap k' c) (h : Q false s) :
    wpAny (model P w) A (searchCouldBeSeen (.ref b) ys) Q E s := by
  unfold searchCouldBeSeen
  refine wpAny_bind ?_
  refine wpAny_forIn_list _ (fun rest r s' => r.1 = none ∧ s' = s ∧ ∀ y ∈ rest, ∃ k' c, y = Value.ref c ∧ IsK P w s.heap k' c) _ ?_ ?_ _ _ ⟨rfl, rfl, hy⟩
  · rintro v rest r s' ⟨hr, rfl, hall⟩
    obtain ⟨k', c, rfl, hc⟩ := hall v List.mem_cons_self
    have rest' : ∀ y ∈ rest, ∃ k' c, y = Value.ref c ∧ IsK P w s'.heap k' c := fun u hu' => hall u (List.mem_cons_of_mem _ hu')
    dsimp only
    by_cases hv : (b == c || (carriedByValue (.ref b) && carriedByValue (.ref c))) = true
    · exact wp_if_pos hv (wpAny_pure ⟨rfl, rfl, rest'⟩)
    · refine wp_if_neg hv ?_
      refine wpAny_bind (wpAny_eqIsQuiet_tuple hk ?_)
      simp only [Bool.not_true, Bool.false_eq_true, if_false]
      refine wpAny_bind (wpAny_eqIsQuiet_tuple hc ?_)
      simp only [Bool.not_true, Bool.false_eq_true, if_false]
      refine wpAny_bind (class_key hk ?_)
      simp only [Bool.false_eq_true, if_false]
      refine wpAny_bind (class_key hc ?_)
      simp only [Bool.false_eq_true, if_false]
      exact wpAny_pure ⟨rfl, rfl, rest'⟩
  · rintro ⟨r1, r2⟩ s' ⟨hr, rfl, _⟩
    simp only at hr
    subst hr
    exact wpAny_pure h
/-! the set -/
def rowK (P : Program) (w : World) (p : Addr × List Key) : Int × Value := (Hk P w p.2, Value.ref p.1)
structure Sd (P : Program) (w : World) (h : Heap) (a : Addr) (L : List (Addr × List Key)) (es : Array (Int × Value)) (ep : Nat) (t : SetTable) : Prop where
  ob : ∃ o, h.get? a = some o ∧ o.ExactSet ∧ o.data = .set es ep t
  rows : es.toList = L.map (rowK P w)
  tab : Tb t L.length
  tup : ∀ p ∈ L, IsK P w h p.2 p.1
  led : w.params.followText "set-order" = true ∨ t.led = true
  room : L.length * 5 < t.mask * 3
  few : L.length ≤ 300
variable {a : Addr} {L : List (Addr × List Key)} {es : Array (Int × Value)} {ep : Nat} {t : SetTable}
theorem Sd.size (R : Sd P w s.heap a L es ep t) : es.size = L.length := by
  have h := congrArg List.length R.rows
  rwa [Array.length_toList, List.length_map] at h
theorem Sd.fits (R : Sd P w s.heap a L es ep t) : t.fits es.size = true := by
  have h1 := R.tab.sz
  have h2 := R.size
  have h3 := R.room
  unfold SetTable.fits SetTable.fill
  rw [R.tab.dm, Bool.and_eq_true, beq_iff_eq, decide_eq_true_eq]
  show t.place.size = es.size ∧ t.place.size + 0 ≤ t.mask
  omega
theorem Sd.entry (R : Sd P w s.heap a L es ep t) {i : Nat} {p : Addr × List Key} (h : L[i]? = some p) : es[i]? = some (rowK P w p) := by
  rw [← Array.getElem?_toList, R.rows, List.getElem?_map, h]
  rfl
theorem Sd.gw (R : Sd P w s.heap a L es ep t) : ¬ t.gaveWay = true := by
  unfold SetTable.gaveWay
  rw [msk_odd R.tab.msk]
  decide
theorem nth_dummy (m : Nat) : ∀ (n : Nat) (p : SetTable.Probe), p.dummy = none → (nth m p n).dummy = none
  | 0, _, h => h
  | n + 1, p, h => nth_dummy m n (adv m p) (by unfold adv; split <;> exact h)
/-- one unlike all that are there is not found -/
theorem search_no (R : Sd P w s.heap a L es ep t) {x : Addr} {k : List Key} (hx : IsK P w s.heap k x) (hn : k ∉ L.map (·.2)) (hu : A.units < cLine) {K : Nat} (hKf : K < 10 * SetTable.turns t.mask)
    (hK : way t.mask (Hk P w k) K ∉ t.place.toList) (hKb : ∀ c, c < K → way t.mask (Hk P w k) c ∈ t.place.toList) {Q : SetFound → Shared → Prop} (hout : Q (.free (way t.mask (Hk P w k) K) false) s) :
    ∀ (f c : Nat) (stand : Option SetTable.Probe), stand.getD (t.probeStart (Hk P w k)) = nth t.mask (runAt t.mask (SetTable.bits (Hk P w k) % (t.mask + 1)) (SetTable.bits (Hk P w k))) c → c ≤ K → K - c < f →
      wpAny (model P w) A (setSearchFrom a (.ref x) (Hk P w k) true f stand) Q E s
  | 0, c, stand, _, _, hf => absurd hf (Nat.not_lt_zero _)
  | f + 1, c, stand, hst, hc, hf => by
    obtain ⟨o, ho, hex, hd⟩ := R.ob
    rw [setSearchFrom_succ]
    refine wpAny_bind (wpAny_setState_of ho hd R.fits ?_)
    dsimp only
    refine wp_if_neg R.gw ?_
    try refine wpAny_bind (wpAny_pure ?_)
    generalize hst0 : runAt t.mask (SetTable.bits (Hk P w k) % (t.mask + 1)) (SetTable.bits (Hk P w k)) = p0 at hst
    have hp0 : p0.dummy = none := by rw [← hst0]; rfl
    have wy : ∀ q, (nth t.mask p0 q).j = way t.mask (Hk P w k) q := fun q => by rw [← hst0]
    have e1 : ∀ q, (nth t.mask (nth t.mask p0 c) q).j = way t.mask (Hk P w k) (c + q) := fun q => by rw [← nth_add, wy]
    have spec := go_spec t R.tab.ris R.tab.dm (fun i => (es[i]?.map (·.1)).getD 0) (Hk P w k) (10 * SetTable.turns t.mask) (K - c) (nth t.mask p0 c) (nth_dummy _ c p0 hp0) (by omega)
      (fun q hq => by rw [e1]; exact hKb (c + q) (by omega)) (by rw [e1, show c + (K - c) = K by omega]; exact hK)
    rcases spec with ⟨q, i, hq, hi, hh, hno, hpr⟩ | ⟨hno, hpr⟩
    · have hpr' : t.probe (fun i => (es[i]?.map (·.1)).getD 0) (Hk P w k) (stand.getD (t.probeStart (Hk P w k))) = some (.candidate (way t.mask (Hk P w k) (c + q)) i (nth t.mask p0 (c + (q + 1)))) := by
        rw [hst, ← e1, nth_add t.mask c p0 (q + 1)]
        exact hpr
      rw [hpr']
      dsimp only
      rw [e1] at hi
      have hil : i < L.length := by
        have h1 : i < t.place.toList.length := (List.getElem?_eq_some_iff.mp hi).1
        rw [Array.length_toList, R.tab.sz] at h1
        exact h1
      obtain ⟨p, hp⟩ : ∃ p, L[i]? = some p := ⟨_, List.getElem?_eq_getElem hil⟩
      have hmem : p ∈ L := List.mem_of_getElem? hp
      have hne : p.2 ≠ k := fun e => hn (by rw [← e]; exact List.mem_map.mpr ⟨p, hmem, rfl⟩)
      have rest : wpAny (model P w) A (searchRest a (.ref x) (Hk P w k) true f es t (way t.mask (Hk P w k) (c + q)) i (nth t.mask p0 (c + (q + 1)))) Q E s := by
        unfold searchRest
        rw [R.entry hp]
        dsimp only [rowK]
        refine wpAny_bind (wpAny_holding (wpAny_eqBool_tuple hu (R.tup p hmem) hx ?_))
        refine wpAny_bind (wpAny_setState_of ho hd R.fits ?_)
        dsimp only
        refine wp_if_neg (by simp [hne]) ?_
        try refine wpAny_bind (wpAny_pure ?_)
        rw [sameMem]
        dsimp only
        have hsl : t.slot (way t.mask (Hk P w k) (c + q)) = .live i := slot_live R.tab.ris hi
        simp only [if_true, hsl, R.entry hp]
        refine wpAny_bind (wpAny_isSame_ref_self (wpAny_bind (wpAny_pure ?_)))
        simp only [if_true]
        refine wp_if_neg (by simp [hne]) ?_
        exact search_no R hx hn hu hKf hK hKb hout f (c + (q + 1)) _ (by rw [hst0]; rfl) (by omega) (by omega)
      by_cases hl : t.led = true
      · refine wp_if_neg (by simp [hl]) ?_
        try refine wpAny_bind (wpAny_pure ?_)
        exact rest
      · refine wp_if_pos (by simp [hl]) ?_
        refine wpAny_bind (seen_key hx (fun y hy => ?_) ?_)
        · obtain ⟨e, he, ee⟩ := List.mem_map.mp hy
          have he1 : e ∈ es ∧ e.1 = Hk P w k := by simpa using he
          have he2 : e ∈ es.toList := by simpa using he1.1
          rw [R.rows] at he2
          obtain ⟨p2, hp2, e2⟩ := List.mem_map.mp he2
          exact ⟨p2.2, p2.1, by rw [← ee, ← e2]; rfl, R.tup p2 hp2⟩
        · refine wp_if_neg (by decide) ?_
          try refine wpAny_bind (wpAny_pure ?_)
          exact rest
    · have hpr' : t.probe (fun i => (es[i]?.map (·.1)).getD 0) (Hk P w k) (stand.getD (t.probeStart (Hk P w k))) = some (.empty (way t.mask (Hk P w k) K) none) := by
        have e2 : way t.mask (Hk P w k) K = (nth t.mask (nth t.mask p0 c) (K - c)).j := by rw [e1, show c + (K - c) = K by omega]
        rw [hst, e2]
        exact hpr
      rw [hpr']
      dsimp only
      exact wpAny_pure hout
theorem isK_same {h h' : Heap} {k : List Key} {a b : Addr} {o : Obj} {es : Array (Int × Value)} {ep : Nat} {t : SetTable} (hb : IsK P w h k b) (ho : h.get? a = some o) (hd : o.data = .set es ep t) (hs : Heap.SameBut a h h') : IsK P w h' k b := by
  obtain ⟨o', items, n, ho', hc, hd', hi⟩ := hb
  have hne : b ≠ a := fun z => by
    rw [z, ho] at ho'
    cases ho'
    rw [hd] at hd'
    cases hd'
  exact ⟨o', items, n, (hs.2 b hne).trans ho', hc, hd', hi⟩
theorem isK_keep {h h' : Heap} {k : List Key} {b : Addr} (x : IsK P w h k b) (hk : ∀ c o, h.get? c = some o → h'.get? c = some o) : IsK P w h' k b := by
  obtain ⟨o, items, n, ho, r⟩ := x
  exact ⟨o, items, n, hk b o ho, r⟩
/-- entries in another order -/
theorem order_k (L : List (Addr × List Key)) (es : Array (Int × Value)) (hr : es.toList = L.map (rowK P w)) : ∀ l : List Nat, (∀ i ∈ l, i < L.length) → l.filterMap (fun i => es[i]?) = (l.filterMap fun i => L[i]?).map (rowK P w) ∧ (l.filterMap fun i => L[i]?).length = l.length
  | [], _ => ⟨rfl, rfl⟩
  | i :: l, hl => by
    obtain ⟨h1, h2⟩ := order_k L es hr l fun j hj => hl j (List.mem_cons_of_mem _ hj)
    have hi := hl i List.mem_cons_self
    have e1 : L[i]? = some L[i] := List.getElem?_eq_getElem hi
    have e2 : es[i]? = some (rowK P w L[i]) := by rw [← Array.getElem?_toList, hr, List.getElem?_map, e1]; rfl
    rw [List.filterMap_cons_some e2, List.filterMap_cons_some e1, h1]
    exact ⟨rfl, by rw [List.length_cons, List.length_cons, h2]⟩
theorem range_self {α : Type} (L : List α) : (List.range L.length).filterMap (fun i => L[i]?) = L := by
  have key : ∀ n, n ≤ L.length → (List.range n).filterMap (fun i => L[i]?) = L.take n := by
    intro n
    induction n with
    | zero => intro _; rfl
    | succ n ih =>
      intro hn
      rw [List.range_succ, List.filterMap_append, ih (Nat.le_of_lt hn), List.take_add_one, List.getElem?_eq_getElem hn, List.filterMap_cons_some (List.getElem?_eq_getElem hn)]
      rfl
  rw [key L.length (Nat.le_refl _), List.take_length]
/-- laid anew, larger -/
theorem relay_k {o : Obj} (ho : s.heap.get? a = some o) (hex : o.ExactSet) (hd : o.data = .set es ep t) (hrows : es.toList = L.map (rowK P w)) (T : Tb t L.length) (hfl : L.length ≤ t.mask) (tup : ∀ p ∈ L, IsK P w s.heap p.2 p.1) (ld : w.params.followText "set-order" = true ∨ t.led = true) (few : L.length ≤ 300) {wanted M : Nat}
    (hw : SetTable.sizeAbove wanted - 1 = M) (hM : Msk M) (hw2 : SetTable.sizeAbove wanted ≤ 512) (hn : L.length * 5 < M * 3) {Q : Unit → Shared → Prop}
    (hQ : ∀ h' L' es' ep' t', Heap.SameBut a s.heap h' → Sd P w h' a L' es' ep' t' → L'.Perm L → Q () { s with heap := h' }) : wpAny (model P w) A (setRelay a wanted) Q E s := by
  have hsl : es.size = L.length := by
    have h := congrArg List.length hrows
    rwa [Array.length_toList, List.length_map] at h
  have hfits : t.fits es.size = true := by
    have := T.sz
    unfold SetTable.fits SetTable.fill
    rw [T.dm, Bool.and_eq_true, beq_iff_eq, decide_eq_true_eq]
    show t.place.size = es.size ∧ t.place.size + 0 ≤ t.mask
    omega
  obtain ⟨t', order, e, hp, T', em, el, epl⟩ := relaid_at t (hs := es.map (·.1)) (wanted := wanted) hw hM (by rw [Array.size_map, hsl]; omega)
  rw [Array.size_map, hsl] at hp T'
  obtain ⟨r1, r3⟩ := order_k L es hrows order.toList fun i hi => List.mem_range.mp (hp.mem_iff.mp hi)
  have r2 : (order.toList.filterMap fun i => L[i]?).Perm L := by
    have h1 : (order.toList.filterMap fun i => L[i]?).Perm ((List.range L.length).filterMap fun i => L[i]?) := hp.filterMap _
    rwa [range_self] at h1
  have r1 : (order.filterMap (es[·]?)).toList = (order.toList.filterMap fun i => L[i]?).map (rowK P w) := by
    first | (rw [Array.toList_filterMap]; exact r1) | simpa using r1
  generalize order.toList.filterMap (fun i => L[i]?) = L2 at r1 r2 r3
  have hl2 := r2.length_eq
  have hs2 : (order.filterMap (es[·]?)).size = es.size := by
    have h := congrArg List.length r1
    rw [Array.length_toList, List.length_map, hl2] at h
    rw [h, hsl]
  rw [setRelay_eq]
  refine wpAny_bind (wpAny_setState_of ho hd hfits ?_)
  dsimp only
  refine wp_if_neg (by rw [sizeLine_eq]; omega) ?_
  try refine wpAny_bind (wpAny_pure ?_)
  rw [e]
  dsimp only
  refine wpAny_bind ?_
  refine wp_if_neg (by rw [hs2]; simp) ?_
  try refine wpAny_bind (wpAny_pure ?_)
  refine wpAny_pure ?_
  dsimp only
  refine wpAny_storeSet_of ho hd ?_ (by rw [hs2, hsl, sizeLine_eq]; omega)
  have sb : Heap.SameBut a s.heap (s.heap.update a (Obj.putSet (order.filterMap (es[·]?)) t')) := Heap.SameBut.update ..
  refine hQ _ L2 (order.filterMap (es[·]?)) (ep + 1) t' sb ⟨⟨_, store_at ho hd, ⟨hex.1, hex.2.1, hex.2.2⟩, rfl⟩, r1, by rw [hl2]; exact T', fun p hpm => isK_same (tup p (r2.mem_iff.mp hpm)) ho hd sb, by rw [el]; exact ld, by rw [hl2, em]; exact hn, by rw [hl2]; exact few⟩ r2
theorem size_308 : SetTable.sizeAbove (SetTable.grown 77) = 512 := by decide +kernel
theorem add_tail (R : Sd P w s.heap a L es ep t) {x : Addr} {k : List Key} (hx : IsK P w s.heap k x) (hu : A.units < cLine) (hfew : L.length + 1 ≤ 300) {Q : Bool → Shared → Prop}
    (hQ : ∀ b h' L' es' ep' t', Heap.SameBut a s.heap h' → Sd P w h' a L' es' ep' t' → L'.Perm ((x, k) :: L) → Q b { s with heap := h' }) {o : Obj} (ho : s.heap.get? a = some o) (hex : o.ExactSet) (hd : o.data = .set es ep t)
    (hsl : es.size = L.length) (hroom : L.length * 5 < t.mask * 3) {K : Nat} (q2 : SetTable.below t.place (way t.mask (Hk P w k) K) ≤ L.length) (t1 : SetTable) (q3 : Tb t1 (L.length + 1)) (q4 : t1.mask = t.mask) (q5 : t1.led = t.led) (q9 : t1.fill = L.length + 1) :
    wpAny (model P w) A (do
        storeSet a (SetTable.insertAt es (SetTable.below t.place (way t.mask (Hk P w k) K)) (Hk P w k, Value.ref x)) t1
        if (!false && t1.tooFull) = true then do
          setRelay a (SetTable.grown (es.size + 1))
          pure true
        else pure true) Q E s := by
  have hin : (SetTable.insertAt es (SetTable.below t.place (way t.mask (Hk P w k) K)) (Hk P w k, Value.ref x)).toList = (L.take (SetTable.below t.place (way t.mask (Hk P w k) K)) ++ (x, k) :: L.drop (SetTable.below t.place (way t.mask (Hk P w k) K))).map (rowK P w) := by
    rw [SetTable.toList_insertAt, R.rows, List.map_append, List.map_cons, List.map_take, List.map_drop]
    rfl
  generalize SetTable.below t.place (way t.mask (Hk P w k) K) = p at q2 hin ⊢
  have pm := put_perm L p (x, k)
  have hlen : (L.take p ++ (x, k) :: L.drop p).length = L.length + 1 := pm.length_eq
  have hes : (SetTable.insertAt es p (Hk P w k, Value.ref x)).size = L.length + 1 := by
    have h := congrArg List.length hin
    rwa [Array.length_toList, List.length_map, hlen] at h
  generalize SetTable.insertAt es p (Hk P w k, Value.ref x) = es1 at hin hes ⊢
  generalize L.take p ++ (x, k) :: L.drop p = L1 at pm hlen hin
  refine wpAny_bind (wpAny_storeSet_of ho hd ?_ (by rw [hes, sizeLine_eq]; omega))
  have sb : Heap.SameBut a s.heap (s.heap.update a (Obj.putSet es1 t1)) := Heap.SameBut.update ..
  have ho1 := store_at (es' := es1) (t' := t1) ho hd
  generalize s.heap.update a (Obj.putSet es1 t1) = h1 at sb ho1 ⊢
  have tup1 : ∀ p ∈ L1, IsK P w h1 p.2 p.1 := fun p hp => by
    rcases List.mem_cons.mp (pm.mem_iff.mp hp) with e | hp
    · rw [e]; exact isK_same hx ho hd sb
    · exact isK_same (R.tup p hp) ho hd sb
  have ld1 : w.params.followText "set-order" = true ∨ t1.led = true := by rw [q5]; exact R.led
  by_cases hf : t1.tooFull = true
  · first
      | (refine wpAny_bind ?_; refine wp_if_pos (by simp [hf]) ?_)
      | (refine wp_if_pos (by simp [hf]) ?_; refine wpAny_bind ?_)
    have hfull : (L.length + 1) * 5 ≥ t1.mask * 3 := by
      have h := hf
      unfold SetTable.tooFull at h
      rwa [decide_eq_true_eq, q9] at h
    rw [hsl]
    have cases3 : (t.mask = 7 ∧ L.length = 4) ∨ (t.mask = 31 ∧ L.length = 18) ∨ (t.mask = 127 ∧ L.length = 76) := by
      rw [q4] at hfull
      rcases R.tab.msk with e | e | e | e <;> rw [e] at hfull hroom
      · exact .inl ⟨e, by omega⟩
      · exact .inr (.inl ⟨e, by omega⟩)
      · exact .inr (.inr ⟨e, by omega⟩)
      · exfalso; omega
    have go : ∀ M, SetTable.sizeAbove (SetTable.grown (L.length + 1)) - 1 = M → Msk M → SetTable.sizeAbove (SetTable.grown (L.length + 1)) ≤ 512 → (L.length + 1) * 5 < M * 3 →
        wpAny (model P w) A (setRelay a (SetTable.grown (L.length + 1))) (fun _ s' => wpAny (model P w) A (pure true) Q E s') E { s with heap := h1 } := fun M h1' h2' h3' h4' => by
      refine relay_k (s := { s with heap := h1 }) ho1 ⟨hex.1, hex.2.1, hex.2.2⟩ rfl hin (by rw [hlen]; exact q3) (by rw [hlen, q4]; rcases cases3 with ⟨e, e2⟩ | ⟨e, e2⟩ | ⟨e, e2⟩ <;> omega) tup1 ld1 (by rw [hlen]; exact hfew) h1' h2' h3' (by rw [hlen]; exact h4') ?_
      intro h2 L2 es2 ep2 t2 sb2 R2 pm2
      exact wpAny_pure (hQ true h2 L2 es2 ep2 t2 (sb.trans sb2) R2 (pm2.trans pm))
    rcases cases3 with ⟨_, e2⟩ | ⟨_, e2⟩ | ⟨_, e2⟩
    · exact go 31 (by rw [e2, size_20]) (.inr (.inl rfl)) (by rw [e2, size_20]; decide) (by omega)
    · exact go 127 (by rw [e2, size_76]) (.inr (.inr (.inl rfl))) (by rw [e2, size_76]; decide) (by omega)
    · exact go 511 (by rw [e2, size_308]) (.inr (.inr (.inr rfl))) (by rw [e2, size_308]; decide) (by omega)
  · first
      | refine wp_if_neg (by simp [hf]) ?_
      | (refine wpAny_bind ?_; refine wp_if_neg (by simp [hf]) ?_; refine wpAny_pure ?_)
    refine wpAny_pure (hQ true h1 L1 es1 (ep + 1) t1 sb ⟨⟨_, ho1, ⟨hex.1, hex.2.1, hex.2.2⟩, rfl⟩, hin, by rw [hlen]; exact q3, tup1, ld1, ?_, by rw [hlen]; exact hfew⟩ pm)
    have h := hf
    unfold SetTable.tooFull at h
    rw [decide_eq_true_eq, q9] at h
    rw [hlen]
    omega
/-- one unlike all that are there is put in -/
theorem add_k (R : Sd P w s.heap a L es ep t) {x : Addr} {k : List Key} (hx : IsK P w s.heap k x) (hn : k ∉ L.map (·.2)) (hu : A.units < cLine) (hfew : L.length + 1 ≤ 300) {Q : Bool → Shared → Prop}
    (hQ : ∀ b h' L' es' ep' t', Heap.SameBut a s.heap h' → Sd P w h' a L' es' ep' t' → L'.Perm ((x, k) :: L) → Q b { s with heap := h' }) :
    wpAny (model P w) A (setAddHashed a (.ref x) (Hk P w k)) Q E s := by
  obtain ⟨o, ho, hex, hd⟩ := R.ob
  have hsl := R.size
  have hroom := R.room
  unfold setAddHashed
  refine wpAny_holding ?_
  rw [show (100000 : Nat) = 99999 + 1 from rfl, setAddHashedIn_succ]
  refine wpAny_bind (wpAny_setState_of ho hd R.fits ?_)
  dsimp only
  refine wp_if_neg (by simp [byScan, Value.scannable]) ?_
  try refine wpAny_bind (wpAny_pure ?_)
  obtain ⟨K, hKf, hK, hKb⟩ := R.tab.first (by omega) (Hk P w k)
  have hbig : K < 100000 := by
    have : 10 * SetTable.turns t.mask ≤ 6000 := by
      unfold SetTable.turns
      rcases R.tab.msk with e | e | e | e <;> omega
    omega
  have srch : ∀ {Q' : SetFound → Shared → Prop}, Q' (.free (way t.mask (Hk P w k) K) false) s → wpAny (model P w) A (setSearch a (.ref x) (Hk P w k) true) Q' E s := fun {Q'} q => by
    unfold setSearch
    exact search_no R hx hn hu hKf hK hKb q 100000 0 none rfl (Nat.zero_le _) (by omega)
  refine wpAny_bind (srch ?_)
  dsimp only
  refine wpAny_bind (wpAny_setState_of ho hd R.fits ?_)
  dsimp only
  obtain ⟨q3, q4, q5, q6, q9, q1, q2⟩ := R.tab.put hK (way_in t.mask (Hk P w k) K)
  generalize t.put (way t.mask (Hk P w k) K) = pt at q1 q3 q4 q5 q6 q9 ⊢
  obtain ⟨t1, p⟩ := pt
  dsimp only at q1 q3 q4 q5 q6 q9 ⊢
  subst q1
  have tail : ∀ t1 : SetTable, Tb t1 (L.length + 1) → t1.mask = t.mask → t1.led = t.led → t1.fill = L.length + 1 →
      wpAny (model P w) A (do
        storeSet a (SetTable.insertAt es (SetTable.below t.place (way t.mask (Hk P w k) K)) (Hk P w k, Value.ref x)) t1
        if (!false && t1.tooFull) = true then do
          setRelay a (SetTable.grown (es.size + 1))
          pure true
        else pure true) Q E s := by
    clear q3 q4 q5 q6 q9 t1
    intro t1 q3 q4 q5 q9
    exact add_tail R hx hu hfew hQ ho hex hd hsl hroom q2 t1 q3 q4 q5 q9
  have np : Tb { t1 with plain := false } (L.length + 1) := ⟨q3.ris, q3.dm, q3.sz, q3.msk, q3.bd⟩
  by_cases hp : t1.plain = true
  · refine wp_if_pos hp (wpAny_bind (hash_key hx fun b => ?_))
    cases b
    · exact tail { t1 with plain := false } np q4 q5 q9
    · exact tail t1 q3 q4 q5 q9
  · refine wp_if_neg hp (wpAny_bind (wpAny_pure ?_))
    exact tail t1 q3 q4 q5 q9
end
end DL

set_option Elab.async false
set_option linter.all false
set_option maxRecDepth 100000
set_option maxHeartbeats 4000000
/-! a law's own layer, forty-seventh part: len(set(xs)), xs tuples of numbers and texts, all unlike -/
namespace DL
open PySem PySem.Spec PyProof.Rows L2
section
variable {P : Program} {w : World} {A : Around} {E : Value → Shared → Prop} {s : Shared}
theorem Sd.keep {h h' : Heap} {a : Addr} {L : List (Addr × List Key)} {es : Array (Int × Value)} {ep : Nat} {t : SetTable} (R : Sd P w h a L es ep t) (ha : ∀ o, h.get? a = some o → h'.get? a = some o) (ht : ∀ p ∈ L, IsK P w h' p.2 p.1) : Sd P w h' a L es ep t := by
  obtain ⟨o, ho, r⟩ := R.ob
  exact ⟨⟨o, ha o ho, r⟩, R.rows, R.tab, ht, R.led, R.room, R.few⟩
theorem sd_fresh {h : Heap} {a : Addr} (ho : h.get? a = some { cls := .type "set", dict := none, data := .set #[] 0 (.fresh 0 0 (!w.params.followText "set-order")) }) : Sd P w h a [] #[] 0 (.fresh 0 0 (!w.params.followText "set-order")) where
  ob := ⟨_, ho, ⟨rfl, rfl, rfl⟩, rfl⟩
  rows := rfl
  tab := ⟨List.Pairwise.nil, rfl, rfl, .inl rfl, fun x hx => (by cases hx)⟩
  tup := fun p hp => (by cases hp)
  led := by
    show _ ∨ (!w.params.followText "set-order") = true
    cases w.params.followText "set-order"
    · exact .inr rfl
    · exact .inl rfl
  room := by
    show 0 * 5 < 7 * 3
    decide
  few := by
    show 0 ≤ 300
    decide
/-- the loop of update, the keys all unlike -/
theorem set_update_k {I : Addr} {fp wr : List Addr} {G : Array GenState → Array GenState → Prop} {n : Nat} {Pv : Nat → Value → Prop} {St : Nat → Shared → Prop} {R : Result → Shared → Prop}
    (W : WalksS P w A.in1 I fp wr G n Pv St) (S : Addr) (hSf : S ∉ fp) (ks : List (Addr × List Key)) (hn : n = ks.length) (hfew : ks.length ≤ 300) (hnd : (ks.map (·.2)).Nodup) (hval : ∀ i v, Pv i v → ∃ p, ks[i]? = some p ∧ v = .ref p.1)
    (h0 : Heap) (hk : ∀ p ∈ ks, IsK P w h0 p.2 p.1) (hS0 : h0.get? S = none) (hw0 : ∀ b ∈ wr, h0.get? b = none) (hu : A.in1.units < cLine) :
    ∀ (k i : Nat) (s : Shared), n - i = k → i ≤ n → St i s → (∀ b o, h0.get? b = some o → s.heap.get? b = some o) → (∃ L es ep t, Sd P w s.heap S L es ep t ∧ L.Perm (ks.take i)) →
      (∀ s' L es ep t, Moved (S :: wr) G s s' → Sd P w s'.heap S L es ep t → L.Perm (ks.take n) → (∀ b o, h0.get? b = some o → s'.heap.get? b = some o) → R (.ok (.ret .none)) s') →
      codeAny (model P w) A (.builtin "set.update.loop" ⟨[.ref S, .ref I], []⟩) R s := by
  have hSw : S ∉ wr := fun h => hSf (W.sub _ h)
  have hsub : ∀ b ∈ wr, b ∈ S :: wr := fun b hb => List.mem_cons_of_mem _ hb
  have keepM : ∀ {s s' : Shared}, Moved wr G s s' → (∀ b o, h0.get? b = some o → s.heap.get? b = some o) → ∀ b o, h0.get? b = some o → s'.heap.get? b = some o := fun hm hkp b o e =>
    hm.heap b o (fun hb => by rw [hw0 b hb] at e; cases e) (hkp b o e)
  intro k
  induction k with
  | zero =>
    intro i s hk' hi hst hkp ⟨L, es, ep, t, hS, g⟩ hR
    have hin : i = n := by omega
    subst hin
    refine codeAny_builtin F.entry_set_update_loop ?_
    rw [Around.under_plainId F.plain_set_update_loop _]
    show wpAny _ A.in1 (pyNext (.ref I) >>= _) _ _ s
    refine wpAny_bind (W.done s _ _ hst fun s' hm => ?_)
    show wpAny _ A.in1 (ret Value.none) _ _ s'
    have hkp' := keepM hm hkp
    have sub : ∀ p ∈ L, p ∈ ks := fun p hp => List.mem_of_mem_take (g.mem_iff.mp hp)
    exact wpAny_pure (hR s' L es ep t (hm.mono hsub) (hS.keep (fun o e => hm.heap S o hSw e) fun p hp => isK_keep (hk p (sub p hp)) hkp') g hkp')
  | succ k ih =>
    intro i s hk' hi hst hkp ⟨L, es, ep, t, hS, g⟩ hR
    have hlt : i < n := by omega
    refine codeAny_builtin F.entry_set_update_loop ?_
    rw [Around.under_plainId F.plain_set_update_loop _]
    show wpAny _ A.in1 (pyNext (.ref I) >>= _) _ _ s
    refine wpAny_bind (W.item i s _ _ hlt hst fun v s' hP hst' hm => ?_)
    obtain ⟨p, hp, rfl⟩ := hval i v hP
    have hkp' := keepM hm hkp
    have sub : ∀ p ∈ L, p ∈ ks := fun p hp => List.mem_of_mem_take (g.mem_iff.mp hp)
    have hS' : Sd P w s'.heap S L es ep t := hS.keep (fun o e => hm.heap S o hSw e) fun q hq => isK_keep (hk q (sub q hq)) hkp'
    have hx : IsK P w s'.heap p.2 p.1 := isK_keep (hk p (List.mem_of_getElem? hp)) hkp'
    have hlen : L.length = i := by rw [g.length_eq, List.length_take]; omega
    have hno : p.2 ∉ L.map (·.2) := fun hm' => by
      have h1 : p.2 ∈ (ks.take i).map (·.2) := (g.map (·.2)).mem_iff.mp hm'
      obtain ⟨j, hj, e⟩ := List.getElem_of_mem h1
      rw [List.length_map, List.length_take] at hj
      have hji : j < i := by omega
      have hil : i < ks.length := by omega
      have ep2 : ks[i] = p := by
        have q := List.getElem?_eq_getElem hil
        rw [hp] at q
        exact (Option.some.inj q).symm
      have e1 : (ks.map (·.2))[j]'(by rw [List.length_map]; omega) = (ks.map (·.2))[i]'(by rw [List.length_map]; omega) := by
        rw [List.getElem_map, List.getElem_map, ep2, ← e, List.getElem_map, List.getElem_take]
      have := List.pairwise_iff_getElem.mp hnd j i (by rw [List.length_map]; omega) (by rw [List.length_map]; omega) hji
      exact this e1
    show wpAny _ A.in1 (holding [Value.ref p.1] (setAdd S (.ref p.1)) >>= _) _ _ s'
    refine wpAny_bind (wpAny_holding ?_)
    unfold setAdd
    refine wpAny_holding ?_
    refine wpAny_bind (wpAny_pyHash_tuple hu hx ?_)
    refine add_k (s := { s' with toks := s'.toks + (p.2.length + 1) }) hS' hx hno hu (by omega) fun b h' L' es' ep' t' hsb hS2 pm => ?_
    have g' : L'.Perm (ks.take (i + 1)) := by
      rw [List.take_add_one, hp]
      exact pm.trans ((List.Perm.cons _ g).trans (List.perm_append_singleton _ _).symm)
    have hkp2 : ∀ b o, h0.get? b = some o → h'.get? b = some o := fun b o e => (hsb.2 b (fun z => by rw [z, hS0] at e; cases e)).trans (hkp' b o e)
    refine wpAny_pure ⟨plainId_quiet F.plain_set_update_loop _, ih (i + 1) _ (by omega) hlt (W.frame _ s' _ _ hst' (Nat.le_add_right _ _) fun b hb o e => ?_) hkp2 ⟨L', es', ep', t', hS2, g'⟩ fun s'' L2 es2 ep2 t2 hm'' hS'' g'' hkp'' => ?_⟩
    · rw [hsb.2 b (fun h : b = S => hSf (by rw [← h]; exact hb))]; exact e
    · refine hR s'' L2 es2 ep2 t2 (Moved.trans W.gtrans ((hm.mono hsub).then_heap (Nat.le_add_right _ _) fun b o hb e => ?_) hm'') hS'' g'' hkp''
      rw [hsb.2 b (fun h : b = S => hb (by rw [h]; exact List.mem_cons_self))]; exact e

set_option maxHeartbeats 6400000 in
/-- set(xs) -/
theorem call_set_k {l : Addr} {items : Array Value} (ks : List (Addr × List Key)) {Q : Value → Shared → Prop} (hh : A.handled = none) (hl : s.heap.IsList l items) (hit : items.toList = ks.map fun p => Value.ref p.1)
    (hk : ∀ p ∈ ks, IsK P w s.heap p.2 p.1) (hfew : ks.length ≤ 300) (hnd : (ks.map (·.2)).Nodup) (hu : A.units + 3 < cLine)
    (h : ∀ (h' : Heap) (tk : Nat) L es ep t, Sd P w h' s.heap.objs.size L es ep t → L.Perm ks → (∀ b o, s.heap.get? b = some o → h'.get? b = some o) → Q (.ref s.heap.objs.size) { s with heap := h', toks := tk }) :
    wpAny (model P w) A (call (.type "set") [.ref l]) Q E s := by
  have hisz : items.size = ks.length := by
    have q := congrArg List.length hit
    rw [Array.length_toList, List.length_map] at q
    exact q
  obtain ⟨c, tl, hmro⟩ := F.called_set.mro
  have hmade := F.called_set.made
  have hsub := F.called_set.sub
  refine wpAny_call (codeAny_of_tree ?_)
  show wpAny _ _ (callAny (.type "set") _) _ _ _
  refine wpAny_pure ⟨Code.quiet_builtin _ (by decide +kernel), codeAny_builtin F.entry_type_call ?_⟩
  rw [Around.under_plain (weight_type_call_type "set" [.ref l] []) rfl]
  have h1 := F.called_set.notType
  have h2 := F.called_set.canCreate
  have hct := F.typeCall_set_1 (.ref l)
  repeat (any_goals (first | assumption | wp_step))
  refine codeAny_mono (code_set_led1 (.ref l) (E := E) (Q₁ := fun obj s₁ => obj = .ref s.heap.objs.size ∧ s₁ = { s with heap := s.heap.push { cls := .type "set", dict := none, data := .set #[] 0 (.fresh 0 0 (!w.params.followText "set-order")) } }) ⟨rfl, rfl⟩) fun r s₁ hr => ?_
  cases r with
  | error e => exact hr
  | ok fl =>
    cases fl with
    | ret obj =>
      obtain ⟨rfl, rfl⟩ := hr
      have hS : (s.heap.push { cls := .type "set", dict := none, data := .set #[] 0 (.fresh 0 0 (!w.params.followText "set-order")) }).get? s.heap.objs.size = some { cls := .type "set", dict := none, data := .set #[] 0 (.fresh 0 0 (!w.params.followText "set-order")) } := Heap.get?_push_size _ rfl
      have hT : Shared.TypeIs { s with heap := s.heap.push { cls := .type "set", dict := none, data := .set #[] 0 (.fresh 0 0 (!w.params.followText "set-order")) } } (.ref s.heap.objs.size) "set" := ⟨_, hS, rfl⟩
      have hli := F.called_set.init.lookup
      have hbi := F.called_set.init.bind (.ref s.heap.objs.size)
      repeat (any_goals (first | assumption | wp_step))
      refine codeAny_mono (codeAny_call_builtin (R := wants (fun r s₂ => r = .none ∧ ∃ h' tk L es ep t, s₂ = { s with heap := h', toks := tk } ∧ Sd P w h' s.heap.objs.size L es ep t ∧ L.Perm ks ∧
          (∀ b o, s.heap.get? b = some o → h'.get? b = some o)) E) F.called_set.init.plain F.entry_set_init (check_set_init_1 hT ?_)) fun r₂ s₂ hr₂ => ?_
      · obtain ⟨ol, hol, hcl, nl, hdl⟩ := hl
        obtain ⟨ocls, odict, odata, oslots⟩ := ol
        simp only at hcl hdl
        subst hcl; subst hdl
        have hol' : (s.heap.push { cls := .type "set", dict := none, data := .set #[] 0 (.fresh 0 0 (!w.params.followText "set-order")) }).get? l = some { cls := .type "list", dict := odict, data := .seq items nl, slots := oslots } := Heap.get?_push_of_some _ hol
        have hsls := F.sub_list_set
        have hslf := F.sub_list_frozenset
        have hne : (Value.type "list" == Value.type "dict") = false := by decide
        have hl1 : (s.heap.push { cls := .type "set", dict := none, data := .set #[] 0 (.fresh 0 0 (!w.params.followText "set-order")) }).IsList l items := ⟨_, hol', rfl, nl, rfl⟩
        unfold Builtin.«set.__init__» noKeywords Builtin.Frozenset.updateFrom
        generalize hPI : pyIter = PI
        wp_walk
        subst hPI
        refine wpAny_pyIter_list hl1 ?_
        refine wpAny_bind (wpAny_runValue ?_)
        have hlS : l < s.heap.objs.size := Heap.lt_size hol
        have hh3 : A.in1.in1.in1.handled = none := by simp [hh]
        have hneI : l ≠ (s.heap.push { cls := .type "set", dict := none, data := .set #[] 0 (.fresh 0 0 (!w.params.followText "set-order")) }).objs.size := by
          rw [Heap.size_push]; exact Nat.ne_of_lt (Nat.lt_succ_of_lt hlS)
        have hSf : s.heap.objs.size ∉ [(s.heap.push { cls := .type "set", dict := none, data := .set #[] 0 (.fresh 0 0 (!w.params.followText "set-order")) }).objs.size, l] := by
          rw [Heap.size_push]; simp only [List.mem_cons, List.mem_singleton, List.not_mem_nil, or_false, not_or]
          exact ⟨Nat.ne_of_lt (Nat.lt_succ_self _), Nat.ne_of_gt hlS⟩
        have hval : ∀ (i : Nat) (v : Value), items[i]? = some v → ∃ p, ks[i]? = some p ∧ v = .ref p.1 := fun i v hv => by
          have q : items.toList[i]? = some v := by rw [Array.getElem?_toList]; exact hv
          rw [hit, List.getElem?_map] at q
          cases hq : ks[i]? with
          | none => rw [hq] at q; cases q
          | some p =>
            rw [hq] at q
            exact ⟨p, rfl, (Option.some.inj q).symm⟩
        have none_of : ∀ b, s.heap.objs.size ≤ b → s.heap.get? b = none := fun b hb => by
          cases q : s.heap.get? b with
          | none => rfl
          | some o => exact absurd (Nat.lt_of_lt_of_le (Heap.lt_size q) hb) (Nat.lt_irrefl _)
        refine set_update_k ((Walks.list hh3 _ l hneI items).toS) s.heap.objs.size
          hSf ks hisz hfew hnd hval s.heap hk (none_of _ (Nat.le_refl _)) (fun b hb => none_of b (by
            rw [List.mem_singleton.mp hb, Heap.size_push]
            exact Nat.le_succ _)) hu (items.size - 0) 0 _ (by omega) (Nat.zero_le _)
          ⟨⟨_, Heap.get?_push_size _ rfl, rfl, rfl⟩, (hl1.push _)⟩ (fun b o e => Heap.get?_push_of_some _ (Heap.get?_push_of_some _ e)) ?hS0 ?hR
        case hS0 =>
          have hget : ((s.heap.push { cls := .type "set", dict := none, data := .set #[] 0 (.fresh 0 0 (!w.params.followText "set-order")) }).push { cls := .type "list_iterator", data := .fields #[.ref l, .int 0 0] }).get? s.heap.objs.size
              = some { cls := .type "set", dict := none, data := .set #[] 0 (.fresh 0 0 (!w.params.followText "set-order")) } := Heap.get?_push_of_some _ hS
          exact ⟨[], #[], 0, _, sd_fresh hget, List.Perm.refl _⟩
        case hR =>
          intro s' L es ep t hm hS' g' hkp
          obtain ⟨h', g2, d', tk', os'⟩ := s'
          have eg : g2 = s.gens := hm.gens
          have ed : d' = s.drawn := hm.drawn
          have eo : os' = s.os := hm.os
          subst eg; subst ed; subst eo
          show wpAny _ _ _ _ _ _
          refine wpAny_pure ?_
          show wpAny _ _ (ret Value.none) _ _ _
          rw [hisz, List.take_length] at g'
          exact wpAny_pure ⟨rfl, h', tk', L, es, ep, t, rfl, hS', g', hkp⟩
      · cases r₂ with
        | error e => exact hr₂
        | ok fl₂ =>
          cases fl₂ with
          | ret r =>
            obtain ⟨rfl, h', tk, L, es, ep, t, rfl, hS', g', hk'⟩ := hr₂
            repeat (any_goals (first | assumption | wp_step))
            exact h _ _ _ _ _ _ hS' g' hk'
          | _ => exact hr₂.elim
    | _ => exact hr.elim
end
section
variable {X : Cx}
theorem inv_isK {pins : List (Addr × Obj)} {σ : L2.St} {H : Hp} {s : Shared} {b : Addr} {k : List Key} (I : Inv X pins σ H s) (h : SqT X.K H b (k.map kV)) : IsK X.prog X.w s.heap k b := by
  obtain ⟨its, r, ⟨o, ho, hc, n, hd⟩, _⟩ := I.tuple h
  exact ⟨o, its.toArray, n, ho, hc, hd, by simpa using items_are r⟩
theorem refs_valsK {ks : List (Addr × List Key)} : ∀ {us : List Value}, Vals (ks.map fun p => V.ref p.1) us → us = ks.map fun p => Value.ref p.1 := by
  induction ks with
  | nil => intro us h; cases h; rfl
  | cons p ks ih =>
    intro us h
    cases h with
    | cons r t =>
      cases r
      rw [ih t]
      rfl
def tLenSetK (K : PySem.W.Frag) (ta : TE) : TE := fun σ H Q => ta σ H fun x H1 => ∃ (l : Addr) (ks : List (Addr × List Key)), x = V.ref l ∧ SqL K H1 l (ks.map fun p => V.ref p.1) ∧ (∀ p ∈ ks, SqT K H1 p.1 (p.2.map kV)) ∧ ks.length ≤ 300 ∧ (ks.map (·.2)).Nodup ∧ Q (.int ks.length) H1
theorem pe_lenSetK {a : Expr} {ta : TE} {p p2 q pos : Pos} (hc : X.calm = true) (hu : X.A.units + 64 < cLine) (hg : Gl X "len") (hm : X.mg "len" = none) (hg2 : Gl X "set") (hm2 : X.mg "set" = none) (ha : PE X a ta)
    (na : starEach [a] X.env = (false, eval a X.env) :: starEach [] X.env := by rfl) : PE X (.Call (.Name "len" p) [.Call (.Name "set" p2) [a] [] q] [] pos) (tLenSetK X.K ta) := by
  refine ⟨fun pins s σ H Q I h => ?_⟩
  refine Call_ (ld_blt I hg hm PySem.boot_len ?_)
  refine PyProof.Rows.callWith_builtin1 (PyProof.Rows.args_cons ?_ rfl) rfl rfl
  refine Call_ (ld_blt I hg2 hm2 PyProof.Rows.boot_set ?_)
  refine PyProof.Rows.callWith_type1 (PyProof.Rows.args_cons (thn (ha.run pins s σ H _ I h) fun v s1 ⟨x, H1, I1, r1, q1⟩ => PyProof.Rows.args_nil ?_) na) na rfl
  obtain ⟨l, ks, rfl, hq, hk, hf, hnd, q1⟩ := q1
  cases r1
  obtain ⟨its, r, pl, hz⟩ := I1.list hq
  refine call_set_k (P := X.prog) (w := X.w) ks (I1.ok.hd hc) pl.isList (by simpa using refs_valsK r) (fun p hp => inv_isK I1 (hk p hp)) hf hnd (by omega) fun h' tk L es ep t R g k => ?_
  refine PyProof.Rows.args_nil ?_
  obtain ⟨o, ho, hex, hd⟩ := R.ob
  have hn : es.size = ks.length := by rw [Sd.size (s := { s1 with heap := h', toks := tk }) R, g.length_eq]
  have I2 : Inv X pins σ H1 { s1 with heap := h', toks := tk } := I1.kept fun b o e => k b o e
  refine call_len_set ho hex hd (Sd.fits (s := { s1 with heap := h', toks := tk }) R) (by rw [hn] <;> omega) ⟨.int ks.length, H1, I2.tok _, ⟨_, by rw [hn]⟩, q1⟩
theorem ke_lenSetK {a : Expr} {ta : TE} {p p2 q pos : Pos} {k : Nat} (K : PySem.W.Frag) (h : X.K = K) (hr : Room k X.A) (hc : X.calm = true) (hg : Gl X "len") (hm : X.mg "len" = none) (hg2 : Gl X "set") (hm2 : X.mg "set" = none) (ha : PE X a ta)
    (na : starEach [a] X.env = (false, eval a X.env) :: starEach [] X.env := by rfl) : PE X (.Call (.Name "len" p) [.Call (.Name "set" p2) [a] [] q] [] pos) (tLenSetK K ta) := by subst h; exact pe_lenSetK hc (hu64 hr) hg hm hg2 hm2 ha na
end
section
variable {G : Cn} {T : List Ty} {te : TE}
abbrev Tii := T3 Str Int Int
abbrev rpTii : Rp Tii := @rpT3 Str Int Int rpStr rpInt rpInt
def kTii (t : Tii) : List Key := [.inr t.a, .inl t.b, .inl t.c]
theorem kTii_inj {t t' : Tii} (h : kTii t = kTii t') : t = t' := by
  obtain ⟨a, b, c⟩ := t
  obtain ⟨a', b', c'⟩ := t'
  unfold kTii at h
  injection h with h1 h2
  injection h2 with h2 h3
  injection h3 with h3 h4
  injection h1 with h1
  injection h2 with h2
  injection h3 with h3
  rw [show a = a' from h1, show b = b' from h2, show c = c' from h3]
theorem tii_refs {K : PySem.W.Frag} {H : Hp} : ∀ {xs : List Tii} {vs : List V}, Paired (rpTii.rp K H) xs vs → ∃ ks : List (Addr × List Key), vs = ks.map (fun p => V.ref p.1) ∧ (∀ p ∈ ks, SqT K H p.1 (p.2.map kV)) ∧ ks.map (·.2) = xs.map kTii
  | _, _, .nil => ⟨[], rfl, fun _ h => (by cases h), rfl⟩
  | t :: xs, _ :: vs, .cons h z => by
    obtain ⟨ks, e, hs, em⟩ := tii_refs z
    obtain ⟨p, x, y, z, rfl, hp, h1, h2, h3⟩ := h
    cases h1; cases h2; cases h3
    refine ⟨(p, kTii t) :: ks, by rw [e]; rfl, fun q hq => ?_, by rw [List.map_cons, List.map_cons, em]⟩
    rcases List.mem_cons.mp hq with e | hq
    · rw [e]; exact .inl (.inl hp)
    · exact hs q hq
theorem ev_lenSetK {xs : List Tii} (h : EvC G te T rpTii xs) (hz : xs.length ≤ 300) (hn : xs.Nodup) : EvD G (tLenSetK G.K te) T rpInt (xs.length : Int) := fun B H σ f Q q =>
  h B H σ f _ fun v B1 H1 x1 e1 => by
    obtain ⟨p, vs, rfl, s, z⟩ := e1
    obtain ⟨ks, rfl, hs, em⟩ := tii_refs (paired_mono x1.s z)
    have hl : ks.length = xs.length := by
      have := congrArg List.length em
      rwa [List.length_map, List.length_map] at this
    have hnd : (ks.map (·.2)).Nodup := by
      rw [em]
      exact List.Pairwise.map kTii (fun a b hab e => hab (kTii_inj e)) hn
    exact ⟨p, ks, rfl, s, hs, by omega, hnd, by rw [hl]; exact q _ B1 H1 x1 rfl⟩
end
end DL

set_option Elab.async false
set_option linter.all false
set_option maxRecDepth 100000
set_option maxHeartbeats 4000000
/-! a law's own layer, forty-eighth part: a def that changes its first argument and a list, its second -/
namespace DL
open PySem PySem.Spec PyProof.Rows L2
/-- a list of one's own, where it stands -/
@[reducible] def oxLs {α : Type} (r : Rp α) : @Ox (List α) (@rpList α r) := @Ox.mk (List α) (@rpList α r)
  (fun K B H a v S => ∃ (p : Addr) (ws : List V), v = .ref p ∧ (∀ q, S q ↔ q = p) ∧ B p = none ∧ H p = some (.lst ws) ∧ Paired (r.rp K B) a ws)
  (by
    rintro K B H B' H' a v S ⟨p, ws, e, hS, b, h, z⟩ sb k
    obtain ⟨k1, k2⟩ := k p ((hS p).mpr rfl)
    exact ⟨p, ws, e, hS, k2, k1.trans h, paired_mono sb z⟩)
  (by
    rintro K B H a v S ⟨p, ws, e, hS, b, h, z⟩ q hq
    rw [(hS q).mp hq]
    exact ⟨b, by rw [h]; intro z; cases z⟩)
  (by
    rintro K B H a v S ⟨p, ws, e, hS, b, h, z⟩ H' sb k
    exact ⟨p, ws, e, (k p ((hS p).mpr rfl)).trans h, paired_mono sb z⟩)
section
variable {G : Cn} {T : List Ty} {D : Ends} {te : TE} {tu : TS} {α : Type} {r : Rp α}
theorem g_appLs {i : Nat} {u : V} {a : List α} {y : α} (hi : T[i]? = some (.ow (@owV (List α) (@rpList α r) u (oxLs r)) a)) (h : EvD G te T r y) (hz : a.length < 100000) (q : Goes G (T.set i (.ow (@owV (List α) (@rpList α r) u (oxLs r)) (a ++ [y]))) D.nx) :
    Goes G T (tDrop (tBM G.K "list" rAppend (tVar i) (tCons te tNil)) D) := fun B H σ f => by
  obtain ⟨S, e1, ⟨p, ws, rfl, hS, b, hH, z⟩, hS0, kk⟩ := @Fr.mutO G T (List α) (@rpList α r) (oxLs r) B H σ f i a u hi
  refine ⟨_, e1, .inl ⟨rfl, ws, .inl (.inl hH)⟩, h B H σ f _ fun v B1 H1 x1 h1 => ⟨p, ws, v, rfl, rfl, x1.h _ _ hH, by rw [← Paired.length z]; exact sz_lt hz, ?_⟩⟩
  have bp : B1 p = none := x1.none hH b
  have oth : ∀ x, x ≠ p → upd H1 p (.lst (ws ++ [v])) x = H1 x := fun x hx => upd_ne hx
  refine q B1 _ σ (kk (List α) (@rpList α r) (oxLs r) (a ++ [y]) B1 _ (fun x => x = p) ⟨x1.b, fun x o hx => ?_, fun x o hx => ?_, fun x hx => ?_⟩ (fun x hx => ?_) ⟨p, ws ++ [v], rfl, fun _ => Iff.rfl, bp, upd_same, paired_append (paired_mono x1.b z) (.cons h1 .nil)⟩)
  · obtain ⟨g1, g2⟩ := delS_some hx
    rw [oth x fun z => g1 ((hS x).mpr z)]
    exact x1.h _ _ g2
  · rw [oth x (ne_of_none hx bp)]
    exact x1.s x o hx
  · refine x1.n x fun z => hx ?_
    by_cases hs : S x
    · exact delS_in hs
    · rw [delS_ne hs]; exact z
  · exact delS_in ((hS x).mpr hx)
theorem q_appLs {i : Nat} {u : V} {a : List α} {y : α} (hi : T[i]? = some (.ow (@owV (List α) (@rpList α r) u (oxLs r)) a)) (h : EvD G te T r y) (hz : a.length < 100000) (q : Goes G (T.set i (.ow (@owV (List α) (@rpList α r) u (oxLs r)) (a ++ [y]))) (tu D)) :
    Goes G T (tSeq (tDrop (tBM G.K "list" rAppend (tVar i) (tCons te tNil))) tu D) := g_appLs (D := { D with nx := tu D }) hi h hz q
theorem et_notM {t : TT} {T' : List Ty} {a : Bool} (h1 : EvTM G t T a T') : EvTM G (tNot t) T (!a) T' := fun B H σ f Q q => h1 B H σ f _ fun B1 H1 f1 => q B1 H1 f1
end
def orS (S : Addr → Prop) (p : Addr) : Addr → Prop := fun q => S q ∨ q = p
/-! the promise -/
def SpM2 (K : PySem.W.Frag) {α ι β γ : Type} [Rp α] (w : Ox α) (rg : Rp γ) (As : ι → List Ty) (pre : α × List γ × ι → Prop) (r : Rp β) (f : α × List γ × ι → β × α × List γ) : Sp := fun vs H Q E => ∃ (B : Hp) (a : α) (l : List γ) (x : ι) (u : V) (p : Addr) (ws : List V) (us : List V) (S : Addr → Prop),
  Same B H ∧ pre (a, l, x) ∧ vs = u :: .ref p :: us ∧ w.ox K B H a u S ∧ ¬ S p ∧ B p = none ∧ H p = some (.lst ws) ∧ Paired (rg.rp K B) l ws ∧ ArgsOk K B us (As x) ∧
  ∀ y a' l', f (a, l, x) = (y, a', l') → ∀ v B' H' S' ws', Ext B (delS H (orS S p)) B' H' → (∀ q, S' q → delS H (orS S p) q = none) → w.ox K B' H' a' u S' → ¬ S' p → B' p = none → H' p = some (.lst ws') → Paired (rg.rp K B') l' ws' → r.rp K B' y v → Q v H'
def RetM2 (G : Cn) (rt : VK) {α β γ : Type} [Rp α] (u : V) (p : Addr) (w : Ox α) (rg : Rp γ) (r : Rp β) (y : β) (a : α) (l : List γ) : Prop := ∀ v B H S ws, Ext G.B0 G.H0 B H → (∀ q, S q → G.H0 q = none) → w.ox G.K B H a u S → ¬ S p → B p = none → H p = some (.lst ws) → Paired (rg.rp G.K B) l ws → r.rp G.K B y v → rt v H
section
variable {G : Cn} {T : List Ty} {D : Ends} {α β γ : Type} [ra : Rp α] {rg : Rp γ}
theorem RetM2.root {w : Ox α} {r : Rp β} {y : β} {u : V} {p : Addr} {B1 : Hp} {rt : VK} {a : α} {l : List γ} (h : RetM2 G rt u p w rg r y a l) (up : Up G B1) : RetM2 (G.at B1) rt u p w rg r y a l := fun v B H S ws x => h v B H S ws (up.ext x)
theorem g_retV2 {w : Ox α} {r : Rp β} {te : TE} {y : β} {u : V} {p : Addr} {i j : Nat} {a : α} {l : List γ} (hi : T[i]? = some (.ow (owV u w) a)) (hj : T[j]? = some (.ow (@owV (List γ) (@rpList γ rg) (.ref p) (oxLs rg)) l)) (hij : i ≠ j) (h : EvD G te T r y) (q : RetM2 G D.rt u p w rg r y a l) : Goes G T (tRet te D) := fun B H σ f => h B H σ f _ fun v B1 H1 x1 e1 => by
  have f1 := f.ext x1
  obtain ⟨own, o0, sl⟩ := f1.sl
  obtain ⟨s, _, u', rfl, rfl, S, hS, ho⟩ := sl i _ hi
  obtain ⟨s2, _, u2, rfl, e2, S2, hS2, p', ws, ep, hS3, b, hH, z⟩ := sl j _ hj
  have e3 : V.ref p = V.ref p' := e2.symm.trans ep
  injection e3 with e3
  subst e3
  refine q v B1 H1 S ws f1.ext0 (fun p hp => o0 p i (hS p hp)) ho (fun hp => ?_) b hH z e1
  have h1 : own p = some i := hS p hp
  have h2 : own p = some j := hS2 p ((hS3 p).mpr rfl)
  rw [h1] at h2
  exact hij (Option.some.inj h2)
/-- both are changed, by what changes nothing else -/
theorem Fr.mut2 {w : Ox α} {B H : Hp} {σ : L2.St} (f : Fr G B H σ T) {j i : Nat} {a : α} {u : V} {l : ML γ} (hj : T[j]? = some (.ow (owV u w) a)) (hi : T[i]? = some (.ow (@owML γ rg) l)) (hij : j ≠ i) :
    ∃ (S : Addr → Prop) (p : Addr) (ws : List V), σ[j]? = some (some u) ∧ σ[i]? = some (some (.ref p)) ∧ w.ox G.K B H a u S ∧ ¬ S p ∧ B p = none ∧ H p = some (.lst ws) ∧ Paired (rg.rp G.K B) l.l ws ∧
      ∀ (a' : α) (l' : List γ) (B' H' : Hp) (S' : Addr → Prop) (ws' : List V), Ext B (delS H (orS S p)) B' H' → (∀ q, S' q → delS H (orS S p) q = none) → w.ox G.K B' H' a' u S' → ¬ S' p → B' p = none → H' p = some (.lst ws') → Paired (rg.rp G.K B') l' ws' →
        Fr G B' H' σ ((T.set j (.ow (owV u w) a')).set i (.ow (@owML γ rg) ⟨l'⟩)) := by
  classical
  obtain ⟨own, o0, sl⟩ := f.sl
  obtain ⟨s, e1, v, rfl, ev, S, hS, ho⟩ := sl j _ hj
  have ev : v = u := ev
  subst v
  obtain ⟨s2, d1, v2, rfl, p, ws, rfl, hp, nb, hH, z⟩ := sl i _ hi
  have hSp : ¬ S p := fun y => by
    have this : own p = some j := hS p y
    rw [hp] at this
    exact hij (Option.some.inj this).symm
  refine ⟨S, p, ws, e1, d1, ho, hSp, nb, hH, z, fun a' l' B' H' S' ws' x hS' ho' hS'p nb' hH' z' => ?_⟩
  have nU : ∀ q, G.H0 q ≠ none → ¬ orS S p q := fun q hq y => by
    rcases y with y | rfl
    · exact hq (o0 q j (hS q y))
    · exact hq (o0 _ i hp)
  have keep : ∀ q, ¬ orS S p q → H q ≠ none → H' q = H q ∧ B' q = B q := fun q hq hn => by
    refine ⟨?_, x.n q (by rw [delS_ne hq]; exact hn)⟩
    cases hHq : H q with
    | none => exact absurd hHq hn
    | some o => exact x.h q o (by rw [delS_ne hq]; exact hHq)
  refine ⟨x.s, f.b0.trans x.b, fun q o e => ?_, fun q hq => ?_, by rw [List.length_set, List.length_set]; exact f.len, fun q => if q = p then some i else if S' q then some j else own q, fun q n e => ?_, fun n t e => ?_⟩
  · have e2 := f.h0 q o e
    rw [(keep q (nU q (by rw [e]; intro z; cases z)) (by rw [e2]; intro z; cases z)).1]
    exact e2
  · rw [(keep q (nU q hq) fun z => hq (f.h0.free z)).2, f.n0 q hq]
  · dsimp only at e
    by_cases c : q = p
    · rw [c]; exact o0 p i hp
    · rw [if_neg c] at e
      by_cases y : S' q
      · have := hS' q y
        by_cases y2 : S q
        · exact o0 q j (hS q y2)
        · rw [delS_ne fun y3 => y3.elim y2 c] at this
          exact f.h0.free this
      · rw [if_neg y] at e; exact o0 q n e
  · by_cases hn : i = n
    · subst hn
      have hl : i < (T.set j (.ow (owV u w) a')).length := by rw [List.length_set]; exact (List.getElem?_eq_some_iff.mp hi).1
      rw [List.getElem?_set_self hl] at e
      cases e
      exact ⟨_, d1, _, rfl, p, ws', rfl, if_pos rfl, nb', hH', z'⟩
    · rw [List.getElem?_set_ne hn] at e
      by_cases hnj : j = n
      · subst hnj
        have hl : j < T.length := (List.getElem?_eq_some_iff.mp hj).1
        rw [List.getElem?_set_self hl] at e
        cases e
        refine ⟨_, e1, _, rfl, rfl, S', fun q hq => ?_, ho'⟩
        show (if q = p then some i else if S' q then some j else own q) = some j
        rw [if_neg fun c => hS'p (by rw [← c]; exact hq), if_pos hq]
      · rw [List.getElem?_set_ne hnj] at e
        obtain ⟨s, e3, q⟩ := sl n t e
        refine ⟨s, e3, ?_⟩
        cases t with
        | im r a => obtain ⟨v, e, q⟩ := q; exact ⟨v, e, r.mono x.b q⟩
        | ow r a =>
          obtain ⟨v, e, q⟩ := q
          refine ⟨v, e, r.fr q x.b fun y hy hny => ?_⟩
          have n1 : y ≠ p := fun z => by rw [z, hp] at hy; exact hn (Option.some.inj hy)
          have n2 : ¬ S y := fun z => hnj (Option.some.inj ((hS y z).symm.trans hy))
          have n3 : ¬ orS S p y := fun z => z.elim n2 n1
          have n4 : ¬ S' y := fun z => by
            have := hS' y z
            rw [delS_ne n3] at this
            exact hny this
          exact ⟨by show (if y = p then some i else if S' y then some j else own y) = some n; rw [if_neg n1, if_neg n4]; exact hy, keep y n3 hny⟩
        | un => exact q
        | any => trivial
theorem Fr.entryM2 {K : PySem.W.Frag} {B H : Hp} {w : Ox α} {a : α} {l : List γ} {u : V} {p : Addr} {ws us : List V} {S : Addr → Prop} {As : List Ty} {N : List Str} (s : Same B H) (ho : w.ox K B H a u S) (hSp : ¬ S p) (nb : B p = none) (hH : H p = some (.lst ws)) (z : Paired (rg.rp K B) l ws) (h : ArgsOk K B us As) :
    Fr ⟨K, B, delS H (orS S p)⟩ B H (L2.start N (u :: .ref p :: us)) ((Ty.ow (owV u w) a :: Ty.ow (@owV (List γ) (@rpList γ rg) (.ref p) (oxLs rg)) l :: As) ++ List.replicate (N.length - (As.length + 2)) Ty.un) := by
  classical
  have f := Fr.entry (K := K) (B := B) (H := H) (vs := u :: .ref p :: us) (As := Ty.im rpAny () :: Ty.im rpAny () :: As) (N := N) s ⟨trivial, trivial, h⟩
  obtain ⟨own, o0, sl⟩ := f.sl
  refine ⟨s, Same.refl _, fun q o e => (delS_some e).2, fun q _ => rfl, by rw [f.len]; rfl, fun q => if q = p then some 1 else if S q then some 0 else none, fun q i e => ?_, fun i t e => ?_⟩
  · dsimp only at e
    split at e
    · rename_i hq; exact delS_in (.inr hq)
    · split at e
      · rename_i hq; exact delS_in (.inl hq)
      · cases e
  · match i, e with
    | 0, e =>
      cases e
      refine ⟨some u, rfl, u, rfl, rfl, S, fun q hq => ?_, ho⟩
      show (if q = p then some 1 else if S q then some 0 else none) = some 0
      rw [if_neg fun c => hSp (by rw [← c]; exact hq), if_pos hq]
    | 1, e =>
      cases e
      exact ⟨some (.ref p), rfl, .ref p, rfl, rfl, fun q => q = p, fun q hq => if_pos hq, p, ws, rfl, fun _ => Iff.rfl, nb, hH, z⟩
    | j + 2, e =>
      obtain ⟨z, e1, q⟩ := sl (j + 2) t e
      refine ⟨z, e1, ?_⟩
      have hm : (∃ (δ : Type) (r : Rp δ) (b : δ), t = Ty.im r b) ∨ t = Ty.un := by
        have e' : (As ++ List.replicate (N.length - (As.length + 2)) Ty.un)[j]? = some t := e
        by_cases hj : j < As.length
        · rw [List.getElem?_append_left hj] at e'
          refine .inl ?_
          clear e q e1 sl o0 f
          have aux : ∀ (us : List V) (As : List Ty), ArgsOk K B us As → ∀ (j : Nat) (t : Ty), As[j]? = some t → ∃ (δ : Type) (r : Rp δ) (b : δ), t = Ty.im r b := by
            intro us As
            induction As generalizing us with
            | nil => intro _ j t e; simp at e
            | cons A As ih =>
              intro h j t e
              cases us with
              | nil => cases h
              | cons v us =>
                cases A with
                | im r b =>
                  cases j with
                  | zero => simp at e; exact ⟨_, r, b, e.symm⟩
                  | succ j => exact ih us h.2 j t (by simpa using e)
                | ow r b => cases h
                | un => cases h
                | any => cases h
          exact aux us As h j t e'
        · rw [List.getElem?_append_right (by omega)] at e'
          exact .inr (List.eq_of_mem_replicate (List.mem_of_getElem? e'))
      rcases hm with ⟨δ, r, b, rfl⟩ | rfl
      · exact q
      · exact q
section
variable {ι : Type} {As : ι → List Ty} {w : Ox α} {pre : α × List γ × ι → Prop} {r : Rp β} {f : α × List γ × ι → β × α × List γ}
variable {P : Program} {wd : World} {K : PySem.W.Frag} {mg : Str → Option Value} {base : Heap} {nm qual : Str} {st : Stmt} {fa : Addr} {fd : FuncData} {N ps : List Str} {k : Nat}
theorem def_okM2 (F : Fun K nm qual st fa fd) (S : FnScope N ps (defScope st)) (len : ∀ x, (As x).length + 2 = ps.length)
    (hbody : ∀ (cdv : Value) (A : Around) (outer : List Env) (s : Shared) (H : Hp) (E : XK), Room k (A.deeper (envOfC qual (defScope st) s.heap.objs.size fa cdv)) →
      ∃ t, PSs (cxOf (L2.CX P wd) P wd K mg base N qual (defScope st) fa cdv A outer s H E) (defBody st) t ∧ ∀ (B H1 : Hp) (a : α) (l : List γ) (x : ι) (u : V) (p : Addr) (Q : VK), pre (a, l, x) → (∀ y a' l', f (a, l, x) = (y, a', l') → RetM2 ⟨K, B, H1⟩ Q u p w rg r y a' l') →
        Goes ⟨K, B, H1⟩ ((.ow (owV u w) a :: .ow (@owV (List γ) (@rpList γ rg) (.ref p) (oxLs rg)) l :: As x) ++ List.replicate (N.length - ((As x).length + 2)) .un) (t { nx := fun _ H' => Q .non H', rt := Q })) :
    FnOk P wd K mg base (L2.CX P wd) (k + 1) fa fd ps (SpM2 K w rg As pre r f) := by
  refine F.okX S (fun vs H Q E h => ?_) (fun cdv A outer s H vs Q E hr h => ?_)
  · obtain ⟨B, a, l, x, u, p, ws, us, S, _, _, rfl, _, _, _, _, _, ok, _⟩ := h
    show us.length + 2 = _
    rw [args_len ok]
    exact len x
  · obtain ⟨B, a, l, x, u, p, ws, us, S, sB, hp, rfl, ho, hSp, nb, hH, z, ok, h1⟩ := h
    obtain ⟨t, ht, hg⟩ := hbody cdv A outer s H E hr
    exact ⟨t, ht, hg B (delS H (orS S p)) a l x u p Q hp (fun y a' l' e v B' H' S' ws' y2 hS ho' n1 n2 n3 n4 hy => h1 y a' l' e v B' H' S' ws' y2 hS ho' n1 n2 n3 n4 hy) B H _ (Fr.entryM2 sB ho hSp nb hH z ok)⟩
end
section
variable {ι : Type} {As : ι → List Ty} {w : Ox α} {pre : α × List γ × ι → Prop} {r : Rp β} {f : α × List γ × ι → β × α × List γ} {E : XK} {tr : TA} {x : ι} {a a' : α} {l' : List γ} {l : ML γ} {y : β} {u : V} {j i : Nat}
/-- f(x, xs, ..), both changed -/
theorem ev_callM2 (hj : T[j]? = some (.ow (owV u w) a)) (hi : T[i]? = some (.ow (@owML γ rg) l)) (hij : j ≠ i) (ha : EvA G tr T (As x)) (hp : pre (a, l.l, x)) (hf : f (a, l.l, x) = (y, a', l')) : EvM G (tCall (SpM2 G.K w rg As pre r f) [] E (tCons (tVar j) (tCons (tVar i) tr))) T r y ((T.set j (.ow (owV u w) a')).set i (.ow (@owML γ rg) ⟨l'⟩)) := fun B H σ fr Q q => by
  obtain ⟨S0, p0, ws0, e1, e2, _⟩ := fr.mut2 hj hi hij
  refine ⟨u, e1, .ref p0, e2, ha B H σ fr _ fun vs B1 H1 x1 ok => ?_⟩
  have fr1 := fr.ext x1
  obtain ⟨S, p, ws, d1, d2, ho, hSp, nb, hH, z, k⟩ := fr1.mut2 hj hi hij
  rw [d2] at e2
  have e3 : V.ref p = V.ref p0 := Option.some.inj (Option.some.inj e2)
  injection e3 with e3
  subst e3
  show SpM2 G.K w rg As pre r f ((u :: .ref p :: vs) ++ []) H1 Q E
  rw [List.append_nil]
  exact ⟨B1, a, l.l, x, u, p, ws, vs, S, x1.s, hp, rfl, ho, hSp, nb, hH, z, ok, fun y' b' l2 e v B' H' S' ws' z2 hS' ho' n1 n2 n3 n4 hy => by
    rw [hf] at e
    cases e
    exact q v B' H' (k a' l' B' H' S' ws' z2 hS' ho' n1 n2 n3 n4) hy⟩
end
end
end DL

set_option Elab.async false
set_option linter.all false
set_option maxRecDepth 100000
set_option maxHeartbeats 4000000
/-! a law's own layer, forty-ninth part: an expression walks a list of the frame's own -/
namespace DL
open PySem PySem.Spec PyProof.Rows L2
section
variable {G : Cn} {T : List Ty} {D : Ends} {te : TE} {α β : Type} {r : Rp α} {r2 : Rp β}
theorem Fr.toLs {B H : Hp} {σ : L2.St} {j : Nat} {l : ML α} (f : Fr G B H σ T) (hj : T[j]? = some (.ow (@owML α r) l)) : ∃ u, Fr G B H σ (T.set j (.ow (@owV (List α) (@rpList α r) u (oxLs r)) l.l)) := by
  obtain ⟨own, o0, sl⟩ := f.sl
  obtain ⟨s, e1, v, rfl, p, ws, rfl, hp, nb, hH, z⟩ := sl j _ hj
  refine ⟨.ref p, f.bh, f.b0, f.h0, f.n0, by rw [List.length_set]; exact f.len, own, o0, fun i t e => ?_⟩
  by_cases hi : j = i
  · subst hi
    have hl : j < T.length := (List.getElem?_eq_some_iff.mp hj).1
    rw [List.getElem?_set_self hl] at e
    cases e
    exact ⟨_, e1, _, rfl, rfl, fun q => q = p, fun q hq => by rw [hq]; exact hp, p, ws, rfl, fun _ => Iff.rfl, nb, hH, z⟩
  · rw [List.getElem?_set_ne hi] at e
    exact sl i t e
/-- the list's place is told for the time of an expression -/
theorem ev_lsN {j : Nat} {l : ML α} {ys : List β} (hj : T[j]? = some (.ow (@owML α r) l)) (h : ∀ u, EvN G te (T.set j (.ow (@owV (List α) (@rpList α r) u (oxLs r)) l.l)) r2 ys) : EvN G te T r2 ys := fun B H σ f Q q => by
  obtain ⟨u, f2⟩ := f.toLs hj
  exact h u B H σ f2 Q q
abbrev KpL (r : Rp α) (j : Nat) (u : V) (xs : List α) : List Ty → Prop := fun T => T[j]? = some (.ow (@owV (List α) (@rpList α r) u (oxLs r)) xs)
theorem kpL_get {j : Nat} {B H : Hp} {σ : L2.St} {p : Addr} {xs : List α} (f : Fr G B H σ T) (h : KpL r j (.ref p) xs T) : ∃ ws, H p = some (.lst ws) ∧ Paired (r.rp G.K B) xs ws := by
  obtain ⟨S, e1, p', ws, e, hS, b, hh, rr⟩ := @Fr.getO G T (List α) (@rpList α r) (oxLs r) B H σ f j xs (.ref p) h
  cases e
  exact ⟨ws, hh, rr⟩
theorem ej_ls {j : Nat} {u : V} {xs : List α} (hj : T[j]? = some (.ow (@owV (List α) (@rpList α r) u (oxLs r)) xs)) : EvJ G (iList G.K (tVar j)) T (KpL r j u xs) r xs := fun B H σ f R q => by
  obtain ⟨S, e1, p, ws, rfl, hS, b, hh, rr⟩ := @Fr.getO G T (List α) (@rpList α r) (oxLs r) B H σ f j xs u hj
  refine ⟨_, e1, p, rfl, ⟨ws, .inl (.inl hh)⟩, q _ ⟨fun G' B H σ T i x eK hk f e => ?_, fun G' B H σ T eK hk f => ?_, fun G' B H σ T i x v H' eK hk f e y => ?_⟩⟩
  · obtain ⟨ws, hp, z⟩ := kpL_get f hk
    obtain ⟨y, h1, _⟩ := paired_get z e
    exact ⟨ws, y, .inl (.inl hp), h1⟩
  · obtain ⟨ws, hp, z⟩ := kpL_get f hk
    exact ⟨ws, .inl (.inl hp), by rw [Paired.length z]; exact Nat.le_refl _⟩
  · obtain ⟨ws, hp, z⟩ := kpL_get f hk
    obtain ⟨rfl, y⟩ := y
    obtain ⟨w, h1, h2⟩ := paired_get z e
    have e2 := Option.some.inj ((y ws (.inl (.inl hp))).symm.trans h1)
    subst e2
    exact ⟨B, Ext.refl f.bh, by rw [← eK]; exact h2⟩
end
end DL
set_option Elab.async false
set_option linter.all false
set_option maxRecDepth 100000
set_option maxHeartbeats 4000000
namespace Law
open PySem PySem.Spec PyProof.Rows L2 DL
def topS (i : Nat) : Stmt := PySem.Challenge.pw_switchhall_k02_whole_calls_are_put_throu.main.body.getD i (.Pass ⟨0, 0, 0, 0⟩)
abbrev s_is_within : Stmt := topS 7
theorem sc_is_within : FnScope ["thing", "low", "high"] ["thing", "low", "high"] (defScope s_is_within) := ⟨rfl, rfl, rfl, by decide +kernel, rfl, by decide +kernel, by decide +kernel⟩
abbrev s_l_cell : Stmt := topS 11
theorem sc_l_cell : FnScope ["_law_script", "_law_k"] ["_law_script", "_law_k"] (defScope s_l_cell) := ⟨rfl, rfl, rfl, by decide +kernel, rfl, by decide +kernel, by decide +kernel⟩
abbrev s_l_mix : Stmt := topS 12
theorem sc_l_mix : FnScope ["_law_cell_here", "_law_prime", "_law_many"] ["_law_cell_here", "_law_prime", "_law_many"] (defScope s_l_mix) := ⟨rfl, rfl, rfl, by decide +kernel, rfl, by decide +kernel, by decide +kernel⟩
abbrev s_l_whole : Stmt := topS 14
theorem sc_l_whole : FnScope ["_law_found"] ["_law_found"] (defScope s_l_whole) := ⟨rfl, rfl, rfl, by decide +kernel, rfl, by decide +kernel, by decide +kernel⟩
abbrev s_Hall___init : Stmt := inClass (topS 9) 0
theorem sc_Hall___init : FnScope ["self", "inlets", "outlets", "frames", "end", "frame"] ["self", "inlets", "outlets", "frames"] (defScope s_Hall___init) := ⟨rfl, rfl, rfl, by decide +kernel, rfl, by decide +kernel, by decide +kernel⟩
abbrev s_Hall_look_end : Stmt := inClass (topS 9) 1
theorem sc_Hall_look_end : FnScope ["self", "some", "end"] ["self", "some", "end"] (defScope s_Hall_look_end) := ⟨rfl, rfl, rfl, by decide +kernel, rfl, by decide +kernel, by decide +kernel⟩
abbrev s_Hall_load : Stmt := inClass (topS 9) 2
theorem sc_Hall_load : FnScope ["self", "row", "one"] ["self", "row"] (defScope s_Hall_load) := ⟨rfl, rfl, rfl, by decide +kernel, rfl, by decide +kernel, by decide +kernel⟩
abbrev s_Hall_load_in : Stmt := inClass (topS 9) 3
theorem sc_Hall_load_in : FnScope ["self", "inlet"] ["self", "inlet"] (defScope s_Hall_load_in) := ⟨rfl, rfl, rfl, by decide +kernel, rfl, by decide +kernel, by decide +kernel⟩
abbrev s_Hall_load_out : Stmt := inClass (topS 9) 4
theorem sc_Hall_load_out : FnScope ["self", "outlet"] ["self", "outlet"] (defScope s_Hall_load_out) := ⟨rfl, rfl, rfl, by decide +kernel, rfl, by decide +kernel, by decide +kernel⟩
abbrev s_Hall_calls : Stmt := inClass (topS 9) 12
theorem sc_Hall_calls : FnScope ["self", "number"] ["self"] (defScope s_Hall_calls) := ⟨rfl, rfl, rfl, by decide +kernel, rfl, by decide +kernel, by decide +kernel⟩
abbrev s_Hall_free : Stmt := inClass (topS 9) 5
theorem sc_Hall_free : FnScope ["self", "row", "frame"] ["self", "row"] (defScope s_Hall_free) := ⟨rfl, rfl, rfl, by decide +kernel, rfl, by decide +kernel, by decide +kernel⟩
abbrev s_Hall_chain : Stmt := inClass (topS 9) 6
theorem sc_Hall_chain : FnScope ["self", "outlet", "one", "other", "found", "end", "frame", "at_outlet", "row"] ["self", "outlet", "one", "other"] (defScope s_Hall_chain) := ⟨rfl, rfl, rfl, by decide +kernel, rfl, by decide +kernel, by decide +kernel⟩
abbrev s_Hall_lift : Stmt := inClass (topS 9) 7
theorem sc_Hall_lift : FnScope ["self", "number", "inlet", "outlet", "frame"] ["self", "number"] (defScope s_Hall_lift) := ⟨rfl, rfl, rfl, by decide +kernel, rfl, by decide +kernel, by decide +kernel⟩
abbrev s_Hall_lay : Stmt := inClass (topS 9) 8
theorem sc_Hall_lay : FnScope ["self", "number", "inlet", "outlet", "frame"] ["self", "number", "inlet", "outlet", "frame"] (defScope s_Hall_lay) := ⟨rfl, rfl, rfl, by decide +kernel, rfl, by decide +kernel, by decide +kernel⟩
abbrev s_Hall_swap : Stmt := inClass (topS 9) 9
theorem sc_Hall_swap : FnScope ["self", "numbers", "one", "other", "number", "inlet", "outlet", "frame"] ["self", "numbers", "one", "other"] (defScope s_Hall_swap) := ⟨rfl, rfl, rfl, by decide +kernel, rfl, by decide +kernel, by decide +kernel⟩
abbrev s_Hall_put : Stmt := inClass (topS 9) 10
theorem sc_Hall_put : FnScope ["self", "inlet", "outlet", "mine", "theirs", "frame", "both", "moved", "number"] ["self", "inlet", "outlet"] (defScope s_Hall_put) := ⟨rfl, rfl, rfl, by decide +kernel, rfl, by decide +kernel, by decide +kernel⟩
abbrev s_Hall_drop : Stmt := inClass (topS 9) 11
theorem sc_Hall_drop : FnScope ["self", "number", "frame"] ["self", "number"] (defScope s_Hall_drop) := ⟨rfl, rfl, rfl, by decide +kernel, rfl, by decide +kernel, by decide +kernel⟩
abbrev s_l_sizes : Stmt := topS 15
theorem sc_l_sizes : FnScope ["_law_script"] ["_law_script"] (defScope s_l_sizes) := ⟨rfl, rfl, rfl, by decide +kernel, rfl, by decide +kernel, by decide +kernel⟩
abbrev s_l_large : Stmt := topS 13
theorem sc_l_large : FnScope ["_law_script"] ["_law_script"] (defScope s_l_large) := ⟨rfl, rfl, rfl, by decide +kernel, rfl, by decide +kernel, by decide +kernel⟩
abbrev s_l_small : Stmt := topS 16
theorem sc_l_small : FnScope ["_law_script"] ["_law_script"] (defScope s_l_small) := ⟨rfl, rfl, rfl, by decide +kernel, rfl, by decide +kernel, by decide +kernel⟩
abbrev s_l_goes : Stmt := topS 17
theorem sc_l_goes : FnScope ["_law_script", "_law_most"] ["_law_script"] (defScope s_l_goes) := ⟨rfl, rfl, rfl, by decide +kernel, rfl, by decide +kernel, by decide +kernel⟩
abbrev s_l_deed : Stmt := topS 18
theorem sc_l_deed : FnScope ["_law_cell_here", "_law_sizes_here", "_law_known"] ["_law_cell_here", "_law_sizes_here", "_law_known"] (defScope s_l_deed) := ⟨rfl, rfl, rfl, by decide +kernel, rfl, by decide +kernel, by decide +kernel⟩
abbrev s_l_put : Stmt := topS 19
theorem sc_l_put : FnScope ["_law_hall", "_law_inlet", "_law_outlet"] ["_law_hall", "_law_inlet", "_law_outlet"] (defScope s_l_put) := ⟨rfl, rfl, rfl, by decide +kernel, rfl, by decide +kernel, by decide +kernel⟩
abbrev s_l_loads : Stmt := topS 20
theorem sc_l_loads : FnScope ["_law_book", "_law_inlet", "_law_outlet", "_law_one_here", "_law_ins"] ["_law_book", "_law_inlet", "_law_outlet"] (defScope s_l_loads) := ⟨rfl, rfl, rfl, by decide +kernel, rfl, by decide +kernel, by decide +kernel⟩
abbrev s_l_good : Stmt := topS 21
theorem sc_l_good : FnScope ["_law_told", "_law_book", "_law_frames", "_law_one_here", "_law_ends"] ["_law_told", "_law_book", "_law_frames"] (defScope s_l_good) := ⟨rfl, rfl, rfl, by decide +kernel, rfl, by decide +kernel, by decide +kernel⟩
abbrev s_l_one : Stmt := topS 22
theorem sc_l_one : FnScope ["_law_hall", "_law_book", "_law_inlet", "_law_outlet", "_law_frames", "_law_given", "_law_found"] ["_law_hall", "_law_book", "_law_inlet", "_law_outlet", "_law_frames", "_law_given"] (defScope s_l_one) := ⟨rfl, rfl, rfl, by decide +kernel, rfl, by decide +kernel, by decide +kernel⟩
abbrev s_law : Stmt := topS 23
theorem sc_law : FnScope ["_law_script", "_law_sizes_here", "_law_hall", "_law_book", "_law_given", "_law_cell_here", "_law_one_here", "_law_deed_here", "_law_many"] ["_law_script"] (defScope s_law) := ⟨rfl, rfl, rfl, by decide +kernel, rfl, by decide +kernel, by decide +kernel⟩
section
variable {P : Program} {w : World} {K : PySem.W.Frag} {mg : Str → Option Value} {base : Heap}
/-! ### is_within -/
abbrev SpWithin (K : PySem.W.Frag) : Sp := SpX K (fun x : D × Int × Int => [.im rpD x.1, .im rpInt x.2.1, .im rpInt x.2.2]) (fun _ => True) rpBool fun x => .ok (within x.1 x.2.1 x.2.2)
theorem ok_is_within (F : DefT K mg "is_within" s_is_within ["thing", "low", "high"]) (bl : Blt mg) : Def P w K mg base 1 "is_within" ["thing", "low", "high"] (SpWithin K) :=
  F.to fun f fd F => def_ok F sc_is_within (fun _ => rfl) fun cdv A outer s H E hr => ⟨_, (pss_one (ps_ret (pe_and (pe_callB (kr_isi K rfl) (by rfl) bl.isinstance (by decide +kernel) (pa_cons (pv 0) (pa_cons (pe_bltn (v := .ty "int") (by rfl) bl.int (by decide +kernel) rfl) pa_nil))) (pe_and (pe_not (pe_callB (kr_isi K rfl) (by rfl) bl.isinstance (by decide +kernel) (pa_cons (pv 0) (pa_cons (pe_bltn (v := .ty "bool") (by rfl) bl.bool (by decide +kernel) rfl) pa_nil)))) (pe_one (pe_chain op_le op_le (pv 1) (pv 0) (pv 2))))))), fun B x Q hp h1 h2 => by
    obtain ⟨d, lo, hi⟩ := x
    cases d with
    | int i => exact g_ret (EvD.is (ev_andV (ev_isi (b := true) (EvD.h (ev_var rfl)) fun _ => rfl) fun _ => ev_andV (ev_notV (ev_isi (b := false) (EvD.h (ev_var rfl)) fun _ => rfl)) fun _ => ev_chain (ev_var rfl) (EvD.ofD (a := i) (ev_var rfl)) (ev_var rfl)) rfl) (h1 _ rfl)
    | bl b => exact g_ret (EvD.is (ev_andV (b := false) (ev_isi (b := true) (EvD.h (ev_var rfl)) fun _ => rfl) fun _ => ev_andV (b := false) (ev_notV (ev_isi (b := true) (EvD.h (ev_var rfl)) fun _ => rfl)) fun h => Bool.noConfusion h) rfl) (h1 _ rfl)
    | _ => exact g_ret (EvD.is (ev_andV (b := false) (ev_isi (b := false) (EvD.h (ev_var rfl)) fun _ => rfl) fun h => Bool.noConfusion h) rfl) (h1 _ rfl)⟩
/-! ### cell -/
abbrev SpCell (K : PySem.W.Frag) : Sp := SpX K (fun x : Scr × Int => [.im rpScr x.1, .im rpInt x.2]) (fun x => 0 ≤ x.2) rpInt fun x => .ok (cell x.1 x.2)
theorem ok_cell (F : DefT K mg "_law_cell" s_l_cell ["_law_script", "_law_k"]) (bl : Blt mg) : Def P w K mg base 1 "_law_cell" ["_law_script", "_law_k"] (SpCell K) :=
  F.to fun f fd F => def_ok F sc_l_cell (fun _ => rfl) fun cdv A outer s H E hr => ⟨_, (pss_cons (ps_if (pt_cmpR op_lt (pv 1) (pe_callB (kr_len K rfl) (by rfl) bl.len PySem.boot_len (pa_cons (pv 0) pa_nil)) (nomark _)) (pss_one (ps_ret (pe_ix (kx_list K rfl) (pv 0) (pv 1) (fun _ _ => rfl)))) pss_nil)
    (pss_one (ps_ret pe_int))), fun B x Q hp h1 h2 => by
    obtain ⟨s, k⟩ := x
    have hp : 0 ≤ k := hp
    refine q_when (et_test (ev_opB (ev_var rfl) (ev_len (EvD.cs (ev_var rfl))))) (fun hb => ?_) (fun hb => ?_)
    · have hb : k < (s.cells.length : Int) := of_decide_eq_true hb
      have hk : k.toNat < s.cells.length := by omega
      have ek : (k.toNat : Int) = k := by omega
      have ea : atI s.cells k = some s.cells[k.toNat] := by
        have := atI_nat (List.getElem?_eq_getElem hk)
        rw [ek] at this
        exact this
      have e : cell s k = s.cells[k.toNat] := by unfold cell; rw [if_pos hb, ea] <;> rfl
      exact g_ret (EvD.is (ev_ix (EvD.cs (ev_var rfl)) (ev_var rfl) ea) e.symm) (h1 _ rfl)
    · have hb : ¬ k < (s.cells.length : Int) := of_decide_eq_false hb
      have e : cell s k = 0 := by unfold cell; rw [if_neg hb]
      exact g_ret (EvD.is ev_int e.symm) (h1 _ rfl)⟩
/-! ### mix -/
abbrev SpMix (K : PySem.W.Frag) : Sp := SpX K (fun x : Int × Int × Int => [.im rpInt x.1, .im rpInt x.2.1, .im rpInt x.2.2]) (fun x => 0 < x.2.1 ∧ 0 < x.2.2) rpInt fun x => .ok (mix x.1 x.2.1 x.2.2)
theorem ok_mix (F : DefT K mg "_law_mix" s_l_mix ["_law_cell_here", "_law_prime", "_law_many"]) : Def P w K mg base 1 "_law_mix" ["_law_cell_here", "_law_prime", "_law_many"] (SpMix K) :=
  F.to fun f fd F => def_ok F sc_l_mix (fun _ => rfl) fun cdv A outer s H E hr => ⟨_, (pss_one (ps_ret (pe_op op_mod (pe_op op_mod (pe_op op_mul (pv 0) pe_int) (pv 1)) (pv 2)))), fun B x Q hp h1 h2 => by
    obtain ⟨c, p, m⟩ := x
    exact g_ret (ev_opC (ev_opC (ev_opC (ev_var rfl) ev_int (.inr (by decide))) (ev_var rfl) hp.1) (ev_var rfl) hp.2) (h1 _ rfl)⟩
/-! ### whole -/
abbrev SpWhole (K : PySem.W.Frag) : Sp := SpX K (fun x : D => [.im rpD x]) (fun _ => True) rpBool fun x => .ok (whole x)
theorem ok_whole (F : DefT K mg "_law_whole" s_l_whole ["_law_found"]) (bl : Blt mg) : Def P w K mg base 1 "_law_whole" ["_law_found"] (SpWhole K) :=
  F.to fun f fd F => def_ok F sc_l_whole (fun _ => rfl) fun cdv A outer s H E hr => ⟨_, (pss_one (ps_ret (pe_and (pe_callB (kr_isi K rfl) (by rfl) bl.isinstance (by decide +kernel) (pa_cons (pv 0) (pa_cons (pe_bltn (v := .ty "int") (by rfl) bl.int (by decide +kernel) rfl) pa_nil))) (pe_one (pe_not (pe_callB (kr_isi K rfl) (by rfl) bl.isinstance (by decide +kernel) (pa_cons (pv 0) (pa_cons (pe_bltn (v := .ty "bool") (by rfl) bl.bool (by decide +kernel) rfl) pa_nil)))))))), fun B d Q hp h1 h2 => by
    cases d with
    | int i => exact g_ret (EvD.is (ev_andV (ev_isi (b := true) (EvD.h (ev_var rfl)) fun _ => rfl) fun _ => ev_notV (ev_isi (b := false) (EvD.h (ev_var rfl)) fun _ => rfl)) rfl) (h1 _ rfl)
    | bl b => exact g_ret (EvD.is (ev_andV (ev_isi (b := true) (EvD.h (ev_var rfl)) fun _ => rfl) fun _ => ev_notV (ev_isi (b := true) (EvD.h (ev_var rfl)) fun _ => rfl)) rfl) (h1 _ rfl)
    | _ => exact g_ret (EvD.is (ev_andV (b := false) (ev_isi (b := false) (EvD.h (ev_var rfl)) fun _ => rfl) fun h => Bool.noConfusion h) rfl) (h1 _ rfl)⟩
/-! ### tabmath -/
/-! ### tables, plainly -/
def _root_.DL.D.toL : D → List D
  | .lst l => l
  | _ => []
def rowOk (row : D) (n : Int) : Bool := match row with
  | .lst l => decide ((l.length : Int) = n) && l.all fun x => within x 0 99
  | _ => false
def isL : D → Bool
  | .lst _ => true
  | _ => false
def tabOk (rows : List D) : Bool := decide (1 ≤ rows.length ∧ rows.length ≤ 6) && (isL (rows.getD 0 .non) && decide (1 ≤ (rows.getD 0 .non).toL.length ∧ (rows.getD 0 .non).toL.length ≤ 6) && rows.all fun row => rowOk row ((rows.getD 0 .non).toL.length : Int))
def tabOf : D → Option (List (List Int))
  | .lst rows => if tabOk rows = true then some (rows.map fun row => row.toL.map D.toI) else none
  | _ => none
/-- a good table -/
structure IsTab (t : List (List Int)) (w : Nat) : Prop where
  r1 : 1 ≤ t.length
  r2 : t.length ≤ 6
  c1 : 1 ≤ w
  c2 : w ≤ 6
  len : ∀ row ∈ t, row.length = w
  val : ∀ row ∈ t, ∀ x ∈ row, 0 ≤ x ∧ x ≤ 99
theorem rowOk_is {row : D} {n : Int} (h : rowOk row n = true) : ∃ xs : List Int, row = ToD.d xs ∧ (xs.length : Int) = n ∧ ∀ x ∈ xs, 0 ≤ x ∧ x ≤ 99 := by
  cases row with
  | lst l =>
    have h : (decide ((l.length : Int) = n) && l.all fun x => within x 0 99) = true := h
    rw [Bool.and_eq_true, decide_eq_true_eq, List.all_eq_true] at h
    have e := all_int h.2
    refine ⟨l.map D.toI, ?_, by rw [List.length_map]; exact h.1, fun x hx => ?_⟩
    · show D.lst l = D.lst ((l.map D.toI).map D.int)
      rw [← e]
    · obtain ⟨i, hi, a, b⟩ := within_int (h.2 (D.int x) (by rw [e]; exact List.mem_map.mpr ⟨x, hx, rfl⟩))
      cases hi
      exact ⟨a, b⟩
  | _ => cases h
theorem rowOk_of {xs : List Int} {n : Int} (h1 : (xs.length : Int) = n) (h2 : ∀ x ∈ xs, 0 ≤ x ∧ x ≤ 99) : rowOk (ToD.d xs) n = true := by
  show (decide (((xs.map D.int).length : Int) = n) && (xs.map D.int).all fun x => within x 0 99) = true
  rw [List.length_map, Bool.and_eq_true, decide_eq_true_eq, List.all_eq_true]
  refine ⟨h1, fun x hx => ?_⟩
  obtain ⟨i, hi, rfl⟩ := List.mem_map.mp hx
  obtain ⟨a, b⟩ := h2 i hi
  show (decide (0 ≤ i) && decide (i ≤ 99)) = true
  rw [Bool.and_eq_true, decide_eq_true_eq, decide_eq_true_eq]
  exact ⟨a, b⟩
theorem toL_d (xs : List Int) : (ToD.d xs).toL.map D.toI = xs := toI_int xs
theorem toL_len (xs : List Int) : (ToD.d xs).toL.length = xs.length := by show (xs.map D.int).length = _; rw [List.length_map]
theorem tab_getD {t : List (List Int)} (h : 0 < t.length) : (t.map fun row => (ToD.d row : D)).getD 0 .non = ToD.d (t.getD 0 []) := by
  rw [List.getD_eq_getElem?_getD, List.getD_eq_getElem?_getD, List.getElem?_map, List.getElem?_eq_getElem h]
  rfl
theorem tab_row0 {t : List (List Int)} {w : Nat} (h : IsTab t w) : (t.getD 0 []).length = w := by
  have h1 := h.r1
  rw [List.getD_eq_getElem?_getD, List.getElem?_eq_getElem (by omega)]
  exact h.len _ (List.getElem_mem _)
theorem tabOf_tab {t : List (List Int)} {w : Nat} (h : IsTab t w) : tabOf (ToD.d t) = some t := by
  show (if tabOk (t.map fun row => (ToD.d row : D)) = true then some ((t.map fun row => (ToD.d row : D)).map fun row => row.toL.map D.toI) else none) = some t
  have h1 := h.r1
  have e : tabOk (t.map fun row => (ToD.d row : D)) = true := by
    unfold tabOk
    rw [tab_getD (by omega), toL_len, tab_row0 h, List.length_map, Bool.and_eq_true, Bool.and_eq_true, Bool.and_eq_true, decide_eq_true_eq, decide_eq_true_eq, List.all_eq_true]
    refine ⟨⟨h.r1, h.r2⟩, ⟨rfl, h.c1, h.c2⟩, fun x hx => ?_⟩
    obtain ⟨row, hr, rfl⟩ := List.mem_map.mp hx
    exact rowOk_of (by rw [h.len row hr]) (h.val row hr)
  rw [if_pos e, List.map_map]
  congr 1
  conv => rhs; rw [← List.map_id t]
  exact List.map_congr_left fun row _ => toL_d row
theorem tabOf_is {d : D} {t : List (List Int)} (h : tabOf d = some t) : ∃ w, IsTab t w ∧ d = ToD.d t := by
  cases d with
  | lst rows =>
    have h' : (if tabOk rows = true then some (rows.map fun row => row.toL.map D.toI) else none) = some t := h
    by_cases e : tabOk rows = true
    · rw [if_pos e] at h'
      have e2 := Option.some.inj h'
      unfold tabOk at e
      rw [Bool.and_eq_true, Bool.and_eq_true, Bool.and_eq_true, decide_eq_true_eq, decide_eq_true_eq, List.all_eq_true] at e
      obtain ⟨h1, ⟨h2, h3⟩, h4⟩ := e
      have e3 : rows = t.map fun row => (ToD.d row : D) := by
        rw [← e2, List.map_map]
        conv => lhs; rw [← List.map_id rows]
        refine List.map_congr_left fun row hr => ?_
        obtain ⟨xs, rfl, _⟩ := rowOk_is (h4 row hr)
        show ToD.d xs = ToD.d ((ToD.d xs).toL.map D.toI)
        rw [toL_d]
      have hl : t.length = rows.length := by rw [← e2, List.length_map]
      refine ⟨_, ⟨by omega, by omega, h3.1, h3.2, fun row hr => ?_, fun row hr => ?_⟩, by show D.lst rows = D.lst (t.map fun row => (ToD.d row : D)); rw [← e3]⟩
      · obtain ⟨xs, e4, e5, _⟩ := rowOk_is (h4 (ToD.d row) (by rw [e3]; exact List.mem_map.mpr ⟨row, hr, rfl⟩))
        have : row = xs := by
          have := congrArg (fun d : D => d.toL.map D.toI) e4
          simpa [toL_d] using this
        rw [this]
        omega
      · obtain ⟨xs, e4, _, e5⟩ := rowOk_is (h4 (ToD.d row) (by rw [e3]; exact List.mem_map.mpr ⟨row, hr, rfl⟩))
        have : row = xs := by
          have := congrArg (fun d : D => d.toL.map D.toI) e4
          simpa [toL_d] using this
        rw [this]
        exact e5
    · rw [if_neg e] at h'
      cases h'
  | _ => cases h
def colS (t : List (List Int)) (c : Int) : Int := (t.map fun row => row.getD c.toNat 0).sum
def reachL (t : List (List Int)) : List Int := t.map List.sum ++ (rng 0 (t.getD 0 []).length).map (colS t)
def reachN (t : List (List Int)) : Int := maxL (reachL t)
theorem reach_ne {t : List (List Int)} (h : 1 ≤ t.length) : 0 < (reachL t).length := by
  unfold reachL
  rw [List.length_append, List.length_map]
  omega
/-! ### hall1 -/
def noneRows (n m : Int) : List (List (Option Int)) := (rng 0 n.toNat).map fun _ => (rng 0 m.toNat).map fun _ => (none : Option Int)
def newHall (C : Addr) (i o f : Int) : HD C := ⟨5, f, noneRows i f, noneRows o f, [], 0⟩
def sizesOk (x : D × D × D) : Bool := within x.1 1 12 && (within x.2.1 1 12 && within x.2.2 1 8)
def initE {C : Addr} (N : Addr) (x : HD C × (D × D × D)) : Except Addr (Unit × HD C) := if sizesOk x.2 = true then .ok ((), newHall C x.2.1.toI x.2.2.1.toI x.2.2.2.toI) else .error N
abbrev SpInit (K : PySem.W.Frag) (C N : Addr) : Sp := SpM K (oxHD (C := C)) (fun x : D × D × D => [.im rpD x.1, .im rpD x.2.1, .im rpD x.2.2]) (fun x => x.1 = hd0 C) rpUnit (initE N)
theorem ok_init {C N : Addr} (F : IDefT K mg C "Hall" "Hall.__init__" s_Hall___init ["self", "inlets", "outlets", "frames"]) (bl : Blt mg) (h_Hall : HCls K C) (c_BadHall : ECls K mg "BadHall" N) (d_is_within : Def P w K mg base 1 "is_within" ["thing", "low", "high"] (SpWithin K)) : IDef P w K mg base C 2 "Hall" ["self", "inlets", "outlets", "frames"] (SpInit K C N) :=
  F.to fun f fd F => def_okM F sc_Hall___init (fun _ => rfl) fun cdv A outer s H E hr => ⟨_, (pss_cons (ps_if (PW.pt (pw_or (pt_not (pt_val (pe_callD d_is_within hr (by rfl) (passes_call (takes_of rfl rfl rfl rfl) (fun _ _ _ _ h => h)) (pa_cons (pv 1) (pa_cons pe_int (pa_cons pe_int pa_nil)))))) (pw_or (pt_not (pt_val (pe_callD d_is_within hr (by rfl) (passes_call (takes_of rfl rfl rfl rfl) (fun _ _ _ _ h => h)) (pa_cons (pv 2) (pa_cons pe_int (pa_cons pe_int pa_nil)))))) (pw_or1 (pt_not (pt_val (pe_callD d_is_within hr (by rfl) (passes_call (takes_of rfl rfl rfl rfl) (fun _ _ _ _ h => h)) (pa_cons (pv 3) (pa_cons pe_int (pa_cons pe_int pa_nil)))))))))) (pss_one (ps_raise rfl (takes_of rfl rfl rfl rfl) c_BadHall.pmk)) pss_nil)
    (pss_cons (kps_fld K rfl (pv 0) (pv 3))
    (pss_cons (kps_fld K rfl (pv 0) (pe_lc (own := [("end", 4)]) (g := gName 4) (tt := tYes) rfl sc_Hall___init.nd (pi_range1 (by rfl) bl.range (pa_cons (pv 1) pa_nil)) (blkOk_by (own := [("end", 4)]) (N := ["self", "inlets", "outlets", "frames", "end", "frame"]) (sc := defScope s_Hall___init) (by decide +kernel)) (fun _ _ _ _ _ => (pg_name (i := 4) sc_Hall___init.nd rfl (Or.inl rfl))) (fun _ _ _ _ _ => pts_nil) (fun _ _ _ _ _ => (pe_lc (own := [("frame", 5)]) (g := gName 5) (tt := tYes) rfl sc_Hall___init.nd (pi_range1 (by rfl) bl.range (pa_cons (pv 3) pa_nil)) (blkOk_by (own := [("frame", 5)]) (N := ["self", "inlets", "outlets", "frames", "end", "frame"]) (by rfl)) (fun _ _ _ _ _ => (pg_name (i := 5) sc_Hall___init.nd rfl (Or.inl rfl))) (fun _ _ _ _ _ => pts_nil) (fun _ _ _ _ _ => pe_non)))))
    (pss_cons (kps_fld K rfl (pv 0) (pe_lc (own := [("end", 4)]) (g := gName 4) (tt := tYes) rfl sc_Hall___init.nd (pi_range1 (by rfl) bl.range (pa_cons (pv 2) pa_nil)) (blkOk_by (own := [("end", 4)]) (N := ["self", "inlets", "outlets", "frames", "end", "frame"]) (sc := defScope s_Hall___init) (by decide +kernel)) (fun _ _ _ _ _ => (pg_name (i := 4) sc_Hall___init.nd rfl (Or.inl rfl))) (fun _ _ _ _ _ => pts_nil) (fun _ _ _ _ _ => (pe_lc (own := [("frame", 5)]) (g := gName 5) (tt := tYes) rfl sc_Hall___init.nd (pi_range1 (by rfl) bl.range (pa_cons (pv 3) pa_nil)) (blkOk_by (own := [("frame", 5)]) (N := ["self", "inlets", "outlets", "frames", "end", "frame"]) (by rfl)) (fun _ _ _ _ _ => (pg_name (i := 5) sc_Hall___init.nd rfl (Or.inl rfl))) (fun _ _ _ _ _ => pts_nil) (fun _ _ _ _ _ => pe_non)))))
    (pss_cons (kps_fld K rfl (pv 0) pe_dnewK)
    (pss_one (kps_fld K rfl (pv 0) pe_int))))))), fun B H1 a x u Q hp h1 h2 => by
    obtain ⟨a1, a2, a3⟩ := x
    have hp : a = hd0 C := hp
    subst hp
    show Goes ⟨K, B, H1⟩ [.ow (owV u (oxHD (C := C))) (hd0 C), .im rpD a1, .im rpD a2, .im rpD a3, .un, .un] _
    refine g_any 4 (g_any 5 ?_)
    refine q_when (b := !sizesOk (a1, a2, a3)) (EvT.is (et_or (et_not (et_B (ev_call (x := (a1, 1, 12)) (b := within a1 1 12) (ea_cons (ev_var rfl) (ea_cons ev_int (ea_cons ev_int ea_nil))) trivial rfl))) fun _ => et_or (et_not (et_B (ev_call (x := (a2, 1, 12)) (b := within a2 1 12) (ea_cons (ev_var rfl) (ea_cons ev_int (ea_cons ev_int ea_nil))) trivial rfl))) fun _ => et_not (et_B (ev_call (x := (a3, 1, 8)) (b := within a3 1 8) (ea_cons (ev_var rfl) (ea_cons ev_int (ea_cons ev_int ea_nil))) trivial rfl))) ?_) (fun hb => ?_) (fun hb => ?_)
    · show (!within a1 1 12 || (!within a2 1 12 || !within a3 1 8)) = !(within a1 1 12 && (within a2 1 12 && within a3 1 8))
      rw [Bool.not_and, Bool.not_and]
    · refine g_raiV (i := 0) (u := u) (w := oxHD (C := C)) rfl (h2 N ?_)
      show (if sizesOk (a1, a2, a3) = true then _ else _) = _
      have hb : sizesOk (a1, a2, a3) = false := by simpa using hb
      rw [hb]
      rfl
    · have hb : sizesOk (a1, a2, a3) = true := by simpa using hb
      have hb2 := hb
      unfold sizesOk at hb2
      rw [Bool.and_eq_true, Bool.and_eq_true] at hb2
      obtain ⟨w1, w2, w3⟩ := hb2
      obtain ⟨i, rfl, i1, i2⟩ := within_int w1
      obtain ⟨o, rfl, o1, o2⟩ := within_int w2
      obtain ⟨fr, rfl, f1, f2⟩ := within_int w3
      have hrow : ∀ {G : Cn} {T : List Ty}, T[3]? = some (Ty.im rpD (D.int fr)) → EvD G (tVar 3) T rpInt fr := fun h => EvD.ofD (α := Int) (a := fr) (ev_var h)
      refine g_seq (g_fldFrames (j := 0) rfl rfl h_Hall (hrow rfl) ?_)
      refine g_seq (g_fldIn (j := 0) (a := noneRows i fr) rfl rfl h_Hall (ev_lcT (fun _ => (rng 0 fr.toNat).map fun _ => (none : Option Int)) (ei_rng1 (EvD.ofD (α := Int) (a := i) (ev_var rfl)) (by omega) (by omega)) (own_name (by decide)) (fun e he => ⟨_, eg_name, ev_lcA (fun _ => (none : Option Int)) (ei_rng1 (hrow rfl) (by omega) (by omega)) (own_name (by decide)) (fun y hy => ⟨_, eg_name, ev_non⟩) (by rw [rng_len]; omega)⟩) (by rw [rng_len]; omega)) ?_)
      refine g_any 4 (g_any 5 ?_)
      refine g_seq (g_fldOut (j := 0) (a := noneRows o fr) rfl rfl h_Hall (ev_lcT (fun _ => (rng 0 fr.toNat).map fun _ => (none : Option Int)) (ei_rng1 (EvD.ofD (α := Int) (a := o) (ev_var rfl)) (by omega) (by omega)) (own_name (by decide)) (fun e he => ⟨_, eg_name, ev_lcA (fun _ => (none : Option Int)) (ei_rng1 (hrow rfl) (by omega) (by omega)) (own_name (by decide)) (fun y hy => ⟨_, eg_name, ev_non⟩) (by rw [rng_len]; omega)⟩) (by rw [rng_len]; omega)) ?_)
      refine g_any 4 (g_any 5 ?_)
      refine g_seq (g_fldEnds (j := 0) (a := []) rfl rfl h_Hall ev_newDI ?_)
      refine g_fldGiven (j := 0) rfl (.inl rfl) h_Hall ev_int ?_
      refine g_endV (i := 0) (u := u) (w := oxHD (C := C)) (a := newHall C i o fr) rfl (h1 () (newHall C i o fr) ?_)
      show (if sizesOk (.int i, .int o, .int fr) = true then _ else _) = _
      rw [hb]
      rfl⟩
/-! ends, loads -/
abbrev rpRows : Rp (List (List (Option Int))) := @rpList (List (Option Int)) (@rpList (Option Int) (@rpOpt Int rpInt))
structure LookA (C : Addr) where
  h : HD C
  rows : List (List (Option Int))
  e : D
def endOk (rows : List (List (Option Int))) (e : D) : Bool := within e 0 ((rows.length : Int) - 1)
abbrev SpLook (K : PySem.W.Frag) (C N : Addr) : Sp := SpX K (fun x : LookA C => [.im rpHD x.h, .im rpRows x.rows, .im rpD x.e]) (fun _ => True) rpUnit fun x => if endOk x.rows x.e = true then .ok () else .error N
theorem ok_look {C N : Addr} (F : MDefT K C "look_end" "Hall.look_end" s_Hall_look_end ["self", "some", "end"]) (bl : Blt mg) (c_NoEnd : ECls K mg "NoEnd" N) (d_is_within : Def P w K mg base 1 "is_within" ["thing", "low", "high"] (SpWithin K)) : MDef P w K mg base C 2 "look_end" ["self", "some", "end"] (SpLook K C N) :=
  F.to fun f fd F => def_ok F sc_Hall_look_end (fun _ => rfl) fun cdv A outer s H E hr => ⟨_, (pss_one (ps_if (pt_not (pt_val (pe_callD d_is_within hr (by rfl) (passes_call (takes_of rfl rfl rfl rfl) (fun _ _ _ _ h => h)) (pa_cons (pv 2) (pa_cons pe_int (pa_cons (pe_op op_sub (pe_callB (kr_len K rfl) (by rfl) bl.len PySem.boot_len (pa_cons (pv 1) pa_nil)) pe_int) pa_nil)))))) (pss_one (ps_raise rfl (takes_of rfl rfl rfl rfl) c_NoEnd.pmk)) pss_nil)), fun B x Q hp h1 h2 => by
    obtain ⟨h, rows, e⟩ := x
    show Goes ⟨K, B, H⟩ [.im rpHD h, .im rpRows rows, .im rpD e] _
    refine g_when (b := !endOk rows e) (et_not (et_B (ev_call (x := (e, 0, (rows.length : Int) - 1)) (b := endOk rows e) (ea_cons (ev_var rfl) (ea_cons ev_int (ea_cons (ev_opI (ev_len (EvD.c (ev_var rfl))) ev_int) ea_nil))) trivial rfl))) (fun hb => ?_) (fun hb => ?_)
    · have hb : endOk rows e = false := by simpa using hb
      exact g_rs (h2 N (by rw [hb]; rfl))
    · have hb : endOk rows e = true := by simpa using hb
      exact fun B' H' σ f => h1 () (by rw [hb]; rfl) .non B' H' f.ext0 rfl⟩
def loadN (row : List (Option Int)) : Int := ((row.filter fun o => !o.isNone).length : Int)
structure LoadA (C : Addr) where
  h : HD C
  row : List (Option Int)
abbrev SpLoad (K : PySem.W.Frag) (C : Addr) : Sp := SpX K (fun x : LoadA C => [.im rpHD x.h, .im (@rpList (Option Int) (@rpOpt Int rpInt)) x.row]) (fun x => x.row.length ≤ 1000) rpInt fun x => .ok (loadN x.row)
theorem ok_load {C : Addr} (F : MDefT K C "load" "Hall.load" s_Hall_load ["self", "row"]) (bl : Blt mg) : MDef P w K mg base C 1 "load" ["self", "row"] (SpLoad K C) :=
  F.to fun f fd F => def_ok F sc_Hall_load (fun _ => rfl) fun cdv A outer s H E hr => ⟨_, (pss_one (ps_ret (pe_callB (kr_len K rfl) (by rfl) bl.len PySem.boot_len (pa_cons (pe_lc (own := [("one", 2)]) (g := gName 2)  rfl sc_Hall_load.nd (kp_list K rfl (pv 1)) (blkOk_by (own := [("one", 2)]) (N := ["self", "row", "one"]) (sc := defScope s_Hall_load) (by decide +kernel)) (fun _ _ _ _ _ => (pg_name (i := 2) sc_Hall_load.nd rfl (Or.inl rfl))) (fun _ _ _ _ _ => (pts_one (pt_cmp (pc_notN (pv 2))))) (fun _ _ _ _ _ => (pv 2))) pa_nil)))), fun B x Q hp h1 h2 => by
    obtain ⟨h, row⟩ := x
    have hp : row.length ≤ 1000 := hp
    show Goes ⟨K, B, H⟩ [.im rpHD h, .im (@rpList (Option Int) (@rpOpt Int rpInt)) row, .un] _
    refine g_ret (EvD.is (ev_len (EvN.c (ev_lc (fun o : Option Int => !o.isNone) (fun o => o) (ei_list (ev_var rfl)) (own_name (by decide)) (fun o ho => ⟨_, eg_name, et_B (ev_notN (EvD.h (ev_var rfl))), fun _ => ev_var rfl⟩) (by omega)))) ?_) (h1 _ rfl)
    rw [List.map_id']
    rfl⟩
theorem fn_look : FreeNm "look_end" := ⟨by decide +kernel, by decide +kernel, by decide +kernel, by decide +kernel, by decide +kernel⟩
theorem fn_load : FreeNm "load" := ⟨by decide +kernel, by decide +kernel, by decide +kernel, by decide +kernel, by decide +kernel⟩
theorem fn_load_in : FreeNm "load_in" := ⟨by decide +kernel, by decide +kernel, by decide +kernel, by decide +kernel, by decide +kernel⟩
theorem fn_load_out : FreeNm "load_out" := ⟨by decide +kernel, by decide +kernel, by decide +kernel, by decide +kernel, by decide +kernel⟩
theorem fn_calls : FreeNm "calls" := ⟨by decide +kernel, by decide +kernel, by decide +kernel, by decide +kernel, by decide +kernel⟩
structure EndA (C : Addr) where
  h : HD C
  e : D
def RowsOk (rows : List (List (Option Int))) : Prop := ∀ row ∈ rows, row.length ≤ 1000
def loadE (N : Addr) (rows : List (List (Option Int))) (e : D) : Except Addr Int := if endOk rows e = true then .ok (loadN (rows.getD e.toI.toNat [])) else .error N
theorem rows_at {rows : List (List (Option Int))} {e : D} (h : endOk rows e = true) : ∃ i : Nat, e = .int (i : Int) ∧ i < rows.length ∧ rows[i]? = some (rows.getD i []) := by
  obtain ⟨k, rfl, h1, h2⟩ := within_int h
  refine ⟨k.toNat, by rw [Int.toNat_of_nonneg h1], by omega, ?_⟩
  rw [List.getD_eq_getElem?_getD, List.getElem?_eq_getElem (by omega)]
  rfl
abbrev SpLoadIn (K : PySem.W.Frag) (C N : Addr) : Sp := SpX K (fun x : EndA C => [.im rpHD x.h, .im rpD x.e]) (fun x => x.h.n = 5 ∧ RowsOk x.h.ain) rpInt fun x => loadE N x.h.ain x.e
theorem ok_load_in {C N : Addr} (F : MDefT K C "load_in" "Hall.load_in" s_Hall_load_in ["self", "inlet"]) (bl : Blt mg) (h_Hall : HCls K C) (m_look_end : MDef P w K mg base C 2 "look_end" ["self", "some", "end"] (SpLook K C N)) (m_load : MDef P w K mg base C 1 "load" ["self", "row"] (SpLoad K C)) : MDef P w K mg base C 3 "load_in" ["self", "inlet"] (SpLoadIn K C N) :=
  F.to fun f fd F => def_ok F sc_Hall_load_in (fun _ => rfl) fun cdv A outer s H E hr => ⟨_, (pss_cons (ps_expr (pe_methD m_look_end h_Hall.cl hr (passes_call (takes_of rfl rfl rfl rfl) (fun _ _ _ _ h => h)) (pv 0) (pa_cons (ke_fld K rfl (pv 0)) (pa_cons (pv 1) pa_nil))))
    (pss_one (ps_ret (pe_methD m_load h_Hall.cl hr (passes_call (takes_of rfl rfl rfl rfl) (fun _ _ _ _ h => h)) (pv 0) (pa_cons (pe_ix (kx_list K rfl) (ke_fld K rfl (pv 0)) (pv 1) (fun _ _ => rfl)) pa_nil))))), fun B x Q hp h1 h2 => by
    obtain ⟨h, e⟩ := x
    obtain ⟨hn, hr⟩ : h.n = 5 ∧ RowsOk h.ain := hp
    show Goes ⟨K, B, H⟩ [.im rpHD h, .im rpD e] _
    cases hb : endOk h.ain e with
    | false => exact gt_drop (ex_methF (x := ⟨h, h.ain, e⟩) (EvD.h (ev_var rfl)) (insHD fn_look) (eah_cons (evh_in (EvD.h (ev_var rfl)) hn h_Hall) (eah_cons (EvD.h (ev_var rfl)) eah_nil)) rfl trivial (by dsimp only; rw [hb]; rfl)) (g_rs (h2 N (by dsimp only; unfold loadE; rw [hb]; rfl)))
    | true =>
      obtain ⟨i, rfl, hi, hg⟩ := rows_at hb
      refine q_drop (ev_methS (x := ⟨h, h.ain, .int i⟩) (EvD.h (ev_var rfl)) (insHD fn_look) (eah_cons (evh_in (EvD.h (ev_var rfl)) hn h_Hall) (eah_cons (EvD.h (ev_var rfl)) eah_nil)) rfl trivial (by dsimp only; rw [hb]; rfl)) ?_
      exact g_ret (ev_methS (x := ⟨h, h.ain.getD i []⟩) (EvD.h (ev_var rfl)) (insHD fn_load) (eah_cons (ev_ixH (evh_in (EvD.h (ev_var rfl)) hn h_Hall) (EvD.ofD (α := Int) (a := (i : Int)) (ev_var rfl)) (atI_nat hg)) eah_nil) rfl (hr _ (List.mem_of_getElem? hg)) rfl) (h1 _ (by dsimp only; unfold loadE; rw [hb]; rfl))⟩
abbrev SpLoadOut (K : PySem.W.Frag) (C N : Addr) : Sp := SpX K (fun x : EndA C => [.im rpHD x.h, .im rpD x.e]) (fun x => x.h.n = 5 ∧ RowsOk x.h.aout) rpInt fun x => loadE N x.h.aout x.e
theorem ok_load_out {C N : Addr} (F : MDefT K C "load_out" "Hall.load_out" s_Hall_load_out ["self", "outlet"]) (bl : Blt mg) (h_Hall : HCls K C) (m_look_end : MDef P w K mg base C 2 "look_end" ["self", "some", "end"] (SpLook K C N)) (m_load : MDef P w K mg base C 1 "load" ["self", "row"] (SpLoad K C)) : MDef P w K mg base C 3 "load_out" ["self", "outlet"] (SpLoadOut K C N) :=
  F.to fun f fd F => def_ok F sc_Hall_load_out (fun _ => rfl) fun cdv A outer s H E hr => ⟨_, (pss_cons (ps_expr (pe_methD m_look_end h_Hall.cl hr (passes_call (takes_of rfl rfl rfl rfl) (fun _ _ _ _ h => h)) (pv 0) (pa_cons (ke_fld K rfl (pv 0)) (pa_cons (pv 1) pa_nil))))
    (pss_one (ps_ret (pe_methD m_load h_Hall.cl hr (passes_call (takes_of rfl rfl rfl rfl) (fun _ _ _ _ h => h)) (pv 0) (pa_cons (pe_ix (kx_list K rfl) (ke_fld K rfl (pv 0)) (pv 1) (fun _ _ => rfl)) pa_nil))))), fun B x Q hp h1 h2 => by
    obtain ⟨h, e⟩ := x
    obtain ⟨hn, hr⟩ : h.n = 5 ∧ RowsOk h.aout := hp
    show Goes ⟨K, B, H⟩ [.im rpHD h, .im rpD e] _
    cases hb : endOk h.aout e with
    | false => exact gt_drop (ex_methF (x := ⟨h, h.aout, e⟩) (EvD.h (ev_var rfl)) (insHD fn_look) (eah_cons (evh_out (EvD.h (ev_var rfl)) hn h_Hall) (eah_cons (EvD.h (ev_var rfl)) eah_nil)) rfl trivial (by dsimp only; rw [hb]; rfl)) (g_rs (h2 N (by dsimp only; unfold loadE; rw [hb]; rfl)))
    | true =>
      obtain ⟨i, rfl, hi, hg⟩ := rows_at hb
      refine q_drop (ev_methS (x := ⟨h, h.aout, .int i⟩) (EvD.h (ev_var rfl)) (insHD fn_look) (eah_cons (evh_out (EvD.h (ev_var rfl)) hn h_Hall) (eah_cons (EvD.h (ev_var rfl)) eah_nil)) rfl trivial (by dsimp only; rw [hb]; rfl)) ?_
      exact g_ret (ev_methS (x := ⟨h, h.aout.getD i []⟩) (EvD.h (ev_var rfl)) (insHD fn_load) (eah_cons (ev_ixH (evh_out (EvD.h (ev_var rfl)) hn h_Hall) (EvD.ofD (α := Int) (a := (i : Int)) (ev_var rfl)) (atI_nat hg)) eah_nil) rfl (hr _ (List.mem_of_getElem? hg)) rfl) (h1 _ (by dsimp only; unfold loadE; rw [hb]; rfl))⟩
/-! ### hcalls -/
/-! ### all calls -/
abbrev Call4 := T4 Int Int Int Int
def endAt (ends : List (Int × T3 Int Int Int)) (n : Int) : T3 Int Int Int := (lookI n ends).getD ⟨0, 0, 0⟩
def callOf (ends : List (Int × T3 Int Int Int)) (n : Int) : Call4 := ⟨n, (endAt ends n).a, (endAt ends n).b, (endAt ends n).c⟩
def callsL (ends : List (Int × T3 Int Int Int)) : List Call4 := (isort (ends.map fun p => p.1)).map (callOf ends)
theorem look_mem {β : Type} {n : Int} : ∀ {kv : List (Int × β)}, n ∈ kv.map (fun p => p.1) → ∃ b, lookI n kv = some b
  | [], h => by cases h
  | (k, c) :: r, h => by
    by_cases e : k = n
    · exact ⟨c, if_pos e⟩
    · rw [List.map_cons] at h
      rcases List.mem_cons.mp h with h | h
      · exact absurd h.symm e
      · obtain ⟨b, hb⟩ := look_mem h
        exact ⟨b, (if_neg e).trans hb⟩
abbrev rpCalls : Rp (List Call4) := @rpList Call4 (@rpT4 Int Int Int Int _ _ _ _)
abbrev SpCalls (K : PySem.W.Frag) (C : Addr) : Sp := SpR K (oxHD (C := C)) (fun _ : Unit => []) (fun x => x.1.n = 5 ∧ x.1.ends.length < 64) rpCalls fun x => .ok (callsL x.1.ends)
theorem ok_calls {C : Addr} (F : MDefT K C "calls" "Hall.calls" s_Hall_calls ["self"]) (bl : Blt mg) (h_Hall : HCls K C) : MDef P w K mg base C 1 "calls" ["self"] (SpCalls K C) :=
  F.to fun f fd F => def_okR F sc_Hall_calls (fun _ => rfl) fun cdv A outer s H E hr => ⟨_, (pss_one (ps_ret (pe_lc (own := [("number", 1)]) (g := gName 1) (tt := tYes) rfl sc_Hall_calls.nd (kp_list K rfl (pe_callB (call_sortedDI rfl) (by rfl) bl.sorted (by decide +kernel) (pa_cons (ke_fld K rfl (pv 0)) pa_nil))) (blkOk_by (own := [("number", 1)]) (N := ["self", "number"]) (sc := defScope s_Hall_calls) (by decide +kernel)) (fun _ _ _ _ _ => (pg_name (i := 1) sc_Hall_calls.nd rfl (Or.inl rfl))) (fun _ _ _ _ _ => pts_nil) (fun _ _ _ _ _ => (pe_op (ko_catT K rfl) (pe_tup (pa_cons (pv 1) pa_nil)) (pe_dget (hu_of hr) (ke_fld K rfl (pv 0)) (pv 1) (fun _ _ => rfl))))))), fun B a x u Q hp h1 h2 => by
    obtain ⟨hn, hl⟩ : a.n = 5 ∧ a.ends.length < 64 := hp
    show Goes ⟨K, B, H⟩ [.ow (owK u B H (oxHD (C := C))) a, .un] _
    have hp := isort_perm (a.ends.map fun p => p.1)
    refine g_ret (EvN.d (ev_lcA (xs := isort (a.ends.map fun p => p.1)) (callOf a.ends) (ei_list (EvN.d (ev_sortedDI (evh_ends (ev_varR rfl) hn h_Hall) hl hp (isort_le _)))) (own_name (by decide)) (fun n hn' => ⟨_, eg_name, ?_⟩) (by rw [hp.length_eq, List.length_map]; omega))) (h1 _ rfl)
    obtain ⟨b, hb⟩ := look_mem (hp.subset hn')
    have e : callOf a.ends n = ⟨n, b.a, b.b, b.c⟩ := by unfold callOf endAt; rw [hb]; rfl
    rw [e]
    exact ev_cat13 (ev_var rfl) (ev_endR rfl hn h_Hall (ev_var rfl) hb)⟩
/-! ### hallmath -/
abbrev Tri := T3 Int Int Int
abbrev Rows := List (List (Option Int))
def cellAt (rows : Rows) (e f : Int) : Option Int := (rows.getD e.toNat []).getD f.toNat none
def set2 (rows : Rows) (e f : Int) (v : Option Int) : Rows := rows.set e.toNat ((rows.getD e.toNat []).set f.toNat v)
theorem set2_len {rows : Rows} {e f : Int} {v : Option Int} : (set2 rows e f v).length = rows.length := List.length_set
theorem set2_row {rows : Rows} {e f : Int} {v : Option Int} {m : Nat} (h : ∀ row ∈ rows, row.length = m) (he : 0 ≤ e ∧ e < (rows.length : Int)) : ∀ row ∈ set2 rows e f v, row.length = m := fun row hr => by
  rcases List.mem_or_eq_of_mem_set hr with hr | rfl
  · exact h row hr
  · rw [List.length_set]
    have hl : e.toNat < rows.length := by omega
    rw [List.getD_eq_getElem?_getD, List.getElem?_eq_getElem hl]
    exact h _ (List.getElem_mem hl)
theorem cell_set2 {rows : Rows} {e f e' f' : Int} {v : Option Int} {m : Nat} (h : ∀ row ∈ rows, row.length = m) (he : 0 ≤ e ∧ e < (rows.length : Int)) (hf : 0 ≤ f ∧ f < (m : Int)) (h1 : 0 ≤ e') (h2 : 0 ≤ f') : cellAt (set2 rows e f v) e' f' = if e' = e ∧ f' = f then v else cellAt rows e' f' := by
  have hl : e.toNat < rows.length := by omega
  have hr : (rows.getD e.toNat []).length = m := by
    rw [List.getD_eq_getElem?_getD, List.getElem?_eq_getElem hl]
    exact h _ (List.getElem_mem hl)
  unfold cellAt set2
  by_cases c1 : e' = e
  · subst c1
    have e1 : (rows.set e'.toNat ((rows.getD e'.toNat []).set f.toNat v)).getD e'.toNat [] = (rows.getD e'.toNat []).set f.toNat v := by
      rw [List.getD_eq_getElem?_getD (l := rows.set _ _), List.getElem?_set_self hl]
      rfl
    rw [e1]
    by_cases c2 : f' = f
    · subst c2
      rw [if_pos ⟨rfl, rfl⟩, List.getD_eq_getElem?_getD, List.getElem?_set_self (by omega)]
      rfl
    · rw [if_neg fun z => c2 z.2, List.getD_eq_getElem?_getD, List.getElem?_set_ne (by omega), ← List.getD_eq_getElem?_getD]
  · rw [if_neg fun z => c1 z.1, List.getD_eq_getElem?_getD (l := rows.set _ _), List.getElem?_set_ne (by omega), ← List.getD_eq_getElem?_getD]
/-! dicts -/
theorem look_put {β : Type} {i k : Int} {b : β} : ∀ {kv : List (Int × β)}, lookI k (putI i b kv) = if k = i then some b else lookI k kv := by
  have app : ∀ kv : List (Int × β), (kv.any fun p => decide (p.1 = i)) = false → lookI k (kv ++ [(i, b)]) = if k = i then some b else lookI k kv := fun kv => by
    induction kv with
    | nil =>
      intro _
      show (if i = k then some b else none) = if k = i then some b else none
      by_cases e : i = k
      · rw [if_pos e, if_pos e.symm]
      · rw [if_neg e, if_neg fun z => e z.symm]
    | cons p r ih =>
      intro h
      obtain ⟨j, c⟩ := p
      rw [List.any_cons, Bool.or_eq_false_iff] at h
      show (if j = k then some c else lookI k (r ++ [(i, b)])) = if k = i then some b else if j = k then some c else lookI k r
      by_cases e : j = k
      · rw [if_pos e, if_pos e, if_neg fun z => by rw [decide_eq_true (e.trans z)] at h; cases h.1]
      · rw [if_neg e, if_neg e, ih h.2]
  have mp : ∀ kv : List (Int × β), (kv.any fun p => decide (p.1 = i)) = true → lookI k (kv.map fun p => if p.1 = i then (p.1, b) else p) = if k = i then some b else lookI k kv := fun kv => by
    induction kv with
    | nil => intro h; cases h
    | cons p r ih =>
      intro h
      obtain ⟨j, c⟩ := p
      have same : (r.any fun p => decide (p.1 = i)) = false → lookI k (r.map fun p => if p.1 = i then (p.1, b) else p) = lookI k r := fun hr => by
        congr 1
        conv => rhs; rw [← List.map_id r]
        refine List.map_congr_left fun q hq => ?_
        rw [List.any_eq_false] at hr
        have := hr q hq
        rw [if_neg (by simpa using this)]
        rfl
      rw [List.map_cons]
      by_cases e : j = i
      · subst e
        dsimp only
        rw [if_pos rfl]
        show (if j = k then some b else lookI k _) = if k = j then some b else if j = k then some c else lookI k r
        by_cases e2 : j = k
        · rw [if_pos e2, if_pos e2.symm]
        · rw [if_neg e2, if_neg (fun z => e2 z.symm), if_neg e2]
          cases hr : r.any fun p => decide (p.1 = j) with
          | true =>
            rw [ih hr, if_neg fun z => e2 z.symm]
          | false => exact same hr
      · dsimp only
        rw [if_neg e]
        rw [List.any_cons, show decide ((j, c).1 = i) = false from decide_eq_false e, Bool.false_or] at h
        show (if j = k then some c else lookI k _) = if k = i then some b else if j = k then some c else lookI k r
        by_cases e2 : j = k
        · rw [if_pos e2, if_pos e2, if_neg fun z => e (e2.trans z)]
        · rw [if_neg e2, if_neg e2, ih h]
  intro kv
  unfold putI
  split
  · exact mp kv (by assumption)
  · rename_i h
    exact app kv (Bool.eq_false_iff.mpr h)
theorem look_drop {β : Type} {i k : Int} : ∀ {kv : List (Int × β)}, lookI k (dropI i kv) = if k = i then none else lookI k kv
  | [] => by show none = _; split <;> rfl
  | (j, c) :: r => by
    have ih := look_drop (i := i) (k := k) (kv := r)
    unfold dropI at ih ⊢
    rw [List.filter_cons]
    by_cases e : j = i
    · subst e
      rw [if_neg (by simp), ih]
      show _ = if k = j then none else if j = k then some c else lookI k r
      by_cases e2 : k = j
      · rw [if_pos e2, if_pos e2]
      · rw [if_neg e2, if_neg e2, if_neg fun z => e2 z.symm]
    · rw [if_pos (by simpa using e)]
      show (if j = k then some c else lookI k _) = if k = i then none else if j = k then some c else lookI k r
      rw [ih]
      by_cases e2 : j = k
      · rw [if_pos e2, if_pos e2, if_neg fun z => e (e2.trans z)]
      · rw [if_neg e2, if_neg e2]
theorem look_key {β : Type} {n : Int} : ∀ {kv : List (Int × β)} {b : β}, lookI n kv = some b → n ∈ kv.map (fun p => p.1)
  | [], _, h => by cases h
  | (k, c) :: r, b, h => by
    by_cases e : k = n
    · rw [List.map_cons, e]; exact List.mem_cons_self
    · have h : lookI n r = some b := (if_neg e).symm.trans h
      exact List.mem_cons_of_mem _ (look_key h)
theorem put_keys {β : Type} {i : Int} {b : β} {kv : List (Int × β)} : (putI i b kv).map (fun p => p.1) = if i ∈ kv.map (fun p => p.1) then kv.map (fun p => p.1) else kv.map (fun p => p.1) ++ [i] := by
  have hm : ((kv.any fun p => decide (p.1 = i)) = true) ↔ i ∈ kv.map (fun p => p.1) := by
    rw [List.any_eq_true, List.mem_map]
    exact ⟨fun ⟨p, a, e⟩ => ⟨p, a, of_decide_eq_true e⟩, fun ⟨p, a, e⟩ => ⟨p, a, decide_eq_true e⟩⟩
  unfold putI
  by_cases h : i ∈ kv.map (fun p => p.1)
  · rw [if_pos h, if_pos (hm.mpr h), List.map_map]
    refine List.map_congr_left fun p _ => ?_
    show (if p.1 = i then (p.1, b) else p).1 = p.1
    split <;> rfl
  · rw [if_neg h, if_neg fun z => h (hm.mp z), List.map_append]
    rfl
theorem drop_keys {β : Type} {i : Int} {kv : List (Int × β)} : (dropI i kv).map (fun p => p.1) = (kv.map (fun p => p.1)).filter fun k => decide (k ≠ i) := by
  unfold dropI
  rw [List.filter_map]
  rfl
/-! halls -/
section
variable {C : Addr}
def rowsOf (x : HD C) : Bool → Rows
  | true => x.aout
  | false => x.ain
def endOf (t : Tri) : Bool → Int
  | true => t.b
  | false => t.a
def cell2 (x : HD C) (s : Bool) (e f : Int) : Option Int := cellAt (rowsOf x s) e f
structure InR (x : HD C) (s : Bool) (e f : Int) : Prop where
  e0 : 0 ≤ e
  e1 : e < ((rowsOf x s).length : Int)
  f0 : 0 ≤ f
  f1 : f < x.fr
structure Sh (x : HD C) : Prop where
  n : x.n = 5
  f0 : 1 ≤ x.fr
  f8 : x.fr ≤ 8
  li : ∀ s, (rowsOf x s).length ≤ 12
  r : ∀ s, ∀ row ∈ rowsOf x s, row.length = x.fr.toNat
  en : ∀ n t, lookI n x.ends = some t → ∀ s, InR x s (endOf t s) t.c
structure HOk (x : HD C) : Prop where
  sh : Sh x
  cl : ∀ s e f n, InR x s e f → (cell2 x s e f = some n ↔ ∃ t, lookI n x.ends = some t ∧ endOf t s = e ∧ t.c = f)
  ks : (x.ends.map fun p => p.1).Pairwise (· < ·)
  kg : ∀ n t, lookI n x.ends = some t → 0 ≤ n ∧ n < x.given
  g0 : 0 ≤ x.given
theorem HOk.at_ {x : HD C} (h : HOk x) {n : Int} {t : Tri} (e : lookI n x.ends = some t) (s : Bool) : cell2 x s (endOf t s) t.c = some n := (h.cl s _ _ n (h.sh.en n t e s)).mpr ⟨t, e, rfl, rfl⟩
def liftT (x : HD C) (t : Tri) : HD C := { x with ain := set2 x.ain t.a t.c none, aout := set2 x.aout t.b t.c none }
def layT (x : HD C) (n : Int) (t : Tri) : HD C := { x with ain := set2 x.ain t.a t.c (some n), aout := set2 x.aout t.b t.c (some n), ends := putI n t x.ends }
theorem rows_lift {x : HD C} {t : Tri} : ∀ s, rowsOf (liftT x t) s = set2 (rowsOf x s) (endOf t s) t.c none
  | true => rfl
  | false => rfl
theorem rows_lay {x : HD C} {n : Int} {t : Tri} : ∀ s, rowsOf (layT x n t) s = set2 (rowsOf x s) (endOf t s) t.c (some n)
  | true => rfl
  | false => rfl
theorem InR.lift {x : HD C} {t : Tri} {s : Bool} {e f : Int} : InR (liftT x t) s e f ↔ InR x s e f := by
  constructor
  · intro h; exact ⟨h.e0, by have := h.e1; rw [rows_lift, set2_len] at this; exact this, h.f0, h.f1⟩
  · intro h; exact ⟨h.e0, by rw [rows_lift, set2_len]; exact h.e1, h.f0, h.f1⟩
theorem InR.lay {x : HD C} {t : Tri} {n : Int} {s : Bool} {e f : Int} : InR (layT x n t) s e f ↔ InR x s e f := by
  constructor
  · intro h; exact ⟨h.e0, by have := h.e1; rw [rows_lay, set2_len] at this; exact this, h.f0, h.f1⟩
  · intro h; exact ⟨h.e0, by rw [rows_lay, set2_len]; exact h.e1, h.f0, h.f1⟩
theorem lift_cell {x : HD C} {t : Tri} (h : Sh x) (ht : ∀ s, InR x s (endOf t s) t.c) {s : Bool} {e f : Int} (hr : InR x s e f) : cell2 (liftT x t) s e f = if e = endOf t s ∧ f = t.c then none else cell2 x s e f := by
  unfold cell2
  rw [rows_lift]
  exact cell_set2 (h.r s) ⟨(ht s).e0, (ht s).e1⟩ ⟨(ht s).f0, by have := (ht s).f1; have := (ht s).f0; omega⟩ hr.e0 hr.f0
theorem lay_cell {x : HD C} {n : Int} {t : Tri} (h : Sh x) (ht : ∀ s, InR x s (endOf t s) t.c) {s : Bool} {e f : Int} (hr : InR x s e f) : cell2 (layT x n t) s e f = if e = endOf t s ∧ f = t.c then some n else cell2 x s e f := by
  unfold cell2
  rw [rows_lay]
  exact cell_set2 (h.r s) ⟨(ht s).e0, (ht s).e1⟩ ⟨(ht s).f0, by have := (ht s).f1; have := (ht s).f0; omega⟩ hr.e0 hr.f0
theorem Sh.lift {x : HD C} {t : Tri} (h : Sh x) (ht : ∀ s, InR x s (endOf t s) t.c) : Sh (liftT x t) :=
  ⟨h.n, h.f0, h.f8, fun s => by rw [rows_lift, set2_len]; exact h.li s, fun s => by rw [rows_lift]; exact set2_row (h.r s) ⟨(ht s).e0, (ht s).e1⟩, fun n u e s => InR.lift.mpr (h.en n u e s)⟩
theorem Sh.lay {x : HD C} {n : Int} {t : Tri} (h : Sh x) (ht : ∀ s, InR x s (endOf t s) t.c) : Sh (layT x n t) :=
  ⟨h.n, h.f0, h.f8, fun s => by rw [rows_lay, set2_len]; exact h.li s, fun s => by rw [rows_lay]; exact set2_row (h.r s) ⟨(ht s).e0, (ht s).e1⟩, fun m u e s => InR.lay.mpr (by
    rw [show (layT x n t).ends = putI n t x.ends from rfl, look_put] at e
    by_cases z : m = n
    · rw [if_pos z] at e; cases e; exact ht s
    · rw [if_neg z] at e; exact h.en m u e s)⟩
/-! the swap -/
def liftN (x : HD C) (n : Int) : HD C := liftT x (endAt x.ends n)
def flip1 (t : Tri) (tot : Int) : Tri := ⟨t.a, t.b, tot - t.c⟩
def flipN (tot : Int) (x : HD C) (n : Int) : HD C := layT x n (flip1 (endAt x.ends n) tot)
def swapF (x : HD C) (ns : List Int) (tot : Int) : HD C := ns.foldl (flipN tot) (ns.foldl liftN x)
theorem flip_end {t : Tri} {tot : Int} : ∀ s, endOf (flip1 t tot) s = endOf t s
  | true => rfl
  | false => rfl
theorem end_at {x : HD C} {n : Int} {t : Tri} (h : lookI n x.ends = some t) : endAt x.ends n = t := by unfold endAt; rw [h]; rfl
/-- lifted so far: done -/
structure Lif (x : HD C) (done : List Int) (y : HD C) : Prop where
  sh : Sh y
  en : y.ends = x.ends
  gi : y.given = x.given
  fr : y.fr = x.fr
  le : ∀ s, (rowsOf y s).length = (rowsOf x s).length
  ce : ∀ s e f n, InR x s e f → (cell2 y s e f = some n ↔ cell2 x s e f = some n ∧ n ∉ done)
theorem Lif.inr {x y : HD C} {done : List Int} (h : Lif x done y) {s : Bool} {e f : Int} : InR y s e f ↔ InR x s e f := by
  constructor
  · intro z; exact ⟨z.e0, by rw [← h.le s]; exact z.e1, z.f0, by rw [← h.fr]; exact z.f1⟩
  · intro z; exact ⟨z.e0, by rw [h.le s]; exact z.e1, z.f0, by rw [h.fr]; exact z.f1⟩
theorem Lif.step {x y : HD C} {done : List Int} {m : Int} {t : Tri} (hx : HOk x) (h : Lif x done y) (hm : lookI m x.ends = some t) : Lif x (done ++ [m]) (liftN y m) := by
  have hm' : lookI m y.ends = some t := by rw [h.en]; exact hm
  have e1 : liftN y m = liftT y t := by unfold liftN; rw [end_at hm']
  have ht : ∀ s, InR y s (endOf t s) t.c := fun s => h.inr.mpr (hx.sh.en m t hm s)
  rw [e1]
  refine ⟨h.sh.lift ht, h.en, h.gi, h.fr, fun s => by rw [rows_lift, set2_len]; exact h.le s, fun s e f n hr => ?_⟩
  rw [lift_cell h.sh ht (h.inr.mpr hr), List.mem_append, List.mem_singleton]
  by_cases c : e = endOf t s ∧ f = t.c
  · rw [if_pos c]
    refine ⟨fun z => (by cases z), fun ⟨z1, z2⟩ => ?_⟩
    rw [c.1, c.2, hx.at_ hm s] at z1
    cases z1
    exact absurd (.inr rfl) z2
  · rw [if_neg c, h.ce s e f n hr]
    refine ⟨fun ⟨z1, z2⟩ => ⟨z1, fun z => z.elim z2 fun z3 => ?_⟩, fun ⟨z1, z2⟩ => ⟨z1, fun z => z2 (.inl z)⟩⟩
    subst z3
    obtain ⟨t', y1, y2, y3⟩ := (hx.cl s e f n hr).mp z1
    rw [hm] at y1
    cases y1
    exact c ⟨y2.symm, y3.symm⟩
theorem lif_all {x : HD C} (hx : HOk x) : ∀ (ns done : List Int) (y : HD C), (∀ n ∈ ns, ∃ t, lookI n x.ends = some t) → Lif x done y → Lif x (done ++ ns) (ns.foldl liftN y)
  | [], done, y, _, h => by rw [List.append_nil]; exact h
  | m :: ns, done, y, hn, h => by
    obtain ⟨t, ht⟩ := hn m List.mem_cons_self
    have := lif_all hx ns (done ++ [m]) _ (fun n hm => hn n (List.mem_cons_of_mem _ hm)) (h.step hx ht)
    rw [List.append_assoc] at this
    exact this
theorem lif_0 {x : HD C} (hx : HOk x) : Lif x [] x := ⟨hx.sh, rfl, rfl, rfl, fun _ => rfl, fun s e f n _ => ⟨fun z => ⟨z, List.not_mem_nil⟩, fun z => z.1⟩⟩
/-- what of the calls a swap wants -/
structure Swp (x : HD C) (ns : List Int) (tot : Int) : Prop where
  nd : ns.Nodup
  en : ∀ n ∈ ns, ∃ t, lookI n x.ends = some t
  rg : ∀ n ∈ ns, ∀ t, lookI n x.ends = some t → 0 ≤ tot - t.c ∧ tot - t.c < x.fr
  cl : ∀ n ∈ ns, ∀ t s m, lookI n x.ends = some t → cell2 x s (endOf t s) (tot - t.c) = some m → m ∈ ns
structure Lai (x : HD C) (ns : List Int) (tot : Int) (done : List Int) (y : HD C) : Prop where
  sh : Sh y
  ks : (y.ends.map fun p => p.1) = x.ends.map fun p => p.1
  lk : ∀ n, (n ∈ done → lookI n y.ends = (lookI n x.ends).map (flip1 · tot)) ∧ (n ∉ done → lookI n y.ends = lookI n x.ends)
  gi : y.given = x.given
  fr : y.fr = x.fr
  le : ∀ s, (rowsOf y s).length = (rowsOf x s).length
  ce : ∀ s e f n, InR x s e f → (cell2 y s e f = some n ↔ (n ∈ done ∧ ∃ t, lookI n x.ends = some t ∧ endOf t s = e ∧ tot - t.c = f) ∨ (n ∉ ns ∧ cell2 x s e f = some n))
theorem Lai.inr {x y : HD C} {ns done : List Int} {tot : Int} (h : Lai x ns tot done y) {s : Bool} {e f : Int} : InR y s e f ↔ InR x s e f := by
  constructor
  · intro z; exact ⟨z.e0, by rw [← h.le s]; exact z.e1, z.f0, by rw [← h.fr]; exact z.f1⟩
  · intro z; exact ⟨z.e0, by rw [h.le s]; exact z.e1, z.f0, by rw [h.fr]; exact z.f1⟩
theorem Lai.at_ {x y : HD C} {ns done : List Int} {tot m : Int} {t : Tri} (hs : Swp x ns tot) (h : Lai x ns tot done y) (hn : m ∈ ns) (hd : m ∉ done) (hm : lookI m x.ends = some t) (hx : HOk x) : lookI m y.ends = some t ∧ ∀ s, InR y s (endOf (flip1 t tot) s) (flip1 t tot).c := by
  refine ⟨((h.lk m).2 hd).trans hm, fun s => h.inr.mpr ?_⟩
  have hr := hs.rg m hn t hm
  have := hx.sh.en m t hm s
  rw [flip_end]
  exact ⟨this.e0, this.e1, hr.1, hr.2⟩
theorem Lai.step {x y : HD C} {ns done : List Int} {tot m : Int} {t : Tri} (hx : HOk x) (hs : Swp x ns tot) (h : Lai x ns tot done y) (hn : m ∈ ns) (hd : m ∉ done) (hm : lookI m x.ends = some t) : Lai x ns tot (done ++ [m]) (flipN tot y m) := by
  obtain ⟨hm', ht⟩ := h.at_ hs hn hd hm hx
  have e1 : flipN tot y m = layT y m (flip1 t tot) := by unfold flipN; rw [end_at hm']
  rw [e1]
  refine ⟨h.sh.lay ht, ?_, fun n => ⟨fun hn' => ?_, fun hn' => ?_⟩, h.gi, h.fr, fun s => by rw [rows_lay, set2_len]; exact h.le s, fun s e f n hr => ?_⟩
  · show (putI m _ y.ends).map _ = _
    rw [put_keys, if_pos (look_key hm'), h.ks]
  · show lookI n (putI m _ y.ends) = _
    rw [look_put]
    by_cases z : n = m
    · subst z; rw [if_pos rfl, hm]; rfl
    · rw [if_neg z]
      refine (h.lk n).1 ?_
      rcases List.mem_append.mp hn' with w | w
      · exact w
      · exact absurd (List.mem_singleton.mp w) z
  · show lookI n (putI m _ y.ends) = _
    rw [look_put, if_neg fun z => hn' (by rw [z]; exact List.mem_append_right _ List.mem_cons_self)]
    exact (h.lk n).2 fun z => hn' (List.mem_append_left _ z)
  · rw [lay_cell h.sh ht (h.inr.mpr hr), List.mem_append, List.mem_singleton, flip_end]
    show (if e = endOf t s ∧ f = tot - t.c then some m else cell2 y s e f) = some n ↔ _
    by_cases c : e = endOf t s ∧ f = tot - t.c
    · rw [if_pos c]
      constructor
      · intro z
        cases z
        exact .inl ⟨.inr rfl, t, hm, c.1.symm, c.2.symm⟩
      · rintro (⟨_, t', y1, y2, y3⟩ | ⟨z1, z2⟩)
        · have a1 := hx.at_ hm s
          have a2 := hx.at_ y1 s
          rw [y2, c.1, show t'.c = t.c by omega, a1] at a2
          exact a2
        · rw [c.1, c.2] at z2
          exact absurd (hs.cl m hn t s n hm z2) z1
    · rw [if_neg c, h.ce s e f n hr]
      constructor
      · rintro (⟨z1, z2⟩ | z)
        · exact .inl ⟨.inl z1, z2⟩
        · exact .inr z
      · rintro (⟨z1 | z1, z2⟩ | z)
        · exact .inl ⟨z1, z2⟩
        · subst z1
          obtain ⟨t', y1, y2, y3⟩ := z2
          rw [hm] at y1
          cases y1
          exact absurd ⟨y2.symm, y3.symm⟩ c
        · exact .inr z
theorem lai_all {x : HD C} {ns : List Int} {tot : Int} (hx : HOk x) (hs : Swp x ns tot) : ∀ (rest done : List Int) (y : HD C), done ++ rest = ns → Lai x ns tot done y → Lai x ns tot ns (rest.foldl (flipN tot) y)
  | [], done, y, e, h => by rw [List.append_nil] at e; rw [← e] at h ⊢; exact h
  | m :: rest, done, y, e, h => by
    have hn : m ∈ ns := by rw [← e]; exact List.mem_append_right _ List.mem_cons_self
    obtain ⟨t, ht⟩ := hs.en m hn
    have hd : m ∉ done := fun z => by
      have := hs.nd
      rw [← e, List.nodup_append] at this
      exact this.2.2 m z m List.mem_cons_self rfl
    exact lai_all hx hs rest (done ++ [m]) _ (by rw [List.append_assoc]; exact e) (h.step hx hs hn hd ht)
theorem lai_0 {x y : HD C} {ns : List Int} {tot : Int} (h : Lif x ns y) : Lai x ns tot [] y := ⟨h.sh, by rw [h.en], fun n => ⟨fun z => absurd z List.not_mem_nil, fun _ => by rw [h.en]⟩, h.gi, h.fr, h.le, fun s e f n hr => by
  rw [h.ce s e f n hr]
  exact ⟨fun ⟨a, b⟩ => .inr ⟨b, a⟩, fun z => z.elim (fun w => absurd w.1 List.not_mem_nil) fun w => ⟨w.2, w.1⟩⟩⟩
theorem swap_lai {x : HD C} {ns : List Int} {tot : Int} (hx : HOk x) (hs : Swp x ns tot) : Lai x ns tot ns (swapF x ns tot) := by
  have h := lif_all hx ns [] x hs.en (lif_0 hx)
  rw [List.nil_append] at h
  exact lai_all hx hs ns [] _ (List.nil_append _) (lai_0 h)
theorem Lai.look {x y : HD C} {ns : List Int} {tot : Int} (h : Lai x ns tot ns y) {n : Int} {t' : Tri} : lookI n y.ends = some t' ↔ ∃ t, lookI n x.ends = some t ∧ t' = if n ∈ ns then flip1 t tot else t := by
  by_cases hn : n ∈ ns
  · rw [(h.lk n).1 hn]
    cases lookI n x.ends with
    | none => exact ⟨fun z => (by cases z), fun ⟨_, z, _⟩ => (by cases z)⟩
    | some t =>
      rw [Option.map_some]
      refine ⟨fun z => ⟨t, rfl, by rw [if_pos hn]; exact (Option.some.inj z).symm⟩, fun ⟨t2, z, w⟩ => ?_⟩
      cases z
      rw [w, if_pos hn]
  · rw [(h.lk n).2 hn]
    refine ⟨fun z => ⟨t', z, by rw [if_neg hn]⟩, fun ⟨t2, z, w⟩ => ?_⟩
    rw [if_neg hn] at w
    rw [w]
    exact z
theorem swap_ok {x : HD C} {ns : List Int} {tot : Int} (hx : HOk x) (hs : Swp x ns tot) : HOk (swapF x ns tot) := by
  have h := swap_lai hx hs
  refine ⟨h.sh, fun s e f n hr => ?_, by rw [h.ks]; exact hx.ks, fun n t e => ?_, by rw [h.gi]; exact hx.g0⟩
  · have hr := h.inr.mp hr
    rw [h.ce s e f n hr]
    constructor
    · rintro (⟨z1, t, z2, z3, z4⟩ | ⟨z1, z2⟩)
      · exact ⟨flip1 t tot, h.look.mpr ⟨t, z2, by rw [if_pos z1]⟩, by rw [flip_end]; exact z3, z4⟩
      · obtain ⟨t, y1, y2⟩ := (hx.cl s e f n hr).mp z2
        exact ⟨t, h.look.mpr ⟨t, y1, by rw [if_neg z1]⟩, y2⟩
    · rintro ⟨t', z1, z2, z3⟩
      obtain ⟨t, y1, rfl⟩ := h.look.mp z1
      by_cases hn : n ∈ ns
      · rw [if_pos hn, flip_end] at z2
        rw [if_pos hn] at z3
        exact .inl ⟨hn, t, y1, z2, z3⟩
      · rw [if_neg hn] at z2 z3
        exact .inr ⟨hn, (hx.cl s e f n hr).mpr ⟨t, y1, z2, z3⟩⟩
  · obtain ⟨t0, y1, _⟩ := h.look.mp e
    rw [h.gi]
    exact hx.kg n t0 y1
/-! a call more, a call less -/
def addT (x : HD C) (t : Tri) : HD C := ⟨x.n, x.fr, (layT x x.given t).ain, (layT x x.given t).aout, putI x.given t x.ends, x.given + 1⟩
def dropT (x : HD C) (n : Int) (t : Tri) : HD C := ⟨x.n, x.fr, (liftT x t).ain, (liftT x t).aout, dropI n x.ends, x.given⟩
theorem rows_add {x : HD C} {t : Tri} : ∀ s, rowsOf (addT x t) s = rowsOf (layT x x.given t) s
  | true => rfl
  | false => rfl
theorem rows_drop {x : HD C} {n : Int} {t : Tri} : ∀ s, rowsOf (dropT x n t) s = rowsOf (liftT x t) s
  | true => rfl
  | false => rfl
theorem cell_add {x : HD C} {t : Tri} {s : Bool} {e f : Int} : cell2 (addT x t) s e f = cell2 (layT x x.given t) s e f := by unfold cell2; rw [rows_add]
theorem cell_drop {x : HD C} {n : Int} {t : Tri} {s : Bool} {e f : Int} : cell2 (dropT x n t) s e f = cell2 (liftT x t) s e f := by unfold cell2; rw [rows_drop]
theorem inr_add {x : HD C} {t : Tri} {s : Bool} {e f : Int} : InR (addT x t) s e f ↔ InR x s e f := ⟨fun h => InR.lay.mp ⟨h.e0, by have := h.e1; rw [rows_add] at this; exact this, h.f0, h.f1⟩, fun h => ⟨h.e0, by rw [rows_add]; exact (InR.lay.mpr h).e1, h.f0, h.f1⟩⟩
theorem inr_drop {x : HD C} {n : Int} {t : Tri} {s : Bool} {e f : Int} : InR (dropT x n t) s e f ↔ InR x s e f := ⟨fun h => InR.lift.mp ⟨h.e0, by have := h.e1; rw [rows_drop] at this; exact this, h.f0, h.f1⟩, fun h => ⟨h.e0, by rw [rows_drop]; exact (InR.lift.mpr h).e1, h.f0, h.f1⟩⟩
theorem HOk.add {x : HD C} (hx : HOk x) {t : Tri} (ht : ∀ s, InR x s (endOf t s) t.c) (hf : ∀ s, cell2 x s (endOf t s) t.c = none) : HOk (addT x t) := by
  have hno : lookI x.given x.ends = none := by
    cases e : lookI x.given x.ends with
    | none => rfl
    | some t => have := (hx.kg _ _ e).2; omega
  have hs := hx.sh.lay (n := x.given) ht
  refine ⟨⟨hs.n, hs.f0, hs.f8, fun s => by rw [rows_add]; exact hs.li s, fun s => by rw [rows_add]; exact hs.r s, fun n u e s => inr_add.mpr (InR.lay.mp (hs.en n u e s))⟩, fun s e f n hr => ?_, ?_, fun n u e => ?_, ?_⟩
  · have hr' : InR x s e f := inr_add.mp hr
    show _ ↔ ∃ u, lookI n (putI x.given t x.ends) = some u ∧ _
    rw [cell_add, lay_cell hx.sh ht hr']
    by_cases c : e = endOf t s ∧ f = t.c
    · rw [if_pos c]
      constructor
      · intro z
        cases z
        exact ⟨t, by rw [look_put, if_pos rfl], c.1.symm, c.2.symm⟩
      · rintro ⟨u, z1, z2, z3⟩
        rw [look_put] at z1
        by_cases hn : n = x.given
        · rw [hn]
        · rw [if_neg hn] at z1
          have := hx.at_ z1 s
          rw [z2, z3, c.1, c.2, hf s] at this
          cases this
    · rw [if_neg c, hx.cl s e f n hr']
      constructor
      · rintro ⟨u, z1, z2⟩
        refine ⟨u, ?_, z2⟩
        rw [look_put, if_neg fun z => by rw [z, hno] at z1; cases z1]
        exact z1
      · rintro ⟨u, z1, z2, z3⟩
        rw [look_put] at z1
        by_cases hn : n = x.given
        · rw [if_pos hn] at z1
          cases z1
          exact absurd ⟨z2.symm, z3.symm⟩ c
        · rw [if_neg hn] at z1
          exact ⟨u, z1, z2, z3⟩
  · show ((putI x.given t x.ends).map fun p => p.1).Pairwise (· < ·)
    rw [put_keys, if_neg (fun z => by obtain ⟨b, hb⟩ := look_mem z; rw [hno] at hb; cases hb), List.pairwise_append]
    refine ⟨hx.ks, List.pairwise_singleton _ _, fun a ha b hb => ?_⟩
    rw [List.mem_singleton.mp hb]
    obtain ⟨u, hu⟩ := look_mem ha
    exact (hx.kg a u hu).2
  · have e : lookI n (putI x.given t x.ends) = some u := e
    rw [look_put] at e
    by_cases hn : n = x.given
    · have := hx.g0
      show 0 ≤ n ∧ n < x.given + 1
      omega
    · rw [if_neg hn] at e
      have := hx.kg n u e
      show 0 ≤ n ∧ n < x.given + 1
      omega
  · have := hx.g0
    show 0 ≤ x.given + 1
    omega
theorem HOk.drop {x : HD C} (hx : HOk x) {n : Int} {t : Tri} (ht : lookI n x.ends = some t) : HOk (dropT x n t) := by
  have hr := hx.sh.en n t ht
  have hs := hx.sh.lift hr
  have lk : ∀ m u, lookI m (dropI n x.ends) = some u ↔ m ≠ n ∧ lookI m x.ends = some u := fun m u => by
    rw [look_drop]
    by_cases z : m = n
    · rw [if_pos z]
      exact ⟨fun w => (by cases w), fun w => absurd z w.1⟩
    · rw [if_neg z]
      exact ⟨fun w => ⟨z, w⟩, fun w => w.2⟩
  refine ⟨⟨hs.n, hs.f0, hs.f8, fun s => by rw [rows_drop]; exact hs.li s, fun s => by rw [rows_drop]; exact hs.r s, fun m u e s => inr_drop.mpr (hx.sh.en m u ((lk m u).mp e).2 s)⟩, fun s e f m h' => ?_, ?_, fun m u e => hx.kg m u ((lk m u).mp e).2, hx.g0⟩
  · have hr' : InR x s e f := inr_drop.mp h'
    show _ ↔ ∃ u, lookI m (dropI n x.ends) = some u ∧ _
    rw [cell_drop, lift_cell hx.sh hr hr']
    by_cases c : e = endOf t s ∧ f = t.c
    · rw [if_pos c]
      refine ⟨fun z => (by cases z), fun ⟨u, z1, z2, z3⟩ => ?_⟩
      obtain ⟨w1, w2⟩ := (lk m u).mp z1
      have a1 := hx.at_ w2 s
      rw [z2, z3, c.1, c.2, hx.at_ ht s] at a1
      cases a1
      exact absurd rfl w1
    · rw [if_neg c, hx.cl s e f m hr']
      refine ⟨fun ⟨u, z1, z2, z3⟩ => ⟨u, (lk m u).mpr ⟨fun z => ?_, z1⟩, z2, z3⟩, fun ⟨u, z1, z2⟩ => ⟨u, ((lk m u).mp z1).2, z2⟩⟩
      rw [z, ht] at z1
      cases z1
      exact c ⟨z2.symm, z3.symm⟩
  · show ((dropI n x.ends).map fun p => p.1).Pairwise (· < ·)
    rw [drop_keys]
    exact hx.ks.filter _
end
/-! ### chainmath -/
theorem sub_len2 : ∀ (xs ys : List Int), xs.Nodup → (∀ x ∈ xs, x ∈ ys) → xs.length ≤ ys.length
  | [], _, _, _ => Nat.zero_le _
  | x :: xs, ys, h, hs => by
    obtain ⟨h1, h2⟩ := List.nodup_cons.mp h
    have hx := hs x List.mem_cons_self
    have := sub_len2 xs (ys.erase x) h2 fun y hy => (List.mem_erase_of_ne fun z => h1 (by rw [← z]; exact hy)).mpr (hs y (List.mem_cons_of_mem _ hy))
    rw [List.length_erase_of_mem hx] at this
    have hp := List.length_pos_of_mem hx
    rw [List.length_cons]
    omega
section
variable {C : Addr}
def fro (one other : Int) : Bool → Int
  | true => one
  | false => other
theorem fro_not {one other : Int} (s : Bool) : one + other - fro one other s = fro one other (!s) := by
  cases s
  · show one + other - other = one; omega
  · show one + other - one = other; omega
inductive Chain (x : HD C) (one other : Int) : Bool → Int → List Int → Prop
  | stop {s : Bool} {e : Int} : InR x s e (fro one other s) → cell2 x s e (fro one other s) = none → Chain x one other s e []
  | go {s : Bool} {e n : Int} {t : Tri} {ns : List Int} : InR x s e (fro one other s) → cell2 x s e (fro one other s) = some n → lookI n x.ends = some t → Chain x one other (!s) (endOf t (!s)) ns → Chain x one other s e (n :: ns)
theorem Chain.inr {x : HD C} {one other : Int} {s : Bool} {e : Int} {ns : List Int} (h : Chain x one other s e ns) : InR x s e (fro one other s) := by cases h <;> assumption
def nxtS (x : HD C) (one other : Int) (a : Bool × Int) : Option (Bool × Int) := (cell2 x a.1 a.2 (fro one other a.1)).map fun n => (!a.1, endOf (endAt x.ends n) (!a.1))
def orb (x : HD C) (one other : Int) (a : Bool × Int) : Nat → Option (Bool × Int)
  | 0 => some a
  | k + 1 => (orb x one other a k).bind (nxtS x one other)
structure ChA (x : HD C) (outlet one other : Int) : Prop where
  ok : HOk x
  r1 : InR x true outlet one
  o0 : 0 ≤ other
  o1 : other < x.fr
  ne : one ≠ other
  no : cell2 x true outlet other = none
section
variable {x : HD C} {outlet one other : Int}
theorem orb_front {a b : Bool × Int} (h : nxtS x one other a = some b) : ∀ k, orb x one other a (k + 1) = orb x one other b k
  | 0 => h
  | k + 1 => by
    show (orb x one other a (k + 1)).bind _ = (orb x one other b k).bind _
    rw [orb_front h k]
theorem orb_none {a : Bool × Int} (h : nxtS x one other a = none) : ∀ k, orb x one other a (k + 1) = none
  | 0 => h
  | k + 1 => by
    show (orb x one other a (k + 1)).bind _ = none
    rw [orb_none h k]
    rfl
def VS (x : HD C) (one other : Int) (a : Bool × Int) : Prop := InR x a.1 a.2 (fro one other a.1)
theorem nxt_some (h : HOk x) {a c : Bool × Int} (v : VS x one other a) (e : nxtS x one other a = some c) : ∃ n t, cell2 x a.1 a.2 (fro one other a.1) = some n ∧ lookI n x.ends = some t ∧ endOf t a.1 = a.2 ∧ t.c = fro one other a.1 ∧ c = (!a.1, endOf t (!a.1)) := by
  unfold nxtS at e
  cases hc : cell2 x a.1 a.2 (fro one other a.1) with
  | none => rw [hc] at e; cases e
  | some n =>
    rw [hc, Option.map_some] at e
    obtain ⟨t, y1, y2, y3⟩ := (h.cl _ _ _ n v).mp hc
    rw [end_at y1] at e
    exact ⟨n, t, rfl, y1, y2, y3, (Option.some.inj e).symm⟩
theorem ChA.fr (h : ChA x outlet one other) (s : Bool) : 0 ≤ fro one other s ∧ fro one other s < x.fr := by
  cases s
  · exact ⟨h.o0, h.o1⟩
  · exact ⟨h.r1.f0, h.r1.f1⟩
theorem ChA.vs (h : ChA x outlet one other) {a c : Bool × Int} (v : VS x one other a) (e : nxtS x one other a = some c) : VS x one other c := by
  obtain ⟨n, t, _, y1, _, _, rfl⟩ := nxt_some h.ok v e
  have := h.ok.sh.en n t y1 (!a.1)
  exact ⟨this.e0, this.e1, (h.fr _).1, (h.fr _).2⟩
theorem nxt_inj (h : HOk x) {a b c : Bool × Int} (va : VS x one other a) (vb : VS x one other b) (e1 : nxtS x one other a = some c) (e2 : nxtS x one other b = some c) : a = b := by
  obtain ⟨n, t, a1, a2, a3, a4, a5⟩ := nxt_some h va e1
  obtain ⟨m, u, b1, b2, b3, b4, b5⟩ := nxt_some h vb e2
  obtain ⟨s, e⟩ := a
  obtain ⟨s', e'⟩ := b
  rw [a5] at b5
  have hs := (Prod.mk.inj b5).1
  have he := (Prod.mk.inj b5).2
  dsimp only at *
  have hss : s = s' := by cases s <;> cases s' <;> first | rfl | cases hs
  subst hss
  have h1 := h.at_ a2 (!s)
  rw [he, a4, ← b4, h.at_ b2 (!s)] at h1
  cases h1
  rw [a2] at b2
  cases b2
  rw [← a3, ← b3]
theorem ChA.orb_vs (h : ChA x outlet one other) : ∀ k a, orb x one other (true, outlet) k = some a → VS x one other a
  | 0, a, e => by cases e; exact h.r1
  | k + 1, a, e => by
    have e : (orb x one other (true, outlet) k).bind (nxtS x one other) = some a := e
    obtain ⟨b, e1, e2⟩ := Option.bind_eq_some_iff.mp e
    exact h.vs (h.orb_vs k b e1) e2
theorem ChA.start (h : ChA x outlet one other) {b : Bool × Int} (v : VS x one other b) : nxtS x one other b ≠ some (true, outlet) := fun e => by
  obtain ⟨n, t, a1, a2, a3, a4, a5⟩ := nxt_some h.ok v e
  obtain ⟨s, f⟩ := b
  have hs := (Prod.mk.inj a5).1
  have he := (Prod.mk.inj a5).2
  have hss : s = false := by cases s with | false => rfl | true => cases hs
  subst hss
  have := h.ok.at_ a2 true
  rw [show endOf t true = outlet from he.symm, a4] at this
  rw [show fro one other false = other from rfl, h.no] at this
  cases this
theorem ChA.noloop (h : ChA x outlet one other) : ∀ i d a, orb x one other (true, outlet) i = some a → orb x one other (true, outlet) (i + d + 1) = some a → False
  | 0, d, a, e1, e2 => by
    cases e1
    have e2 : (orb x one other (true, outlet) (0 + d)).bind (nxtS x one other) = some (true, outlet) := e2
    obtain ⟨b, z1, z2⟩ := Option.bind_eq_some_iff.mp e2
    exact h.start (h.orb_vs _ _ z1) z2
  | i + 1, d, a, e1, e2 => by
    have e1 : (orb x one other (true, outlet) i).bind (nxtS x one other) = some a := e1
    have e2 : (orb x one other (true, outlet) (i + 1 + d)).bind (nxtS x one other) = some a := e2
    obtain ⟨b, z1, z2⟩ := Option.bind_eq_some_iff.mp e1
    obtain ⟨c, w1, w2⟩ := Option.bind_eq_some_iff.mp e2
    rw [show i + 1 + d = i + d + 1 by omega] at w1
    have := nxt_inj h.ok (h.orb_vs _ _ z1) (h.orb_vs _ _ w1) z2 w2
    subst this
    exact h.noloop i d b z1 w1
def numS (x : HD C) (one other : Int) (a : Bool × Int) (k : Nat) : Option Int := (orb x one other a k).bind fun b => cell2 x b.1 b.2 (fro one other b.1)
theorem ChA.num_ne (h : ChA x outlet one other) {i j : Nat} {n : Int} (hij : i < j) (e1 : numS x one other (true, outlet) i = some n) (e2 : numS x one other (true, outlet) j = some n) : False := by
  obtain ⟨a, z1, z2⟩ := Option.bind_eq_some_iff.mp e1
  obtain ⟨b, w1, w2⟩ := Option.bind_eq_some_iff.mp e2
  obtain ⟨t, y1, y2, y3⟩ := (h.ok.cl _ _ _ n (h.orb_vs _ _ z1)).mp z2
  obtain ⟨u, v1, v2, v3⟩ := (h.ok.cl _ _ _ n (h.orb_vs _ _ w1)).mp w2
  rw [y1] at v1
  cases v1
  obtain ⟨s, e⟩ := a
  obtain ⟨s', e'⟩ := b
  dsimp only at *
  have hf : fro one other s = fro one other s' := by rw [← y3, ← v3]
  have hs : s = s' := by
    have hne := h.ne
    cases s <;> cases s' <;> first | rfl | exact absurd hf (fun z => hne z.symm) | exact absurd hf hne
  subst hs
  rw [y2] at v2
  subst v2
  refine h.noloop i (j - i - 1) (s, e) z1 ?_
  rw [show i + (j - i - 1) + 1 = j by omega]
  exact w1
theorem orb_dead {a : Bool × Int} {k : Nat} (h : orb x one other a k = none) : ∀ d, orb x one other a (k + d) = none
  | 0 => h
  | d + 1 => by
    show (orb x one other a (k + d)).bind _ = none
    rw [orb_dead h d]
    rfl
theorem ChA.ends (h : ChA x outlet one other) : orb x one other (true, outlet) (x.ends.length + 1) = none := by
  cases e : orb x one other (true, outlet) (x.ends.length + 1) with
  | none => rfl
  | some a =>
    have hk : ∀ k, k < x.ends.length + 1 → ∃ n, numS x one other (true, outlet) k = some n ∧ n ∈ x.ends.map fun p => p.1 := fun k hk => by
      cases e1 : orb x one other (true, outlet) (k + 1) with
      | none =>
        have := orb_dead e1 (x.ends.length - k)
        rw [show k + 1 + (x.ends.length - k) = x.ends.length + 1 by omega, e] at this
        cases this
      | some b =>
        have e1 : (orb x one other (true, outlet) k).bind (nxtS x one other) = some b := e1
        obtain ⟨c, w1, w2⟩ := Option.bind_eq_some_iff.mp e1
        obtain ⟨n, t, z1, z2, _⟩ := nxt_some h.ok (h.orb_vs _ _ w1) w2
        refine ⟨n, ?_, look_key z2⟩
        unfold numS
        rw [w1]
        exact z1
    have := sub_len2 ((List.range (x.ends.length + 1)).map fun k => (numS x one other (true, outlet) k).getD 0) (x.ends.map fun p => p.1) ?_ ?_
    · rw [List.length_map, List.length_map, List.length_range] at this
      omega
    · unfold List.Nodup
      rw [List.pairwise_map]
      refine List.Pairwise.imp_of_mem (fun {i j} hi hj hij z => ?_) List.pairwise_lt_range
      obtain ⟨n, n1, _⟩ := hk i (List.mem_range.mp hi)
      obtain ⟨m, m1, _⟩ := hk j (List.mem_range.mp hj)
      rw [n1, m1] at z
      have z : n = m := z
      subst z
      exact h.num_ne hij n1 m1
    · intro n hn
      obtain ⟨k, k1, k2⟩ := List.mem_map.mp hn
      obtain ⟨m, m1, m2⟩ := hk k (List.mem_range.mp k1)
      rw [m1] at k2
      rw [← k2]
      exact m2
theorem ChA.chain_of (h : ChA x outlet one other) : ∀ k a, VS x one other a → orb x one other a k = none → ∃ ns, Chain x one other a.1 a.2 ns
  | 0, a, _, e => by cases e
  | k + 1, a, v, e => by
    cases e1 : nxtS x one other a with
    | none =>
      unfold nxtS at e1
      exact ⟨[], .stop v (by simpa using e1)⟩
    | some b =>
      rw [orb_front e1] at e
      obtain ⟨n, t, a1, a2, a3, a4, rfl⟩ := nxt_some h.ok v e1
      obtain ⟨ns, hns⟩ := h.chain_of k _ (h.vs v e1) e
      exact ⟨n :: ns, .go v a1 a2 hns⟩
theorem ChA.ex (h : ChA x outlet one other) : ∃ ns, Chain x one other true outlet ns := h.chain_of _ (true, outlet) h.r1 h.ends
theorem Chain.num {s : Bool} {e : Int} {ns : List Int} (h : Chain x one other s e ns) : ∀ k, ns[k]? = numS x one other (s, e) k := by
  induction h with
  | @stop s e v c =>
    intro k
    have hn : nxtS x one other (s, e) = none := by unfold nxtS; rw [show cell2 x _ _ _ = none from c]; rfl
    cases k with
    | zero => exact c.symm
    | succ k => unfold numS; rw [orb_none hn]; rfl
  | @go s e n t ns v c l _ ih =>
    intro k
    have hn : nxtS x one other (s, e) = some (!s, endOf t (!s)) := by unfold nxtS; rw [show cell2 x _ _ _ = some _ from c, Option.map_some, end_at l]
    cases k with
    | zero => exact c.symm
    | succ k => unfold numS; rw [orb_front hn]; exact ih k
theorem Chain.nodup (h : ChA x outlet one other) {ns : List Int} (c : Chain x one other true outlet ns) : ns.Nodup := by
  unfold List.Nodup
  rw [List.pairwise_iff_getElem]
  intro i j hi hj hij z
  have e1 := c.num i
  have e2 := c.num j
  rw [List.getElem?_eq_getElem hi] at e1
  rw [List.getElem?_eq_getElem hj] at e2
  rw [z] at e1
  exact h.num_ne hij e1.symm e2.symm
theorem Chain.mem {s : Bool} {e : Int} {ns : List Int} (c : Chain x one other s e ns) (h : HOk x) : ∀ n ∈ ns, ∃ t s', lookI n x.ends = some t ∧ t.c = fro one other s' := by
  induction c with
  | stop => intro n hn; cases hn
  | go v c l _ ih =>
    intro n hn
    rcases List.mem_cons.mp hn with rfl | hn
    · obtain ⟨t', y1, y2, y3⟩ := (h.cl _ _ _ _ v).mp c
      exact ⟨t', _, y1, y3⟩
    · exact ih n hn
theorem Chain.head {s : Bool} {e m : Int} {ns : List Int} (c : Chain x one other s e ns) (hm : cell2 x s e (fro one other s) = some m) : m ∈ ns := by
  cases c with
  | stop v c => rw [c] at hm; cases hm
  | go v c l _ => rw [c] at hm; cases hm; exact List.mem_cons_self
theorem Chain.closed {s : Bool} {e : Int} {ns : List Int} (c : Chain x one other s e ns) (h : HOk x) : ∀ pre : List Int, (∀ m, cell2 x s e (fro one other (!s)) = some m → m ∈ pre) → ∀ n ∈ ns, ∀ t s' m, lookI n x.ends = some t → cell2 x s' (endOf t s') (one + other - t.c) = some m → m ∈ pre ++ ns := by
  induction c with
  | stop => intro _ _ n hn; cases hn
  | @go s e n t ns v c l c2 ih =>
    intro pre hp k hk u s' m hu hm
    obtain ⟨t', y1, y2, y3⟩ := (h.cl _ _ _ _ v).mp c
    rw [l] at y1
    cases y1
    rcases List.mem_cons.mp hk with rfl | hk
    · rw [l] at hu
      cases hu
      rw [y3, fro_not] at hm
      by_cases es : s' = s
      · subst es
        rw [y2] at hm
        exact List.mem_append_left _ (hp m hm)
      · have es : s' = !s := by cases s' <;> cases s <;> first | rfl | exact absurd rfl es
        subst es
        exact List.mem_append_right _ (List.mem_cons_of_mem _ (c2.head hm))
    · have := ih (pre ++ [n]) (fun m' hm' => ?_) k hk u s' m hu hm
      · rw [List.append_assoc] at this
        exact this
      · rw [Bool.not_not] at hm'
        have a1 := h.at_ l (!s)
        rw [y3, hm'] at a1
        cases a1
        exact List.mem_append_right _ List.mem_cons_self
theorem Chain.avoid {s : Bool} {e inlet : Int} {ns : List Int} (c : Chain x one other s e ns) (h : HOk x) (hn : cell2 x false inlet one = none) : (s = false → e ≠ inlet) → ∀ n ∈ ns, ∀ t, lookI n x.ends = some t → t.a ≠ inlet := by
  induction c with
  | stop => intro _ n hn; cases hn
  | @go s e n t ns v c l c2 ih =>
    intro hs k hk u hu
    obtain ⟨t', y1, y2, y3⟩ := (h.cl _ _ _ _ v).mp c
    rw [l] at y1
    cases y1
    have ht : t.a ≠ inlet := fun z => by
      cases s with
      | false => exact hs rfl (by rw [← y2]; exact z)
      | true =>
        have a1 := h.at_ l false
        rw [show endOf t false = inlet from z, y3] at a1
        rw [show fro one other true = one from rfl, hn] at a1
        cases a1
    rcases List.mem_cons.mp hk with rfl | hk
    · rw [l] at hu
      cases hu
      exact ht
    · refine ih (fun z => ?_) k hk u hu
      cases s with
      | false => cases z
      | true => exact ht
theorem ChA.swp (h : ChA x outlet one other) {ns : List Int} (c : Chain x one other true outlet ns) : Swp x ns (one + other) where
  nd := c.nodup h
  en n hn := by
    obtain ⟨t, _, y, _⟩ := c.mem h.ok n hn
    exact ⟨t, y⟩
  rg n hn t ht := by
    obtain ⟨u, s, y1, y2⟩ := c.mem h.ok n hn
    rw [ht] at y1
    cases y1
    rw [y2, fro_not]
    exact h.fr _
  cl n hn t s m ht hm := by
    have := c.closed h.ok [] (fun m hm => by rw [show fro one other (!true) = other from rfl, h.no] at hm; cases hm) n hn t s m ht hm
    exact this
theorem ChA.free_out (h : ChA x outlet one other) {ns : List Int} (c : Chain x one other true outlet ns) : cell2 (swapF x ns (one + other)) true outlet one = none := by
  have hs := swap_lai h.ok (h.swp c)
  cases e : cell2 (swapF x ns (one + other)) true outlet one with
  | none => rfl
  | some n =>
    exfalso
    rcases (hs.ce true outlet one n h.r1).mp e with ⟨_, t, y1, y2, y3⟩ | ⟨y1, y2⟩
    · have a := h.ok.at_ y1 true
      rw [y2, show t.c = other by omega, h.no] at a
      cases a
    · exact y1 (c.head y2)
theorem ChA.free_in (h : ChA x outlet one other) {ns : List Int} {inlet : Int} (c : Chain x one other true outlet ns) (hr : InR x false inlet one) (hn : cell2 x false inlet one = none) : cell2 (swapF x ns (one + other)) false inlet one = none := by
  have hs := swap_lai h.ok (h.swp c)
  cases e : cell2 (swapF x ns (one + other)) false inlet one with
  | none => rfl
  | some n =>
    exfalso
    rcases (hs.ce false inlet one n hr).mp e with ⟨z, t, y1, y2, y3⟩ | ⟨y1, y2⟩
    · exact c.avoid h.ok hn (fun z => by cases z) n z t y1 y2
    · rw [hn] at y2
      cases y2
end
end
/-! ### hall2 -/
theorem fn_free : FreeNm "free" := ⟨by decide +kernel, by decide +kernel, by decide +kernel, by decide +kernel, by decide +kernel⟩
theorem fn_chain : FreeNm "chain" := ⟨by decide +kernel, by decide +kernel, by decide +kernel, by decide +kernel, by decide +kernel⟩
theorem fn_lift : FreeNm "lift" := ⟨by decide +kernel, by decide +kernel, by decide +kernel, by decide +kernel, by decide +kernel⟩
theorem fn_lay : FreeNm "lay" := ⟨by decide +kernel, by decide +kernel, by decide +kernel, by decide +kernel, by decide +kernel⟩
theorem fn_swap : FreeNm "swap" := ⟨by decide +kernel, by decide +kernel, by decide +kernel, by decide +kernel, by decide +kernel⟩
theorem fn_put : FreeNm "put" := ⟨by decide +kernel, by decide +kernel, by decide +kernel, by decide +kernel, by decide +kernel⟩
theorem fn_drop : FreeNm "drop" := ⟨by decide +kernel, by decide +kernel, by decide +kernel, by decide +kernel, by decide +kernel⟩
abbrev rpRow : Rp (List (Option Int)) := @rpList (Option Int) (@rpOpt Int rpInt)
def rowAt (rows : Rows) (e : Int) : List (Option Int) := rows.getD e.toNat []
theorem row_at {rows : Rows} {e : Int} (h0 : 0 ≤ e) (h1 : e < (rows.length : Int)) : atI rows e = some (rowAt rows e) := atI_getD h0 h1
theorem row_mem {rows : Rows} {e : Int} (h0 : 0 ≤ e) (h1 : e < (rows.length : Int)) : rowAt rows e ∈ rows := by
  unfold rowAt
  have h : e.toNat < rows.length := by omega
  rw [List.getD_eq_getElem?_getD, List.getElem?_eq_getElem h]
  exact List.getElem_mem h
/-! free -/
def freeL (fr : Int) (row : List (Option Int)) : List Int := (rng 0 fr.toNat).filter fun f => (row.getD f.toNat none).isNone
abbrev SpFree (K : PySem.W.Frag) (C : Addr) : Sp := SpN K (fun x : LoadA C => [.im rpHD x.h, .im rpRow x.row]) (fun x => x.h.n = 5 ∧ 1 ≤ x.h.fr ∧ x.h.fr ≤ 8 ∧ x.row.length = x.h.fr.toNat) rpInt fun x => .ok (freeL x.h.fr x.row)
theorem ok_free {C : Addr} (F : MDefT K C "free" "Hall.free" s_Hall_free ["self", "row"]) (bl : Blt mg) (h_Hall : HCls K C) : MDef P w K mg base C 1 "free" ["self", "row"] (SpFree K C) :=
  F.to fun f fd F => def_okN F sc_Hall_free (fun _ => rfl) fun cdv A outer s H E hr => ⟨_, (pss_one (ps_ret (pe_lc (own := [("frame", 2)]) (g := gName 2)  rfl sc_Hall_free.nd (pi_range1 (by rfl) bl.range (pa_cons (ke_fld K rfl (pv 0)) pa_nil)) (blkOk_by (own := [("frame", 2)]) (N := ["self", "row", "frame"]) (sc := defScope s_Hall_free) (by decide +kernel)) (fun _ _ _ _ _ => (pg_name (i := 2) sc_Hall_free.nd rfl (Or.inl rfl))) (fun _ _ _ _ _ => (pts_one (pt_cmp (pc_isN (pe_ix (kx_list K rfl) (pv 1) (pv 2) (fun _ _ => rfl)))))) (fun _ _ _ _ _ => (pv 2))))), fun B x Q hp h1 h2 => by
    obtain ⟨h, row⟩ := x
    obtain ⟨hn, f1, f8, hl⟩ : h.n = 5 ∧ 1 ≤ h.fr ∧ h.fr ≤ 8 ∧ row.length = h.fr.toNat := hp
    show Goes ⟨K, B, H⟩ [.im rpHD h, .im rpRow row, .un] _
    refine g_retN (r := rpInt) (xs := ((rng 0 h.fr.toNat).filter fun f => (row.getD f.toNat none).isNone).map fun f => f) (ev_lc (fun f => (row.getD f.toNat none).isNone) (fun f => f) (ei_rng1 (ev_frames (EvD.h (ev_var rfl)) hn h_Hall) (by omega) (by omega)) (own_name (by decide)) (fun f hf => ⟨_, eg_name, et_B (ev_isN (EvD.h (ev_ix (EvD.c (ev_var rfl)) (ev_var rfl) ?_))), fun _ => ev_var rfl⟩) (by rw [rng_len]; omega)) (h1 _ ?_)
    · have hf := rng_mem.mp hf
      exact atI_getD hf.1 (by omega)
    · rw [List.map_id']
      rfl⟩
/-! chain -/
structure ChB (C : Addr) where
  h : HD C
  o : Int
  one : Int
  other : Int
  ns : List Int
abbrev SpChain (K : PySem.W.Frag) (C : Addr) : Sp := SpN K (fun x : ChB C => [.im rpHD x.h, .im rpInt x.o, .im rpInt x.one, .im rpInt x.other]) (fun x => HOk x.h ∧ Chain x.h x.one x.other true x.o x.ns ∧ x.ns.length ≤ 1000) rpInt fun x => .ok x.ns
theorem ok_chain {C : Addr} (F : MDefT K C "chain" "Hall.chain" s_Hall_chain ["self", "outlet", "one", "other"]) (bl : Blt mg) (h_Hall : HCls K C) : MDef P w K mg base C 1 "chain" ["self", "outlet", "one", "other"] (SpChain K C) :=
  F.to fun f fd F => def_okN F sc_Hall_chain (fun _ => rfl) fun cdv A outer s H E hr => ⟨_, (pss_cons (ps_set (i := 4) sc_Hall_chain.nd rfl (Or.inl rfl) (pe_lst pa_nil))
    (pss_cons (ps_set (i := 5) sc_Hall_chain.nd rfl (Or.inl rfl) (pv 1))
    (pss_cons (ps_set (i := 6) sc_Hall_chain.nd rfl (Or.inl rfl) (pv 2))
    (pss_cons (ps_set (i := 7) sc_Hall_chain.nd rfl (Or.inl rfl) pe_bl)
    (pss_one (ps_while (passes_of rfl) (pt_val pe_bl)
    (pss_cons (ps_if (pt_val (pv 7)) (pss_one (ps_set (i := 8) sc_Hall_chain.nd rfl (Or.inl rfl) (pe_ix (kx_list K rfl) (ke_fld K rfl (pv 0)) (pv 5) (fun _ _ => rfl)))) (pss_one (ps_set (i := 8) sc_Hall_chain.nd rfl (Or.inl rfl) (pe_ix (kx_list K rfl) (ke_fld K rfl (pv 0)) (pv 5) (fun _ _ => rfl)))))
    (pss_cons (ps_if (pt_cmp (pc_isN (pe_ix (kx_list K rfl) (pv 8) (pv 6) (fun _ _ => rfl)))) (pss_one (ps_ret (pv 4))) pss_nil)
    (pss_cons (ps_expr (ke_bm K rfl (pe_bm PySem.F.plainAttrs_list PySem.F.slot_list_append PySem.F.type_list_append mt_append (pv 4) (pa_cons (pe_ix (kx_list K rfl) (pv 8) (pv 6) (fun _ _ => rfl)) pa_nil))))
    (pss_cons (ps_set (i := 5) sc_Hall_chain.nd rfl (Or.inl rfl) (pe_ix (kx_tup K rfl) (pe_dget (hu_of hr) (ke_fld K rfl (pv 0)) (pe_ix (kx_list K rfl) (pv 8) (pv 6) (fun _ _ => rfl)) (fun _ _ => rfl)) (pe_op op_sub pe_int (pe_callTy call_int1 (by rfl) bl.int (by decide +kernel) (pa_cons (pv 7) pa_nil))) (fun _ _ => rfl)))
    (pss_cons (ps_set (i := 7) sc_Hall_chain.nd rfl (Or.inl rfl) (pe_not (pv 7)))
    (pss_one (ps_set (i := 6) sc_Hall_chain.nd rfl (Or.inl rfl) (pe_op op_sub (pe_op op_add (pv 2) (pv 3)) (pv 6))))))))))))))), fun B x Q hp h1 h2 => by
    obtain ⟨h, o, one, other, ns⟩ := x
    obtain ⟨ok, hc, hz⟩ : HOk h ∧ Chain h one other true o ns ∧ ns.length ≤ 1000 := hp
    have hn := ok.sh.n
    show Goes ⟨K, B, H⟩ [.im rpHD h, .im rpInt o, .im rpInt one, .im rpInt other, .un, .un, .un, .un, .un] _
    refine q_asgN (r := rpInt) (xs := []) (ev_lst el_nil (show (0 : Nat) ≤ 100000 by decide)) ?_
    refine q_asg (a := o) (ev_var rfl) ?_
    refine q_asg (a := one) (ev_var rfl) ?_
    refine q_asg (a := true) ev_bl ?_
    refine g_any 8 ?_
    refine g_while (fun m T => ∃ s e found rest, Chain h one other s e rest ∧ found ++ rest = ns ∧ m = rest.length ∧ T = [.im rpHD h, .im rpInt o, .im rpInt one, .im rpInt other, .ow (@owML Int rpInt) ⟨found⟩, .im rpInt e, .im rpInt (fro one other s), .im rpBool s, .any]) ns.length ⟨true, o, [], ns, hc, rfl, rfl, rfl⟩ (fun m T hI => ?_)
    obtain ⟨s, e, found, rest, hc, hf, hm, rfl⟩ := hI
    refine ⟨true, et_B ev_bl, fun _ => ?_, fun z => by cases z⟩
    have hr := hc.inr
    have hrow : (rowAt (rowsOf h s) e).length = h.fr.toNat := ok.sh.r s _ (row_mem hr.e0 hr.e1)
    have hcell : atI (rowAt (rowsOf h s) e) (fro one other s) = some (cell2 h s e (fro one other s)) := atI_getD hr.f0 (by have := hr.f1; omega)
    refine q_ifJ (T' := [.im rpHD h, .im rpInt o, .im rpInt one, .im rpInt other, .ow (@owML Int rpInt) ⟨found⟩, .im rpInt e, .im rpInt (fro one other s), .im rpBool s, .im rpRow (rowAt (rowsOf h s) e)]) (et_B (ev_var rfl)) (fun hb next => ?_) (fun hb next => ?_) ?_
    · subst hb
      exact g_asg (ev_ix (EvD.c (ev_outD' (ev_var rfl) hn h_Hall)) (ev_var rfl) (row_at hr.e0 hr.e1)) next
    · subst hb
      exact g_asg (ev_ix (EvD.c (ev_inD' (ev_var rfl) hn h_Hall)) (ev_var rfl) (row_at hr.e0 hr.e1)) next
    · refine q_when (et_B (ev_isN (EvD.h (ev_ix (EvD.c (ev_var rfl)) (ev_var rfl) hcell)))) (fun hb => ?_) (fun hb => ?_)
      · cases hc with
        | stop v c =>
          rw [List.append_nil] at hf
          subst hf
          exact g_retM (i := 4) rfl (h1 _ rfl)
        | go v c l c2 => rw [c] at hb; cases hb
      · cases hc with
        | stop v c => rw [c] at hb; cases hb
        | @go s e n t rest v c l c2 =>
          rw [c] at hcell
          have hlen : found.length ≤ 1000 := by
            have := congrArg List.length hf
            rw [List.length_append] at this
            omega
          have hnum : ∀ {G : Cn} {T : List Ty}, T[8]? = some (.im rpRow (rowAt (rowsOf h s) e)) → T[6]? = some (.im rpInt (fro one other s)) → EvD G (tOp (rIxL G.K) (tVar 8) (tVar 6)) T rpInt n := fun a b => EvD.unS (ev_ix (EvD.c (ev_var a)) (ev_var b) hcell)
          refine q_app (r := rpInt) (a := ⟨found⟩) rfl (hnum rfl rfl) (by show found.length < 100000; omega) ?_
          refine q_asg (a := endOf t (!s)) (ev_ixT (i := 1 - if s then 1 else 0) (EvD.t3l (ev_dgetI (ev_endsD (ev_var rfl) hn h_Hall) (hnum rfl rfl) l)) (ev_opI ev_int (ev_intB (ev_var rfl))) ?_) ?_
          · cases s <;> rfl
          refine q_asg (a := !s) (ev_notV (ev_var rfl)) ?_
          refine g_asg (a := one + other - fro one other s) (ev_opI (ev_opI (ev_var rfl) (ev_var rfl)) (ev_var rfl)) ?_
          refine g_any 8 (g_at ⟨rest.length, by rw [hm, List.length_cons]; omega, !s, endOf t (!s), found ++ [n], rest, c2, by rw [List.append_assoc]; exact hf, rfl, ?_⟩)
          rw [← fro_not s]
          rfl⟩
/-! lift, lay, swap -/
abbrev SpLift (K : PySem.W.Frag) (C : Addr) : Sp := SpM K (oxHD (C := C)) (fun n : Int => [.im rpInt n]) (fun x => Sh x.1 ∧ ∃ t, lookI x.2 x.1.ends = some t) rpInt fun x => .ok ((endAt x.1.ends x.2).c, liftN x.1 x.2)
theorem ix_n {α : Type} {l : List α} {e : Int} (h0 : 0 ≤ e) (h1 : e < (l.length : Int)) : ixN l.length e = some e.toNat := ixN_toNat h0 h1
theorem ok_lift {C : Addr} (F : MDefT K C "lift" "Hall.lift" s_Hall_lift ["self", "number"]) (bl : Blt mg) (h_Hall : HCls K C) : MDef P w K mg base C 1 "lift" ["self", "number"] (SpLift K C) :=
  F.to fun f fd F => def_okM F sc_Hall_lift (fun _ => rfl) fun cdv A outer s H E hr => ⟨_, (pss_cons (ps_asg (pe_dget (hu_of hr) (ke_fld K rfl (pv 0)) (pv 1) (fun _ _ => rfl)) (kg_tup K rfl (pg_tup (n := 3) (by rfl) (pgs_cons (pg_name (i := 2) sc_Hall_lift.nd rfl (Or.inl rfl)) (pgs_cons (pg_name (i := 3) sc_Hall_lift.nd rfl (Or.inl rfl)) (pgs_cons (pg_name (i := 4) sc_Hall_lift.nd rfl (Or.inl rfl)) pgs_nil))))))
    (pss_cons (ps_asg pe_non (pg_sub (pe_ix (kx_list K rfl) (ke_fld K rfl (pv 0)) (pv 2) (fun _ _ => rfl)) (pv 4) set_list))
    (pss_cons (ps_asg pe_non (pg_sub (pe_ix (kx_list K rfl) (ke_fld K rfl (pv 0)) (pv 3) (fun _ _ => rfl)) (pv 4) set_list))
    (pss_one (ps_ret (pv 4)))))), fun B H1 a n u Q hp h1 h2 => by
    obtain ⟨sh, t, ht⟩ : Sh a ∧ ∃ t, lookI n a.ends = some t := hp
    have hn := sh.n
    have hr := sh.en n t ht
    have hi := hr false
    have ho := hr true
    show Goes ⟨K, B, H1⟩ [.ow (owV u (oxHD (C := C))) a, .im rpInt n, .un, .un, .un] _
    refine q_asgT (a := t) (ev_dgetHas (has_ends (j := 0) rfl hn h_Hall) (ev_var rfl) ht) eg_trip ?_
    have li : (rowAt a.ain t.a).length = a.fr.toNat := sh.r false _ (row_mem hi.e0 hi.e1)
    have lo : (rowAt a.aout t.b).length = a.fr.toNat := sh.r true _ (row_mem ho.e0 ho.e1)
    refine q_setHas (y := (none : Option Int)) (has_in (j := 0) rfl hn h_Hall) ev_non (ev_var rfl) (ev_var rfl) (row_at hi.e0 hi.e1) (ix_n hi.e0 hi.e1) (ix_n hi.f0 (by have := hi.f1; have := hi.f0; show t.c < ((rowAt a.ain t.a).length : Int); omega)) ?_
    refine q_setHas (y := (none : Option Int)) (has_out (j := 0) rfl hn h_Hall) ev_non (ev_var rfl) (ev_var rfl) (row_at ho.e0 ho.e1) (ix_n ho.e0 ho.e1) (ix_n ho.f0 (by have := ho.f1; have := ho.f0; show t.c < ((rowAt a.aout t.b).length : Int); omega)) ?_
    refine g_retV (i := 0) (u := u) (w := oxHD (C := C)) (a := liftT a t) rfl (y := t.c) (ev_var rfl) (h1 _ _ ?_)
    show Except.ok ((endAt a.ends n).c, liftT a (endAt a.ends n)) = _
    rw [end_at ht]⟩
abbrev SpLay (K : PySem.W.Frag) (C : Addr) : Sp := SpM K (oxHD (C := C)) (fun x : Int × Tri => [.im rpInt x.1, .im rpInt x.2.a, .im rpInt x.2.b, .im rpInt x.2.c]) (fun x => Sh x.1 ∧ (∀ s, InR x.1 s (endOf x.2.2 s) x.2.2.c) ∧ x.1.ends.length ≤ 1000) rpUnit fun x => .ok ((), layT x.1 x.2.1 x.2.2)
theorem ok_lay {C : Addr} (F : MDefT K C "lay" "Hall.lay" s_Hall_lay ["self", "number", "inlet", "outlet", "frame"]) (bl : Blt mg) (h_Hall : HCls K C) : MDef P w K mg base C 1 "lay" ["self", "number", "inlet", "outlet", "frame"] (SpLay K C) :=
  F.to fun f fd F => def_okM F sc_Hall_lay (fun _ => rfl) fun cdv A outer s H E hr => ⟨_, (pss_cons (ps_asg (pv 1) (pg_sub (pe_ix (kx_list K rfl) (ke_fld K rfl (pv 0)) (pv 2) (fun _ _ => rfl)) (pv 4) set_list))
    (pss_cons (ps_asg (pv 1) (pg_sub (pe_ix (kx_list K rfl) (ke_fld K rfl (pv 0)) (pv 3) (fun _ _ => rfl)) (pv 4) set_list))
    (pss_one (ps_dput (hu_of hr) (ke_fld K rfl (pv 0)) (pv 1) (pe_tup (pa_cons (pv 2) (pa_cons (pv 3) (pa_cons (pv 4) pa_nil)))) rfl)))), fun B H1 a x u Q hp h1 h2 => by
    obtain ⟨n, t⟩ := x
    obtain ⟨sh, hr, hz⟩ : Sh a ∧ (∀ s, InR a s (endOf t s) t.c) ∧ a.ends.length ≤ 1000 := hp
    have hn := sh.n
    have hi := hr false
    have ho := hr true
    show Goes ⟨K, B, H1⟩ [.ow (owV u (oxHD (C := C))) a, .im rpInt n, .im rpInt t.a, .im rpInt t.b, .im rpInt t.c] _
    have li : (rowAt a.ain t.a).length = a.fr.toNat := sh.r false _ (row_mem hi.e0 hi.e1)
    have lo : (rowAt a.aout t.b).length = a.fr.toNat := sh.r true _ (row_mem ho.e0 ho.e1)
    refine q_setHas (y := some n) (has_in (j := 0) rfl hn h_Hall) (ev_some (ev_var rfl)) (ev_var rfl) (ev_var rfl) (row_at hi.e0 hi.e1) (ix_n hi.e0 hi.e1) (ix_n hi.f0 (by have := hi.f1; have := hi.f0; show t.c < ((rowAt a.ain t.a).length : Int); omega)) ?_
    refine q_setHas (y := some n) (has_out (j := 0) rfl hn h_Hall) (ev_some (ev_var rfl)) (ev_var rfl) (ev_var rfl) (row_at ho.e0 ho.e1) (ix_n ho.e0 ho.e1) (ix_n ho.f0 (by have := ho.f1; have := ho.f0; show t.c < ((rowAt a.aout t.b).length : Int); omega)) ?_
    refine g_dputHas (b := t) (has_ends (j := 0) rfl hn h_Hall) (ev_trip (ev_var rfl) (ev_var rfl) (ev_var rfl)) (ev_var rfl) (by show a.ends.length < 100000; omega) ?_
    exact g_endV (i := 0) (u := u) (w := oxHD (C := C)) (a := layT a n t) rfl (h1 () _ rfl)⟩
/-! ### hall3 -/
structure SwA where
  ns : List Int
  one : Int
  other : Int
abbrev SpSwap (K : PySem.W.Frag) (C : Addr) : Sp := SpM K (oxHD (C := C)) (fun x : SwA => [.im (@rpList Int rpInt) x.ns, .im rpInt x.one, .im rpInt x.other]) (fun x => HOk x.1 ∧ Swp x.1 x.2.ns (x.2.one + x.2.other) ∧ x.1.ends.length ≤ 1000) rpUnit fun x => .ok ((), swapF x.1 x.2.ns (x.2.one + x.2.other))
theorem Swp.lif {C : Addr} {a : HD C} {ns : List Int} {tot : Int} (hx : HOk a) (hs : Swp a ns tot) (i : Nat) : Lif a (ns.take i) ((ns.take i).foldl liftN a) := by
  have := lif_all hx (ns.take i) [] a (fun n hn => hs.en n (List.mem_of_mem_take hn)) (lif_0 hx)
  rw [List.nil_append] at this
  exact this
theorem Swp.lai {C : Addr} {a : HD C} {ns : List Int} {tot : Int} (hx : HOk a) (hs : Swp a ns tot) : ∀ i, i ≤ ns.length → Lai a ns tot (ns.take i) ((ns.take i).foldl (flipN tot) (ns.foldl liftN a))
  | 0, _ => by
    rw [List.take_zero]
    have := hs.lif hx ns.length
    rw [List.take_length] at this
    exact lai_0 this
  | i + 1, h => by
    have hi : i < ns.length := h
    have ih := hs.lai hx i (Nat.le_of_lt hi)
    have hm : ns[i] ∈ ns := List.getElem_mem hi
    obtain ⟨t, ht⟩ := hs.en _ hm
    have hd : ns[i] ∉ ns.take i := fun z => by
      obtain ⟨j, hj, e⟩ := List.mem_iff_getElem.mp z
      rw [List.length_take] at hj
      rw [List.getElem_take] at e
      have := (List.getElem_inj hs.nd).mp e
      omega
    have := ih.step hx hs hm hd ht
    rw [List.take_succ_eq_append_getElem hi, List.foldl_append]
    exact this
theorem foldl_take {α β : Type} {f : β → α → β} {b : β} {ns : List α} {i : Nat} {n : α} (h : ns[i]? = some n) : (ns.take (i + 1)).foldl f b = f ((ns.take i).foldl f b) n := by
  obtain ⟨hi, e⟩ := List.getElem?_eq_some_iff.mp h
  rw [List.take_succ_eq_append_getElem hi, List.foldl_append, e]
  rfl
theorem ok_swap {C : Addr} (F : MDefT K C "swap" "Hall.swap" s_Hall_swap ["self", "numbers", "one", "other"]) (bl : Blt mg) (h_Hall : HCls K C) (m_lift : MDef P w K mg base C 1 "lift" ["self", "number"] (SpLift K C)) (m_lay : MDef P w K mg base C 1 "lay" ["self", "number", "inlet", "outlet", "frame"] (SpLay K C)) : MDef P w K mg base C 2 "swap" ["self", "numbers", "one", "other"] (SpSwap K C) :=
  F.to fun f fd F => def_okM F sc_Hall_swap (fun _ => rfl) fun cdv A outer s H E hr => ⟨_, (pss_cons (ps_for (passes_of rfl) rfl (kp_list K rfl (pv 1)) (pg_name (i := 4) sc_Hall_swap.nd rfl (Or.inl rfl))
    (pss_one (ps_expr (pe_methD m_lift h_Hall.cl hr (passes_call (takes_of rfl rfl rfl rfl) (fun _ _ _ _ h => h)) (pv 0) (pa_cons (pv 4) pa_nil)))))
    (pss_one (ps_for (passes_of rfl) rfl (kp_list K rfl (pv 1)) (pg_name (i := 4) sc_Hall_swap.nd rfl (Or.inl rfl))
    (pss_cons (ps_asg (pe_dget (hu_of hr) (ke_fld K rfl (pv 0)) (pv 4) (fun _ _ => rfl)) (kg_tup K rfl (pg_tup (n := 3) (by rfl) (pgs_cons (pg_name (i := 5) sc_Hall_swap.nd rfl (Or.inl rfl)) (pgs_cons (pg_name (i := 6) sc_Hall_swap.nd rfl (Or.inl rfl)) (pgs_cons (pg_name (i := 7) sc_Hall_swap.nd rfl (Or.inl rfl)) pgs_nil))))))
    (pss_one (ps_expr (pe_methD m_lay h_Hall.cl hr (passes_call (takes_of rfl rfl rfl rfl) (fun _ _ _ _ h => h)) (pv 0) (pa_cons (pv 4) (pa_cons (pv 5) (pa_cons (pv 6) (pa_cons (pe_op op_sub (pe_op op_add (pv 2) (pv 3)) (pv 7)) pa_nil))))))))))), fun B H1 a x u Q hp h1 h2 => by
    obtain ⟨ns, one, other⟩ := x
    obtain ⟨ok, hs, hz⟩ : HOk a ∧ Swp a ns (one + other) ∧ a.ends.length ≤ 1000 := hp
    show Goes ⟨K, B, H1⟩ [.ow (owV u (oxHD (C := C))) a, .im (@rpList Int rpInt) ns, .im rpInt one, .im rpInt other, .un, .un, .un, .un] _
    refine g_any 4 (g_any 5 (g_any 6 (g_any 7 ?_)))
    refine q_for (fun i T => T = [.ow (owV u (oxHD (C := C))) ((ns.take i).foldl liftN a), .im (@rpList Int rpInt) ns, .im rpInt one, .im rpInt other, .any, .any, .any, .any]) (ei_list (ev_var rfl)) rfl (fun B2 up i n T hi hI => ?_) (fun T hI => ?_)
    · subst hI
      have hn : n ∈ ns := List.mem_of_getElem? hi
      obtain ⟨t, ht⟩ := hs.en n hn
      have hl := hs.lif ok i
      refine ⟨_, eg_name, g_dropM (ev_methM (j := 0) (x := n) rfl (insHD fn_lift) (ea_cons (ev_var rfl) ea_nil) ⟨hl.sh, t, by rw [hl.en]; exact ht⟩ rfl) (g_any 4 (g_at ?_))⟩
      show _ = _
      rw [foldl_take hi]
      rfl
    · subst hI
      rw [List.take_length]
      refine g_for (fun i T => T = [.ow (owV u (oxHD (C := C))) ((ns.take i).foldl (flipN (one + other)) (ns.foldl liftN a)), .im (@rpList Int rpInt) ns, .im rpInt one, .im rpInt other, .any, .any, .any, .any]) (ei_list (ev_var rfl)) rfl (fun B2 up i n T hi hI => ?_) (fun T hI => ?_)
      · subst hI
        have hn : n ∈ ns := List.mem_of_getElem? hi
        obtain ⟨hlt, hget⟩ := List.getElem?_eq_some_iff.mp hi
        obtain ⟨t, ht⟩ := hs.en n hn
        have hl := hs.lai ok i (Nat.le_of_lt hlt)
        have hd : n ∉ ns.take i := fun z => by
          obtain ⟨j, hj, e⟩ := List.mem_iff_getElem.mp z
          rw [List.length_take] at hj
          rw [List.getElem_take, ← hget] at e
          have := (List.getElem_inj hs.nd).mp e
          omega
        obtain ⟨e1, e2⟩ := hl.at_ hs hn hd ht ok
        have hlen := congrArg List.length hl.ks
        rw [List.length_map, List.length_map] at hlen
        refine ⟨_, eg_name, q_asgT (a := t) (ev_dgetHas (has_ends (j := 0) rfl hl.sh.n h_Hall) (ev_var rfl) e1) eg_trip ?_⟩
        refine g_dropM (ev_methM (j := 0) (x := (n, flip1 t (one + other))) rfl (insHD fn_lay) (ea_cons (ev_var rfl) (ea_cons (ev_var rfl) (ea_cons (ev_var rfl) (ea_cons (ev_opI (ev_opI (ev_var rfl) (ev_var rfl)) (ev_var rfl)) ea_nil)))) ⟨hl.sh, e2, Nat.le_trans (Nat.le_of_eq hlen) hz⟩ rfl) (g_any 4 (g_any 5 (g_any 6 (g_any 7 (g_at ?_)))))
        show _ = _
        have ef : flipN (one + other) ((ns.take i).foldl (flipN (one + other)) (ns.foldl liftN a)) n = layT ((ns.take i).foldl (flipN (one + other)) (ns.foldl liftN a)) n (flip1 t (one + other)) := by
          rw [← end_at e1]
          rfl
        rw [foldl_take hi, ef]
        rfl
      · subst hI
        rw [List.take_length]
        exact g_endV (i := 0) (u := u) (w := oxHD (C := C)) (a := swapF a ns (one + other)) rfl (h1 () _ rfl)⟩
/-! put -/
open Classical in
noncomputable def chainF {C : Addr} (x : HD C) (outlet one other : Int) : List Int := if h : ∃ ns, Chain x one other true outlet ns then Classical.choose h else []
theorem chainF_is {C : Addr} {x : HD C} {outlet one other : Int} (h : ChA x outlet one other) : Chain x one other true outlet (chainF x outlet one other) := by
  unfold chainF
  rw [dif_pos h.ex]
  exact Classical.choose_spec h.ex
structure Put (C : Addr) where
  y : HD C
  fm : Int
  ns : List Int
/-- what a call is put upon, the ends whole -/
noncomputable def putOf {C : Addr} (x : HD C) (i o : Int) : Option (Put C) :=
  let mine := freeL x.fr (rowAt x.ain i)
  let theirs := freeL x.fr (rowAt x.aout o)
  if mine = [] ∨ theirs = [] then none
  else match mine.filter fun f => decide (f ∈ theirs) with
    | b :: _ => some ⟨x, b, []⟩
    | [] => some ⟨swapF x (chainF x o (mine.headD 0) (theirs.headD 0)) (mine.headD 0 + theirs.headD 0), mine.headD 0, chainF x o (mine.headD 0) (theirs.headD 0)⟩
noncomputable def putE {C : Addr} (N Y : Addr) (x : HD C × (D × D)) : Except Addr (T3 Int Int (List Int) × HD C) :=
  if (endOk x.1.ain x.2.1 && endOk x.1.aout x.2.2) = true then
    match putOf x.1 x.2.1.toI x.2.2.toI with
    | none => .error Y
    | some q => .ok (⟨x.1.given, q.fm, isort q.ns⟩, addT q.y ⟨x.2.1.toI, x.2.2.toI, q.fm⟩)
  else .error N
theorem free_mem {fr f : Int} {row : List (Option Int)} (h0 : 0 ≤ fr) : f ∈ freeL fr row ↔ (0 ≤ f ∧ f < fr) ∧ row.getD f.toNat none = none := by
  unfold freeL
  rw [List.mem_filter, rng_mem]
  constructor
  · rintro ⟨a, b⟩
    refine ⟨by omega, ?_⟩
    cases e : row.getD f.toNat none with
    | none => rfl
    | some n => rw [e] at b; cases b
  · rintro ⟨a, b⟩
    exact ⟨by omega, by rw [b]; rfl⟩
structure PutOk {C : Addr} (x : HD C) (i o : Int) (q : Put C) : Prop where
  ok : HOk q.y
  gi : q.y.given = x.given
  fr : q.y.fr = x.fr
  ks : (q.y.ends.map fun p => p.1) = x.ends.map fun p => p.1
  ri : InR q.y false i q.fm
  ro : InR q.y true o q.fm
  ci : cell2 q.y false i q.fm = none
  co : cell2 q.y true o q.fm = none
  le : ∀ s, (rowsOf q.y s).length = (rowsOf x s).length
/-- how: as it stands, or along a chain -/
inductive PutHow {C : Addr} (x : HD C) (i o : Int) (q : Put C) : Prop
  | both (b : Int) (bs : List Int) : ((freeL x.fr (rowAt x.ain i)).filter fun f => decide (f ∈ freeL x.fr (rowAt x.aout o))) = b :: bs → q = ⟨x, b, []⟩ → PutHow x i o q
  | chain (f g : Int) (fs gs ns : List Int) : freeL x.fr (rowAt x.ain i) = f :: fs → freeL x.fr (rowAt x.aout o) = g :: gs → ((freeL x.fr (rowAt x.ain i)).filter fun f => decide (f ∈ freeL x.fr (rowAt x.aout o))) = [] → ChA x o f g → Chain x f g true o ns → q = ⟨swapF x ns (f + g), f, ns⟩ → PutHow x i o q
theorem put_how {C : Addr} {x : HD C} {i o : Int} {q : Put C} (hx : HOk x) (hi : 0 ≤ i ∧ i < (x.ain.length : Int)) (ho : 0 ≤ o ∧ o < (x.aout.length : Int)) (h : putOf x i o = some q) : PutHow x i o q := by
  have f1 := hx.sh.f0
  unfold putOf at h
  dsimp only at h
  by_cases c : freeL x.fr (rowAt x.ain i) = [] ∨ freeL x.fr (rowAt x.aout o) = []
  · rw [if_pos c] at h; cases h
  · rw [if_neg c] at h
    cases e : (freeL x.fr (rowAt x.ain i)).filter fun f => decide (f ∈ freeL x.fr (rowAt x.aout o)) with
    | cons b bs =>
      rw [e] at h
      exact .both b bs e (Option.some.inj h).symm
    | nil =>
      rw [e] at h
      cases em : freeL x.fr (rowAt x.ain i) with
      | nil => exact absurd (.inl em) c
      | cons f fs =>
        cases et : freeL x.fr (rowAt x.aout o) with
        | nil => exact absurd (.inr et) c
        | cons g gs =>
          rw [em, et] at h
          have mf := (free_mem (f := f) (by omega)).mp (show f ∈ freeL x.fr (rowAt x.ain i) by rw [em]; exact List.mem_cons_self)
          have mg' := (free_mem (f := g) (by omega)).mp (show g ∈ freeL x.fr (rowAt x.aout o) by rw [et]; exact List.mem_cons_self)
          have hc : ChA x o f g := ⟨hx, ⟨ho.1, ho.2, mf.1.1, mf.1.2⟩, mg'.1.1, mg'.1.2, (fun z => by
            subst z
            have : f ∈ (freeL x.fr (rowAt x.ain i)).filter fun f => decide (f ∈ freeL x.fr (rowAt x.aout o)) := List.mem_filter.mpr ⟨by rw [em]; exact List.mem_cons_self, decide_eq_true (by rw [et]; exact List.mem_cons_self)⟩
            rw [e] at this
            cases this), mg'.2⟩
          exact .chain f g fs gs _ em et e hc (chainF_is hc) (Option.some.inj h).symm
theorem put_ok {C : Addr} {x : HD C} {i o : Int} {q : Put C} (hx : HOk x) (hi : 0 ≤ i ∧ i < (x.ain.length : Int)) (ho : 0 ≤ o ∧ o < (x.aout.length : Int)) (h : putOf x i o = some q) : PutOk x i o q := by
  have f1 := hx.sh.f0
  rcases put_how hx hi ho h with ⟨b, bs, e, rfl⟩ | ⟨f, g, fs, gs, ns, em, et, e, hc, hch, rfl⟩
  · have hb : b ∈ (freeL x.fr (rowAt x.ain i)).filter fun f => decide (f ∈ freeL x.fr (rowAt x.aout o)) := by rw [e]; exact List.mem_cons_self
    obtain ⟨b1, b2⟩ := List.mem_filter.mp hb
    have m1 := (free_mem (by omega)).mp b1
    have m2 := (free_mem (by omega)).mp (of_decide_eq_true b2)
    exact ⟨hx, rfl, rfl, rfl, ⟨hi.1, hi.2, m1.1.1, m1.1.2⟩, ⟨ho.1, ho.2, m1.1.1, m1.1.2⟩, m1.2, m2.2, fun _ => rfl⟩
  · have mf := (free_mem (f := f) (by omega)).mp (show f ∈ freeL x.fr (rowAt x.ain i) by rw [em]; exact List.mem_cons_self)
    have hl := swap_lai hx (hc.swp hch)
    have ri : InR x false i f := ⟨hi.1, hi.2, mf.1.1, mf.1.2⟩
    exact ⟨swap_ok hx (hc.swp hch), hl.gi, hl.fr, hl.ks, hl.inr.mpr ri, hl.inr.mpr hc.r1, hc.free_in hch ri mf.2, hc.free_out hch, hl.le⟩
theorem PutOk.add {C : Addr} {x : HD C} {i o : Int} {q : Put C} (h : PutOk x i o q) : HOk (addT q.y ⟨i, o, q.fm⟩) := h.ok.add (t := ⟨i, o, q.fm⟩) (fun s => match s with | true => h.ro | false => h.ri) fun s => match s with | true => h.co | false => h.ci
/-! ### hall4 -/
theorem add_is {C : Addr} {y : HD C} {t : Tri} (hn : y.n = 5) : layT ({ y with n := 5, given := y.given + 1 } : HD C) y.given t = addT y t := by
  obtain ⟨n, fr, ain, aout, ends, given⟩ := y
  cases hn
  rfl
theorem rows_given {C : Addr} {y : HD C} {g : Int} : ∀ s, rowsOf ({ y with n := 5, given := g } : HD C) s = rowsOf y s
  | true => rfl
  | false => rfl
theorem inr_given {C : Addr} {y : HD C} {g : Int} {s : Bool} {e f : Int} (h : InR y s e f) : InR ({ y with n := 5, given := g } : HD C) s e f := ⟨h.e0, by rw [rows_given]; exact h.e1, h.f0, h.f1⟩
theorem Sh.given {C : Addr} {y : HD C} {g : Int} (h : Sh y) : Sh ({ y with n := 5, given := g } : HD C) := ⟨rfl, h.f0, h.f8, fun s => by rw [rows_given]; exact h.li s, fun s => by rw [rows_given]; exact h.r s, fun n t e s => inr_given (h.en n t e s)⟩
theorem end_ok {rows : Rows} {e : D} (h : endOk rows e = true) : ∃ i : Int, e = .int i ∧ 0 ≤ i ∧ i < (rows.length : Int) := by
  obtain ⟨k, rfl, h1, h2⟩ := within_int h
  exact ⟨k, rfl, h1, by omega⟩
theorem map_len {α β : Type} {f : α → β} {xs ys : List α} (h : xs.map f = ys.map f) : xs.length = ys.length := by
  have := congrArg List.length h
  rw [List.length_map, List.length_map] at this
  exact this
abbrev rpPut : Rp (T3 Int Int (List Int)) := @rpT3 Int Int (List Int) rpInt rpInt (@rpList Int rpInt)
abbrev SpPut (K : PySem.W.Frag) (C N Y : Addr) : Sp := SpM K (oxHD (C := C)) (fun x : D × D => [.im rpD x.1, .im rpD x.2]) (fun x => HOk x.1 ∧ x.1.ends.length ≤ 900) rpPut (putE N Y)
theorem ok_put {C N Y : Addr} (F : MDefT K C "put" "Hall.put" s_Hall_put ["self", "inlet", "outlet"]) (bl : Blt mg) (h_Hall : HCls K C) (c_NoEnd : ECls K mg "NoEnd" N) (c_Busy : ECls K mg "Busy" Y) (m_look_end : MDef P w K mg base C 2 "look_end" ["self", "some", "end"] (SpLook K C N)) (m_free : MDef P w K mg base C 1 "free" ["self", "row"] (SpFree K C)) (m_chain : MDef P w K mg base C 1 "chain" ["self", "outlet", "one", "other"] (SpChain K C)) (m_swap : MDef P w K mg base C 2 "swap" ["self", "numbers", "one", "other"] (SpSwap K C)) (m_lay : MDef P w K mg base C 1 "lay" ["self", "number", "inlet", "outlet", "frame"] (SpLay K C)) : MDef P w K mg base C 3 "put" ["self", "inlet", "outlet"] (SpPut K C N Y) :=
  F.to fun f fd F => def_okM F sc_Hall_put (fun _ => rfl) fun cdv A outer s H E hr => ⟨_, (pss_cons (ps_expr (pe_methD m_look_end h_Hall.cl hr (passes_call (takes_of rfl rfl rfl rfl) (fun _ _ _ _ h => h)) (pv 0) (pa_cons (ke_fld K rfl (pv 0)) (pa_cons (pv 1) pa_nil))))
    (pss_cons (ps_expr (pe_methD m_look_end h_Hall.cl hr (passes_call (takes_of rfl rfl rfl rfl) (fun _ _ _ _ h => h)) (pv 0) (pa_cons (ke_fld K rfl (pv 0)) (pa_cons (pv 2) pa_nil))))
    (pss_cons (ps_set (i := 3) sc_Hall_put.nd rfl (Or.inl rfl) (pe_methD m_free h_Hall.cl hr (passes_call (takes_of rfl rfl rfl rfl) (fun _ _ _ _ h => h)) (pv 0) (pa_cons (pe_ix (kx_list K rfl) (ke_fld K rfl (pv 0)) (pv 1) (fun _ _ => rfl)) pa_nil)))
    (pss_cons (ps_set (i := 4) sc_Hall_put.nd rfl (Or.inr rfl) (pe_methD m_free h_Hall.cl hr (passes_call (takes_of rfl rfl rfl rfl) (fun _ _ _ _ h => h)) (pv 0) (pa_cons (pe_ix (kx_list K rfl) (ke_fld K rfl (pv 0)) (pv 2) (fun _ _ => rfl)) pa_nil)))
    (pss_cons (ps_if (PW.pt (pw_or (pt_not (kt_truth K rfl (pv 3) (by intro _; rfl))) (pw_or1 (pt_not (kt_truth K rfl (pv 4) (by intro _; rfl)))))) (pss_one (ps_raise rfl (takes_of rfl rfl rfl rfl) c_Busy.pmk)) pss_nil)
    (pss_cons (ps_setLc (i := 6) (own := [("frame", 5)]) (g := gName 5)  rfl sc_Hall_put.nd rfl rfl (sw_true rfl rfl rfl (by decide +kernel)) (kp_list K rfl (pv 3)) (blkOk_by (own := [("frame", 5)]) (N := ["self", "inlet", "outlet", "mine", "theirs", "frame", "both", "moved", "number"]) (sc := defScope s_Hall_put) (by decide +kernel)) (fun _ _ _ _ _ => (pg_name (i := 5) sc_Hall_put.nd rfl (Or.inl rfl))) (fun _ _ _ _ _ => (pts_one (pt_cmpR (ko_in K rfl) (pv 5) (pv 4) (by rfl)))) (fun _ _ _ _ _ => (pv 5)))
    (pss_cons (ps_set (i := 7) sc_Hall_put.nd rfl (Or.inl rfl) (pe_lst pa_nil))
    (pss_cons (ps_if (kt_truth K rfl (pv 6) (by intro _; rfl)) (pss_one (ps_set (i := 5) sc_Hall_put.nd rfl (Or.inl rfl) (pe_ix (kx_list K rfl) (pv 6) pe_int (fun _ _ => rfl)))) (pss_cons (ps_set (i := 5) sc_Hall_put.nd rfl (Or.inl rfl) (pe_ix (kx_list K rfl) (pv 3) pe_int (fun _ _ => rfl)))
    (pss_cons (ps_set (i := 7) sc_Hall_put.nd rfl (Or.inl rfl) (pe_methD m_chain h_Hall.cl hr (passes_call (takes_of rfl rfl rfl rfl) (fun _ _ _ _ h => h)) (pv 0) (pa_cons (pv 2) (pa_cons (pv 5) (pa_cons (pe_ix (kx_list K rfl) (pv 4) pe_int (fun _ _ => rfl)) pa_nil)))))
    (pss_one (ps_expr (pe_methD m_swap h_Hall.cl hr (passes_call (takes_of rfl rfl rfl rfl) (fun _ _ _ _ h => h)) (pv 0) (pa_cons (pv 7) (pa_cons (pv 5) (pa_cons (pe_ix (kx_list K rfl) (pv 4) pe_int (fun _ _ => rfl)) pa_nil)))))))))
    (pss_cons (ps_set (i := 8) sc_Hall_put.nd rfl (Or.inl rfl) (ke_fld K rfl (pv 0)))
    (pss_cons (kps_fld K rfl (pv 0) (pe_op op_add (pv 8) pe_int))
    (pss_cons (ps_expr (pe_methD m_lay h_Hall.cl hr (passes_call (takes_of rfl rfl rfl rfl) (fun _ _ _ _ h => h)) (pv 0) (pa_cons (pv 8) (pa_cons (pv 1) (pa_cons (pv 2) (pa_cons (pv 5) pa_nil))))))
    (pss_one (ps_ret (pe_tup (pa_cons (pv 8) (pa_cons (pv 5) (pa_cons (pe_callB (kr_sortedI K rfl) (by rfl) bl.sorted (by decide +kernel) (pa_cons (pv 7) pa_nil)) pa_nil))))))))))))))))), fun B H1 a x u Q hp h1 h2 => by
    obtain ⟨d1, d2⟩ := x
    obtain ⟨ok, hz⟩ : HOk a ∧ a.ends.length ≤ 900 := hp
    have hn := ok.sh.n
    have f0 := ok.sh.f0
    have f8 := ok.sh.f8
    show Goes ⟨K, B, H1⟩ [.ow (owV u (oxHD (C := C))) a, .im rpD d1, .im rpD d2, .un, .un, .un, .un, .un, .un] _
    cases hb1 : endOk a.ain d1 with
    | false => exact g_seq (gt_drop (ex_methF (x := ⟨a, a.ain, d1⟩) (ev_varO rfl) (insHD fn_look) (eah_cons (evh_in (ev_varO rfl) hn h_Hall) (eah_cons (EvD.h (ev_var rfl)) eah_nil)) rfl trivial (by dsimp only; rw [hb1]; rfl)) (g_raiV (i := 0) (u := u) (w := oxHD (C := C)) rfl (h2 N (by unfold putE; dsimp only; rw [hb1]; rfl))))
    | true =>
      refine q_drop (ev_methS (x := ⟨a, a.ain, d1⟩) (ev_varO rfl) (insHD fn_look) (eah_cons (evh_in (ev_varO rfl) hn h_Hall) (eah_cons (EvD.h (ev_var rfl)) eah_nil)) rfl trivial (by dsimp only; rw [hb1]; rfl)) ?_
      cases hb2 : endOk a.aout d2 with
      | false => exact g_seq (gt_drop (ex_methF (x := ⟨a, a.aout, d2⟩) (ev_varO rfl) (insHD fn_look) (eah_cons (evh_out (ev_varO rfl) hn h_Hall) (eah_cons (EvD.h (ev_var rfl)) eah_nil)) rfl trivial (by dsimp only; rw [hb2]; rfl)) (g_raiV (i := 0) (u := u) (w := oxHD (C := C)) rfl (h2 N (by unfold putE; dsimp only; rw [hb1, hb2]; rfl))))
      | true =>
        refine q_drop (ev_methS (x := ⟨a, a.aout, d2⟩) (ev_varO rfl) (insHD fn_look) (eah_cons (evh_out (ev_varO rfl) hn h_Hall) (eah_cons (EvD.h (ev_var rfl)) eah_nil)) rfl trivial (by dsimp only; rw [hb2]; rfl)) ?_
        obtain ⟨i, rfl, i0, i1⟩ := end_ok hb1
        obtain ⟨o, rfl, o0, o1⟩ := end_ok hb2
        have hE : putE N Y (a, (D.int i, D.int o)) = match putOf a i o with
            | none => .error Y
            | some q => .ok (⟨a.given, q.fm, isort q.ns⟩, addT q.y ⟨i, o, q.fm⟩) := by
          unfold putE
          rw [show (endOk (a, (D.int i, D.int o)).1.ain (a, (D.int i, D.int o)).2.1 && endOk (a, (D.int i, D.int o)).1.aout (a, (D.int i, D.int o)).2.2) = true by show (endOk a.ain (.int i) && endOk a.aout (.int o)) = true; rw [hb1, hb2]; rfl, if_pos rfl]
          rfl
        refine q_asgN (r := rpInt) (ev_methNS (x := ⟨a, rowAt a.ain i⟩) (ev_varO rfl) (insHD fn_free) (eah_cons (ev_ixH (evh_in (ev_varO rfl) hn h_Hall) (EvD.ofD (α := Int) (a := i) (ev_var rfl)) (row_at i0 i1)) eah_nil) rfl ⟨hn, f0, f8, ok.sh.r false _ (row_mem i0 i1)⟩ rfl) ?_
        refine g_freeze (i := 3) rfl ?_
        refine q_asgN (r := rpInt) (ev_methNS (x := ⟨a, rowAt a.aout o⟩) (ev_varO rfl) (insHD fn_free) (eah_cons (ev_ixH (evh_out (ev_varO rfl) hn h_Hall) (EvD.ofD (α := Int) (a := o) (ev_var rfl)) (row_at o0 o1)) eah_nil) rfl ⟨hn, f0, f8, ok.sh.r true _ (row_mem o0 o1)⟩ rfl) ?_
        refine g_freeze (i := 4) rfl ?_
        dsimp only
        generalize hm : freeL a.fr (rowAt a.ain i) = mine
        generalize ht : freeL a.fr (rowAt a.aout o) = theirs
        refine q_when (et_or (et_not (et_truL (EvD.c (ev_var rfl)))) fun _ => et_not (et_truL (EvD.c (ev_var rfl)))) (fun hb => ?_) (fun hb => ?_)
        · refine g_raiV (i := 0) (u := u) (w := oxHD (C := C)) rfl (h2 Y ?_)
          rw [hE]
          have : putOf a i o = none := by
            unfold putOf
            dsimp only
            rw [hm, ht]
            refine if_pos ?_
            cases mine with
            | nil => exact .inl rfl
            | cons _ _ =>
              cases theirs with
              | nil => exact .inr rfl
              | cons _ _ => cases hb
          rw [this]
        · have hne : ¬ (mine = [] ∨ theirs = []) := by
            rintro (rfl | rfl)
            · cases hb
            · rw [Bool.or_eq_false_iff] at hb; cases hb.2
          have hsome : ∃ q, putOf a i o = some q := by
            unfold putOf
            dsimp only
            rw [hm, ht, if_neg hne]
            cases mine.filter fun f => decide (f ∈ theirs) with
            | nil => exact ⟨_, rfl⟩
            | cons _ _ => exact ⟨_, rfl⟩
          obtain ⟨q, hq⟩ := hsome
          have pk := put_ok ok ⟨i0, i1⟩ ⟨o0, o1⟩ hq
          have how := put_how ok ⟨i0, i1⟩ ⟨o0, o1⟩ hq
          have hml : mine.length ≤ 8 := by
            rw [← hm]
            refine Nat.le_trans (List.length_filter_le _ _) ?_
            rw [rng_len]
            omega
          refine q_asgN (r := rpInt) (xs := (mine.filter fun f => decide (f ∈ theirs)).map fun f => f) (ev_lc (fun f => decide (f ∈ theirs)) (fun f => f) (ei_list (ev_var rfl)) (own_name (by decide)) (fun f hf => ⟨_, eg_name, et_B (ev_inI (ev_var rfl) (EvD.c (ev_var rfl))), fun _ => ev_var rfl⟩) (by omega)) ?_
          refine g_freeze (i := 6) rfl ?_
          rw [List.map_id']
          refine q_asg (r := @rpList Int rpInt) (a := []) (EvN.d (ev_lst el_nil (show (0 : Nat) ≤ 100000 by decide))) ?_
          refine q_ifJ (T' := [.ow (owV u (oxHD (C := C))) q.y, .im rpD (D.int i), .im rpD (D.int o), .im (@rpList Int rpInt) mine, .im (@rpList Int rpInt) theirs, .im rpInt q.fm, .im (@rpList Int rpInt) (mine.filter fun f => decide (f ∈ theirs)), .im (@rpList Int rpInt) q.ns, .un]) (et_truL (EvD.c (ev_var rfl))) (fun hb next => ?_) (fun hb next => ?_) ?_
          · rcases how with ⟨b, bs, e, rfl⟩ | ⟨f, g, fs, gs, ns, em, et, e, hc, hch, rfl⟩
            · rw [hm, ht] at e
              exact g_asg (ev_ix (EvD.c (ev_var rfl)) ev_int (by dsimp only; rw [e]; exact atI_toNat (Int.le_refl 0) rfl)) next
            · rw [hm, ht] at e
              rw [e] at hb
              cases hb
          · rcases how with ⟨b, bs, e, rfl⟩ | ⟨f, g, fs, gs, ns, em, et, e, hc, hch, rfl⟩
            · rw [hm, ht] at e
              rw [e] at hb
              cases hb
            · rw [hm] at em
              rw [ht] at et
              subst em et
              have hl : ns.length ≤ 900 := by
                have := sub_len2 ns (a.ends.map fun p => p.1) (hch.nodup hc) fun n hn' => by
                  obtain ⟨t, _, y, _⟩ := hch.mem ok n hn'
                  exact look_key y
                rw [List.length_map] at this
                omega
              refine q_asg (a := f) (ev_ix (EvD.c (ev_var rfl)) ev_int (atI_toNat (Int.le_refl 0) rfl)) ?_
              refine q_asg (r := @rpList Int rpInt) (a := ns) (EvN.d (ev_methNS (x := ⟨a, o, f, g, ns⟩) (ev_varO rfl) (insHD fn_chain) (eah_cons (EvD.h (EvD.ofD (α := Int) (a := o) (ev_var rfl))) (eah_cons (EvD.h (ev_var rfl)) (eah_cons (EvD.h (ev_ix (EvD.c (ev_var rfl)) ev_int (atI_toNat (Int.le_refl 0) rfl))) eah_nil))) rfl ⟨ok, hch, by show ns.length ≤ 1000; omega⟩ rfl)) ?_
              refine g_dropM (ev_methM (j := 0) (x := (⟨ns, f, g⟩ : SwA)) (y := ()) (a' := swapF a ns (f + g)) rfl (insHD fn_swap) (ea_cons (ev_var rfl) (ea_cons (ev_var rfl) (ea_cons (ev_ix (EvD.c (ev_var rfl)) ev_int (atI_toNat (Int.le_refl 0) rfl)) ea_nil))) ⟨ok, hc.swp hch, by show a.ends.length ≤ 1000; omega⟩ rfl) ?_
              exact next
          · have hn' := pk.ok.sh.n
            have hl := map_len pk.ks
            refine q_asg (a := q.y.given) (ev_given (ev_varO rfl) hn' h_Hall) ?_
            refine g_seq (g_fldGiven (j := 0) rfl (.inr hn') h_Hall (ev_opI (ev_var rfl) ev_int) ?_)
            refine q_dropM (ev_methM (j := 0) (x := (q.y.given, ⟨i, o, q.fm⟩)) rfl (insHD fn_lay) (ea_cons (ev_var rfl) (ea_cons (EvD.ofD (α := Int) (a := i) (ev_var rfl)) (ea_cons (EvD.ofD (α := Int) (a := o) (ev_var rfl)) (ea_cons (ev_var rfl) ea_nil)))) ⟨pk.ok.sh.given, fun s => inr_given (match s with | true => pk.ro | false => pk.ri), by show q.y.ends.length ≤ 1000; omega⟩ rfl) ?_
            refine g_retV (i := 0) (u := u) (w := oxHD (C := C)) (a := addT q.y ⟨i, o, q.fm⟩) (y := ⟨q.y.given, q.fm, isort q.ns⟩) ?_ (ev_trip (ev_var rfl) (ev_var rfl) (EvN.d (ev_sorted (EvD.c (ev_var rfl)) (isort_perm _) (isort_le _)))) (h1 _ _ ?_)
            · rw [← add_is hn']
              rfl
            · rw [hE, hq, pk.gi]⟩
/-! drop -/
def dropE {C : Addr} (M : Addr) (x : HD C × D) : Except Addr (Int × HD C) := if (within x.2 0 x.1.given && (lookI x.2.toI x.1.ends).isSome) = true then .ok ((endAt x.1.ends x.2.toI).c, dropT x.1 x.2.toI (endAt x.1.ends x.2.toI)) else .error M
abbrev SpDrop (K : PySem.W.Frag) (C M : Addr) : Sp := SpM K (oxHD (C := C)) (fun x : D => [.im rpD x]) (fun x => HOk x.1) rpInt (dropE M)
theorem ok_drop {C M : Addr} (F : MDefT K C "drop" "Hall.drop" s_Hall_drop ["self", "number"]) (bl : Blt mg) (h_Hall : HCls K C) (c_NoCall : ECls K mg "NoCall" M) (d_is_within : Def P w K mg base 1 "is_within" ["thing", "low", "high"] (SpWithin K)) (m_lift : MDef P w K mg base C 1 "lift" ["self", "number"] (SpLift K C)) : MDef P w K mg base C 2 "drop" ["self", "number"] (SpDrop K C M) :=
  F.to fun f fd F => def_okM F sc_Hall_drop (fun _ => rfl) fun cdv A outer s H E hr => ⟨_, (pss_cons (ps_if (PW.pt (pw_or (pt_not (pt_val (pe_callD d_is_within hr (by rfl) (passes_call (takes_of rfl rfl rfl rfl) (fun _ _ _ _ h => h)) (pa_cons (pv 1) (pa_cons pe_int (pa_cons (ke_fld K rfl (pv 0)) pa_nil)))))) (pw_or1 (pt_cmp (pc_dnotin (hu_of hr) (pv 1) (ke_fld K rfl (pv 0))))))) (pss_one (ps_raise rfl (takes_of rfl rfl rfl rfl) c_NoCall.pmk)) pss_nil)
    (pss_cons (ps_set (i := 2) sc_Hall_drop.nd rfl (Or.inl rfl) (pe_methD m_lift h_Hall.cl hr (passes_call (takes_of rfl rfl rfl rfl) (fun _ _ _ _ h => h)) (pv 0) (pa_cons (pv 1) pa_nil)))
    (pss_cons (ps_expr (pe_dpop1 (ke_fld K rfl (pv 0)) (pv 1) ⟨by rfl, by rfl, by rfl, by rfl⟩))
    (pss_one (ps_ret (pv 2)))))), fun B H1 a d u Q hp h1 h2 => by
    have ok : HOk a := hp
    have hn := ok.sh.n
    show Goes ⟨K, B, H1⟩ [.ow (owV u (oxHD (C := C))) a, .im rpD d, .un] _
    have hw : ∀ {G : Cn} {T : List Ty} {b : Bool}, G.K = K → T[1]? = some (.im rpD d) → True := fun _ _ => trivial
    cases hb : within d 0 a.given with
    | false =>
      refine q_when (b := true) (EvT.is (et_or (b := true) (et_not (et_B (ev_call (x := (d, 0, a.given)) (b := false) (ea_cons (ev_var rfl) (ea_cons ev_int (ea_cons (ev_given (ev_varO rfl) hn h_Hall) ea_nil))) trivial (congrArg _ hb)))) fun z => Bool.noConfusion z) rfl) (fun _ => ?_) (fun z => by cases z)
      exact g_raiV (i := 0) (u := u) (w := oxHD (C := C)) rfl (h2 M (by unfold dropE; dsimp only; rw [hb]; rfl))
    | true =>
      obtain ⟨n, rfl, n0, n1⟩ := within_int hb
      refine q_when (b := !(lookI n a.ends).isSome) (EvT.is (et_or (et_not (et_B (ev_call (x := (.int n, 0, a.given)) (b := true) (ea_cons (ev_var rfl) (ea_cons ev_int (ea_cons (ev_given (ev_varO rfl) hn h_Hall) ea_nil))) trivial (congrArg _ hb)))) fun _ => et_B (ev_dninH (EvD.ofD (α := Int) (a := n) (ev_var rfl)) (evh_ends (ev_varO rfl) hn h_Hall))) rfl) (fun hl => ?_) (fun hl => ?_)
      · refine g_raiV (i := 0) (u := u) (w := oxHD (C := C)) rfl (h2 M ?_)
        unfold dropE
        dsimp only
        have hl : (lookI n a.ends).isSome = false := by simpa using hl
        rw [hb, show (lookI (D.int n).toI a.ends).isSome = false from hl]
        rfl
      · have hl : (lookI n a.ends).isSome = true := by simpa using hl
        obtain ⟨t, ht⟩ := Option.isSome_iff_exists.mp hl
        refine q_asgM (ev_methM (j := 0) (x := n) rfl (insHD fn_lift) (ea_cons (EvD.ofD (α := Int) (a := n) (ev_var rfl)) ea_nil) ⟨ok.sh, t, ht⟩ rfl) ?_
        refine g_seq (g_dpopHas (b := t) (has_ends (j := 0) rfl hn h_Hall) (EvD.ofD (α := Int) (a := n) (ev_var rfl)) ht ?_)
        refine g_retV (i := 0) (u := u) (w := oxHD (C := C)) (a := dropT a n t) (y := t.c) ?_ (EvD.is (ev_var rfl) (by dsimp only; rw [end_at ht])) (h1 _ _ ?_)
        · unfold liftN
          rw [end_at ht]
          rfl
        · unfold dropE
          dsimp only
          rw [hb, show (lookI (D.int n).toI a.ends).isSome = true from hl, show (D.int n).toI = n from rfl, end_at ht]
          rfl⟩
/-! ### hsizes -/
def szI (s : Scr) : Int := 1 + cell s 0 % 12
def szO (s : Scr) : Int := 1 + cell s 1 % 12
def szF (s : Scr) : Int := 1 + cell s 2 % 8
theorem sz_b (s : Scr) : (1 ≤ szI s ∧ szI s ≤ 12) ∧ (1 ≤ szO s ∧ szO s ≤ 12) ∧ 1 ≤ szF s ∧ szF s ≤ 8 := by unfold szI szO szF; omega
abbrev SpSizes (K : PySem.W.Frag) : Sp := SpX K (fun s : Scr => [.im rpScr s]) (fun _ => True) (@rpT3 Int Int Int _ _ _) fun s => .ok ⟨szI s, szO s, szF s⟩
theorem ok_sizes (F : DefT K mg "_law_sizes" s_l_sizes ["_law_script"]) (d_l_cell : Def P w K mg base 1 "_law_cell" ["_law_script", "_law_k"] (SpCell K)) : Def P w K mg base 2 "_law_sizes" ["_law_script"] (SpSizes K) :=
  F.to fun f fd F => def_ok F sc_l_sizes (fun _ => rfl) fun cdv A outer s H E hr => ⟨_, (pss_one (ps_ret (pe_tup (pa_cons (pe_op op_add pe_int (pe_op op_mod (pe_callD d_l_cell hr (by rfl) (passes_call (takes_of rfl rfl rfl rfl) (fun _ _ _ _ h => h)) (pa_cons (pv 0) (pa_cons pe_int pa_nil))) pe_int)) (pa_cons (pe_op op_add pe_int (pe_op op_mod (pe_callD d_l_cell hr (by rfl) (passes_call (takes_of rfl rfl rfl rfl) (fun _ _ _ _ h => h)) (pa_cons (pv 0) (pa_cons pe_int pa_nil))) pe_int)) (pa_cons (pe_op op_add pe_int (pe_op op_mod (pe_callD d_l_cell hr (by rfl) (passes_call (takes_of rfl rfl rfl rfl) (fun _ _ _ _ h => h)) (pa_cons (pv 0) (pa_cons pe_int pa_nil))) pe_int)) pa_nil)))))), fun B s Q hp h1 h2 => by
    exact g_ret (ev_trip (ev_opI ev_int (ev_opC (ev_call (x := (s, 0)) (ea_cons (ev_var rfl) (ea_cons ev_int ea_nil)) (show (0 : Int) ≤ 0 by decide) rfl) ev_int (by decide))) (ev_opI ev_int (ev_opC (ev_call (x := (s, 1)) (ea_cons (ev_var rfl) (ea_cons ev_int ea_nil)) (show (0 : Int) ≤ 1 by decide) rfl) ev_int (by decide))) (ev_opI ev_int (ev_opC (ev_call (x := (s, 2)) (ea_cons (ev_var rfl) (ea_cons ev_int ea_nil)) (show (0 : Int) ≤ 2 by decide) rfl) ev_int (by decide)))) (h1 _ rfl)⟩
/-! ### large -/
def slarge (s : Scr) : Bool := decide (mix (cell s 0 + 7 * s.cells.length) 9871 8 = 3)
abbrev SpLarge (K : PySem.W.Frag) : Sp := SpX K (fun s : Scr => [.im rpScr s]) (fun s => s.cells.length ≤ 63) rpBool fun s => .ok (slarge s)
theorem ok_large (F : DefT K mg "_law_large" s_l_large ["_law_script"]) (bl : Blt mg) (d_l_cell : Def P w K mg base 1 "_law_cell" ["_law_script", "_law_k"] (SpCell K)) (d_l_mix : Def P w K mg base 1 "_law_mix" ["_law_cell_here", "_law_prime", "_law_many"] (SpMix K)) : Def P w K mg base 2 "_law_large" ["_law_script"] (SpLarge K) :=
  F.to fun f fd F => def_ok F sc_l_large (fun _ => rfl) fun cdv A outer s H E hr => ⟨_, (pss_one (ps_ret (pe_cmpR op_eq (pe_callD d_l_mix hr (by rfl) (passes_call (takes_of rfl rfl rfl rfl) (fun _ _ _ _ h => h)) (pa_cons (pe_op op_add (pe_callD d_l_cell hr (by rfl) (passes_call (takes_of rfl rfl rfl rfl) (fun _ _ _ _ h => h)) (pa_cons (pv 0) (pa_cons pe_int pa_nil))) (pe_op op_mul pe_int (pe_callB (kr_len K rfl) (by rfl) bl.len PySem.boot_len (pa_cons (pv 0) pa_nil)))) (pa_cons pe_int (pa_cons pe_int pa_nil)))) pe_int (nomark _)))), fun B s Q hp h1 h2 => by
    have hp : s.cells.length ≤ 63 := hp
    show Goes ⟨K, B, H⟩ [.im rpScr s] _
    exact g_ret (ev_eqI (ev_call (x := (cell s 0 + 7 * s.cells.length, 9871, 8)) (ea_cons (ev_opI (ev_call (x := (s, 0)) (ea_cons (ev_var rfl) (ea_cons ev_int ea_nil)) (Int.le_refl 0) rfl) (ev_opC ev_int (ev_len (EvD.cs (ev_var rfl))) (.inr (by constructor <;> omega)))) (ea_cons ev_int (ea_cons ev_int ea_nil))) ⟨show (0 : Int) < 9871 by decide, show (0 : Int) < 8 by decide⟩ rfl) ev_int) (h1 _ rfl)⟩
/-! ### t4 -/
theorem ev_t4a {α β γ δ : Type} {r : Rp α} {r' : Rp β} {r'' : Rp γ} {r3 : Rp δ} {x : T4 α β γ δ} (h : EvD G te T (@rpT4 α β γ δ r r' r'' r3) x) : EvD G (tOp (rIxT G.K) te (tC (.int 0))) T r x.a := fun B H σ f Q q =>
  h B H σ f _ fun v B1 H1 x1 e1 => by
    obtain ⟨p, a, b, c, d, rfl, hp, h1, h2, h3, h4⟩ := e1
    exact ⟨p, _, 0, a, rfl, rfl, .inl (.inl (x1.s _ _ hp)), rfl, q _ B1 H1 x1 h1⟩
theorem ev_t4b {α β γ δ : Type} {r : Rp α} {r' : Rp β} {r'' : Rp γ} {r3 : Rp δ} {x : T4 α β γ δ} (h : EvD G te T (@rpT4 α β γ δ r r' r'' r3) x) : EvD G (tOp (rIxT G.K) te (tC (.int 1))) T r' x.b := fun B H σ f Q q =>
  h B H σ f _ fun v B1 H1 x1 e1 => by
    obtain ⟨p, a, b, c, d, rfl, hp, h1, h2, h3, h4⟩ := e1
    exact ⟨p, _, 1, b, rfl, rfl, .inl (.inl (x1.s _ _ hp)), rfl, q _ B1 H1 x1 h2⟩
theorem ev_t4c {α β γ δ : Type} {r : Rp α} {r' : Rp β} {r'' : Rp γ} {r3 : Rp δ} {x : T4 α β γ δ} (h : EvD G te T (@rpT4 α β γ δ r r' r'' r3) x) : EvD G (tOp (rIxT G.K) te (tC (.int 2))) T r'' x.c := fun B H σ f Q q =>
  h B H σ f _ fun v B1 H1 x1 e1 => by
    obtain ⟨p, a, b, c, d, rfl, hp, h1, h2, h3, h4⟩ := e1
    exact ⟨p, _, 2, c, rfl, rfl, .inl (.inl (x1.s _ _ hp)), rfl, q _ B1 H1 x1 h3⟩
theorem ev_t4d {α β γ δ : Type} {r : Rp α} {r' : Rp β} {r'' : Rp γ} {r3 : Rp δ} {x : T4 α β γ δ} (h : EvD G te T (@rpT4 α β γ δ r r' r'' r3) x) : EvD G (tOp (rIxT G.K) te (tC (.int 3))) T r3 x.d := fun B H σ f Q q =>
  h B H σ f _ fun v B1 H1 x1 e1 => by
    obtain ⟨p, a, b, c, d, rfl, hp, h1, h2, h3, h4⟩ := e1
    exact ⟨p, _, 3, d, rfl, rfl, .inl (.inl (x1.s _ _ hp)), rfl, q _ B1 H1 x1 h4⟩
/-! ### hallcom -/
def smS (s : Scr) : T3 Int Int Int := if 0 < cell s 0 / 12 % 3 then ⟨1 + cell s 0 % 4, 1 + cell s 1 % 4, 1 + cell s 2 % 4⟩ else ⟨szI s, szO s, szF s⟩
theorem smS_b (s : Scr) : (1 ≤ (smS s).a ∧ (smS s).a ≤ 12) ∧ (1 ≤ (smS s).b ∧ (smS s).b ≤ 12) ∧ 1 ≤ (smS s).c ∧ (smS s).c ≤ 8 := by
  unfold smS
  split
  · dsimp only; omega
  · exact sz_b s
abbrev rpSz : Rp (T3 Int Int Int) := @rpT3 Int Int Int rpInt rpInt rpInt
abbrev SpSmall (K : PySem.W.Frag) : Sp := SpX K (fun s : Scr => [.im rpScr s]) (fun _ => True) rpSz fun s => .ok (smS s)
theorem ok_small (F : DefT K mg "_law_small" s_l_small ["_law_script"]) (d_l_cell : Def P w K mg base 1 "_law_cell" ["_law_script", "_law_k"] (SpCell K)) (d_l_sizes : Def P w K mg base 2 "_law_sizes" ["_law_script"] (SpSizes K)) : Def P w K mg base 3 "_law_small" ["_law_script"] (SpSmall K) :=
  F.to fun f fd F => def_ok F sc_l_small (fun _ => rfl) fun cdv A outer s H E hr => ⟨_, (pss_cons (ps_if (pt_cmpR op_gt (pe_op op_mod (pe_op op_fdiv (pe_callD d_l_cell hr (by rfl) (passes_call (takes_of rfl rfl rfl rfl) (fun _ _ _ _ h => h)) (pa_cons (pv 0) (pa_cons pe_int pa_nil))) pe_int) pe_int) pe_int (nomark _)) (pss_one (ps_ret (pe_tup (pa_cons (pe_op op_add pe_int (pe_op op_mod (pe_callD d_l_cell hr (by rfl) (passes_call (takes_of rfl rfl rfl rfl) (fun _ _ _ _ h => h)) (pa_cons (pv 0) (pa_cons pe_int pa_nil))) pe_int)) (pa_cons (pe_op op_add pe_int (pe_op op_mod (pe_callD d_l_cell hr (by rfl) (passes_call (takes_of rfl rfl rfl rfl) (fun _ _ _ _ h => h)) (pa_cons (pv 0) (pa_cons pe_int pa_nil))) pe_int)) (pa_cons (pe_op op_add pe_int (pe_op op_mod (pe_callD d_l_cell hr (by rfl) (passes_call (takes_of rfl rfl rfl rfl) (fun _ _ _ _ h => h)) (pa_cons (pv 0) (pa_cons pe_int pa_nil))) pe_int)) pa_nil)))))) pss_nil)
    (pss_one (ps_ret (pe_callD d_l_sizes hr (by rfl) (passes_call (takes_of rfl rfl rfl rfl) (fun _ _ _ _ h => h)) (pa_cons (pv 0) pa_nil))))), fun B s Q hp h1 h2 => by
    show Goes ⟨K, B, H⟩ [.im rpScr s] _
    have e0 : ∀ k : Int, 0 ≤ k → ∀ {G : Cn} {T : List Ty}, T[0]? = some (.im rpScr s) → EvA G (tCons (tVar 0) (tCons (tC (.int k)) tNil)) T [.im rpScr s, .im rpInt k] := fun k _ {G T} h => ea_cons (ev_var h) (ea_cons ev_int ea_nil)
    refine q_when (et_test (ev_opB (ev_opC (ev_opC (ev_call (x := (s, 0)) (e0 0 (by decide) rfl) (show (0 : Int) ≤ 0 by decide) rfl) ev_int ⟨by decide, by decide⟩) ev_int (by decide)) ev_int)) (fun hb => ?_) (fun hb => ?_)
    · have hb : 0 < cell s 0 / 12 % 3 := of_decide_eq_true hb
      refine g_ret (EvD.is (ev_trip (ev_opI ev_int (ev_opC (ev_call (x := (s, 0)) (e0 0 (by decide) rfl) (show (0 : Int) ≤ 0 by decide) rfl) ev_int (by decide))) (ev_opI ev_int (ev_opC (ev_call (x := (s, 1)) (e0 1 (by decide) rfl) (show (0 : Int) ≤ 1 by decide) rfl) ev_int (by decide))) (ev_opI ev_int (ev_opC (ev_call (x := (s, 2)) (e0 2 (by decide) rfl) (show (0 : Int) ≤ 2 by decide) rfl) ev_int (by decide)))) ?_) (h1 _ rfl)
      unfold smS
      rw [if_pos hb]
    · have hb : ¬ 0 < cell s 0 / 12 % 3 := of_decide_eq_false hb
      refine g_ret (EvD.is (ev_call (x := s) (ea_cons (ev_var rfl) ea_nil) trivial rfl) ?_) (h1 _ rfl)
      unfold smS
      rw [if_neg hb]⟩
def goesM (s : Scr) : Int := if s.cells.length > 63 then 60 else if slarge s = true then 57 else 30
def goesL (s : Scr) : List Int := (s.cells.drop 3).take (goesM s).toNat
theorem goes_len (s : Scr) : (goesL s).length ≤ 60 := by
  unfold goesL
  rw [List.length_take]
  have : (goesM s).toNat ≤ 60 := by unfold goesM; split <;> (try split) <;> decide
  omega
abbrev SpGoes (K : PySem.W.Frag) : Sp := SpN K (fun s : Scr => [.im rpScr s]) (fun s => s.cells.length ≤ 63) rpInt fun s => .ok (goesL s)
theorem ok_goes (F : DefT K mg "_law_goes" s_l_goes ["_law_script"]) (bl : Blt mg) (d_l_large : Def P w K mg base 2 "_law_large" ["_law_script"] (SpLarge K)) : Def P w K mg base 3 "_law_goes" ["_law_script"] (SpGoes K) :=
  F.to fun f fd F => def_okN F sc_l_goes (fun _ => rfl) fun cdv A outer s H E hr => ⟨_, (pss_cons (ps_set (i := 1) sc_l_goes.nd rfl (Or.inl rfl) pe_int)
    (pss_cons (ps_if (pt_val (pe_callD d_l_large hr (by rfl) (passes_call (takes_of rfl rfl rfl rfl) (fun _ _ _ _ h => h)) (pa_cons (pv 0) pa_nil))) (pss_one (ps_set (i := 1) sc_l_goes.nd rfl (Or.inl rfl) pe_int)) pss_nil)
    (pss_cons (ps_if (pt_cmpR op_gt (pe_callB (kr_len K rfl) (by rfl) bl.len PySem.boot_len (pa_cons (pv 0) pa_nil)) pe_int (nomark _)) (pss_one (ps_set (i := 1) sc_l_goes.nd rfl (Or.inl rfl) pe_int)) pss_nil)
    (pss_one (ps_ret (pe_slice (ks_list K rfl) (pv 0) (po_some pe_int) (po_some (pe_op op_add pe_int (pv 1))))))))), fun B s Q hp h1 h2 => by
    have hp : s.cells.length ≤ 63 := hp
    show Goes ⟨K, B, H⟩ [.im rpScr s, .un] _
    have hm : goesM s = if slarge s = true then 57 else 30 := by unfold goesM; rw [if_neg (by omega)]
    have hm0 : 0 ≤ goesM s := by rw [hm]; split <;> decide
    refine q_asg (a := 30) ev_int ?_
    refine q_whenJ (T' := [.im rpScr s, .im rpInt (goesM s)]) (et_B (ev_call (x := s) (ea_cons (ev_var rfl) ea_nil) hp rfl)) (fun hb next => ?_) (fun hb next => ?_) ?_
    · rw [hm, if_pos hb] at next
      exact g_asg ev_int next
    · rw [hm, if_neg (by rw [hb]; decide)] at next
      exact next
    · refine q_when (et_test (ev_opB (ev_len (EvD.cs (ev_var rfl))) ev_int)) (fun hb => ?_) (fun _ => ?_)
      · have := of_decide_eq_true hb
        omega
      · refine g_retN (ev_mid (EvD.cs (ev_var rfl)) ev_int (ev_opI ev_int (ev_var rfl)) (by decide) (by omega)) (h1 _ ?_)
        show Except.ok _ = Except.ok _
        unfold goesL
        rw [show (3 + goesM s).toNat - (3 : Int).toNat = (goesM s).toNat by omega]
        rfl⟩
structure DeedA where
  c : Int
  z : T3 Int Int Int
  ks : List Int
def isDrop (x : DeedA) : Bool := !x.ks.isEmpty && decide (mix x.c 9973 4 = 0)
def dropN (x : DeedA) : Int := x.ks.getD (mix x.c 9967 x.ks.length).toNat 0
def deedL (x : DeedA) : TL D := ⟨if isDrop x = true then [.str (Str.ofString "drop"), .int (dropN x)] else [.str (Str.ofString "put"), .int (mix x.c 10007 x.z.a), .int (mix x.c 9949 x.z.b)]⟩
theorem mix_b (c p m : Int) (h : 0 < m) : 0 ≤ mix c p m ∧ mix c p m < m := ⟨Int.emod_nonneg _ (by omega), Int.emod_lt_of_pos _ h⟩
theorem drop_mem {x : DeedA} (h : isDrop x = true) : dropN x ∈ x.ks := by
  unfold isDrop at h
  rw [Bool.and_eq_true] at h
  have hl : 0 < x.ks.length := by
    cases e : x.ks with
    | nil => rw [e] at h; cases h.1
    | cons a b => exact Nat.succ_pos _
  have := mix_b x.c 9967 x.ks.length (by omega)
  unfold dropN
  rw [List.getD_eq_getElem?_getD, List.getElem?_eq_getElem (by omega)]
  exact List.getElem_mem _
abbrev SpDeed (K : PySem.W.Frag) : Sp := SpX K (fun x : DeedA => [.im rpInt x.c, .im rpSz x.z, .im (@rpList Int rpInt) x.ks]) (fun x => 0 < x.z.a ∧ 0 < x.z.b) (@rpTL D rpD) fun x => .ok (deedL x)
theorem ok_deed (F : DefT K mg "_law_deed" s_l_deed ["_law_cell_here", "_law_sizes_here", "_law_known"]) (bl : Blt mg) (d_l_mix : Def P w K mg base 1 "_law_mix" ["_law_cell_here", "_law_prime", "_law_many"] (SpMix K)) : Def P w K mg base 2 "_law_deed" ["_law_cell_here", "_law_sizes_here", "_law_known"] (SpDeed K) :=
  F.to fun f fd F => def_ok F sc_l_deed (fun _ => rfl) fun cdv A outer s H E hr => ⟨_, (pss_cons (ps_if (PW.pt (pw_and (kt_truth K rfl (pv 2) (by intro _; rfl)) (pw_and1 (pt_cmpR op_eq (pe_callD d_l_mix hr (by rfl) (passes_call (takes_of rfl rfl rfl rfl) (fun _ _ _ _ h => h)) (pa_cons (pv 0) (pa_cons pe_int (pa_cons pe_int pa_nil)))) pe_int (nomark _))))) (pss_one (ps_ret (pe_tup (pa_cons pe_str (pa_cons (pe_ix (kx_list K rfl) (pv 2) (pe_callD d_l_mix hr (by rfl) (passes_call (takes_of rfl rfl rfl rfl) (fun _ _ _ _ h => h)) (pa_cons (pv 0) (pa_cons pe_int (pa_cons (pe_callB (kr_len K rfl) (by rfl) bl.len PySem.boot_len (pa_cons (pv 2) pa_nil)) pa_nil)))) (fun _ _ => rfl)) pa_nil))))) pss_nil)
    (pss_one (ps_ret (pe_tup (pa_cons pe_str (pa_cons (pe_callD d_l_mix hr (by rfl) (passes_call (takes_of rfl rfl rfl rfl) (fun _ _ _ _ h => h)) (pa_cons (pv 0) (pa_cons pe_int (pa_cons (pe_ix (kx_tup K rfl) (pv 1) pe_int (fun _ _ => rfl)) pa_nil)))) (pa_cons (pe_callD d_l_mix hr (by rfl) (passes_call (takes_of rfl rfl rfl rfl) (fun _ _ _ _ h => h)) (pa_cons (pv 0) (pa_cons pe_int (pa_cons (pe_ix (kx_tup K rfl) (pv 1) pe_int (fun _ _ => rfl)) pa_nil)))) pa_nil))))))), fun B x Q hp h1 h2 => by
    obtain ⟨c, z, ks⟩ := x
    obtain ⟨z1, z2⟩ : 0 < z.a ∧ 0 < z.b := hp
    show Goes ⟨K, B, H⟩ [.im rpInt c, .im rpSz z, .im (@rpList Int rpInt) ks] _
    refine q_when (b := isDrop ⟨c, z, ks⟩) (et_and (et_truL (EvD.c (ev_var rfl))) fun _ => et_test (ev_eqI (ev_call (x := (c, 9973, 4)) (ea_cons (ev_var rfl) (ea_cons ev_int (ea_cons ev_int ea_nil))) ⟨show (0 : Int) < 9973 by decide, show (0 : Int) < 4 by decide⟩ rfl) ev_int)) (fun hb => ?_) (fun hb => ?_)
    · have hl : 0 < (ks.length : Int) := by
        have := List.length_pos_of_mem (drop_mem hb)
        have : 0 < ks.length := this
        omega
      have hm := mix_b c 9967 ks.length hl
      refine g_ret (EvD.is (ev_tupL (r := rpD) (xs := [.str (Str.ofString "drop"), .int (dropN ⟨c, z, ks⟩)]) (el_cons (EvD.toD (α := Str) (a := Str.ofString "drop") ev_str) (el_cons (EvD.toD (α := Int) (a := dropN ⟨c, z, ks⟩) (ev_ix (EvD.c (ev_var rfl)) (ev_call (x := (c, 9967, (ks.length : Int))) (ea_cons (ev_var rfl) (ea_cons ev_int (ea_cons (ev_len (EvD.c (ev_var rfl))) ea_nil))) ⟨show (0 : Int) < 9967 by decide, hl⟩ rfl) (atI_getD hm.1 hm.2))) el_nil)) (show (2 : Nat) ≤ 100000 by decide)) ?_) (h1 _ rfl)
      unfold deedL
      rw [if_pos hb]
    · refine g_ret (EvD.is (ev_tupL (r := rpD) (xs := [.str (Str.ofString "put"), .int (mix c 10007 z.a), .int (mix c 9949 z.b)]) (el_cons (EvD.toD (α := Str) (a := Str.ofString "put") ev_str) (el_cons (EvD.toD (α := Int) (a := mix c 10007 z.a) (ev_call (x := (c, 10007, z.a)) (ea_cons (ev_var rfl) (ea_cons ev_int (ea_cons (ev_t3a (ev_var rfl)) ea_nil))) ⟨show (0 : Int) < 10007 by decide, z1⟩ rfl)) (el_cons (EvD.toD (α := Int) (a := mix c 9949 z.b) (ev_call (x := (c, 9949, z.b)) (ea_cons (ev_var rfl) (ea_cons ev_int (ea_cons (ev_t3b (ev_var rfl)) ea_nil))) ⟨show (0 : Int) < 9949 by decide, z2⟩ rfl)) el_nil))) (show (3 : Nat) ≤ 100000 by decide)) ?_) (h1 _ rfl)
      unfold deedL
      rw [if_neg (by rw [hb]; decide)]⟩
noncomputable def lputF {C : Addr} (x : HD C × (Int × Int)) : Except Addr (Option (T3 Int Int (List Int)) × HD C) := match putOf x.1 x.2.1 x.2.2 with
  | none => .ok (none, x.1)
  | some q => .ok (some ⟨x.1.given, q.fm, isort q.ns⟩, addT q.y ⟨x.2.1, x.2.2, q.fm⟩)
structure LputOk {C : Addr} (x : HD C × (Int × Int)) : Prop where
  ok : HOk x.1
  le : x.1.ends.length ≤ 900
  i0 : 0 ≤ x.2.1
  i1 : x.2.1 < (x.1.ain.length : Int)
  o0 : 0 ≤ x.2.2
  o1 : x.2.2 < (x.1.aout.length : Int)
theorem endOk_in {rows : Rows} {i : Int} (h0 : 0 ≤ i) (h1 : i < (rows.length : Int)) : endOk rows (.int i) = true := by
  show (decide (0 ≤ i) && decide (i ≤ (rows.length : Int) - 1)) = true
  rw [decide_eq_true h0, decide_eq_true (by omega)]
  rfl
abbrev SpLput (K : PySem.W.Frag) (C : Addr) : Sp := SpM K (oxHD (C := C)) (fun x : Int × Int => [.im rpInt x.1, .im rpInt x.2]) LputOk (@rpOpt (T3 Int Int (List Int)) rpPut) lputF
theorem ok_lput {C N Y : Addr} (F : DefT K mg "_law_put" s_l_put ["_law_hall", "_law_inlet", "_law_outlet"]) (h_Hall : HCls K C) (c_NoEnd : ECls K mg "NoEnd" N) (c_Busy : ECls K mg "Busy" Y) (m_put : MDef P w K mg base C 3 "put" ["self", "inlet", "outlet"] (SpPut K C N Y)) : Def P w K mg base 4 "_law_put" ["_law_hall", "_law_inlet", "_law_outlet"] (SpLput K C) :=
  F.to fun f fd F => def_okM F sc_l_put (fun _ => rfl) fun cdv A outer s H E hr => ⟨_, (pss_one (ps_try_only rfl rfl ⟨rfl, by decide, .inl c_Busy.mg⟩ takes0 (fun W pn xe tk po => (pss_one (ps_ret (pe_methDT m_put h_Hall.cl hr (fun σ => passAt tk σ) (pv 0) (pa_cons (pv 1) (pa_cons (pv 2) pa_nil)))))) (fun a oe cls d pn hz hf => (pss_one (ps_ret pe_non))))), fun B H1 a x u Q hp h1 h2 => by
    obtain ⟨i, o⟩ := x
    obtain ⟨ok, hz, i0, i1, o0, o1⟩ := hp
    show Goes ⟨K, B, H1⟩ [.ow (owV u (oxHD (C := C))) a, .im rpInt i, .im rpInt o] _
    have hE : putE N Y (a, (D.int i, D.int o)) = match putOf a i o with
        | none => .error Y
        | some q => .ok (⟨a.given, q.fm, isort q.ns⟩, addT q.y ⟨i, o, q.fm⟩) := by
      unfold putE
      rw [show (endOk (a, (D.int i, D.int o)).1.ain (a, (D.int i, D.int o)).2.1 && endOk (a, (D.int i, D.int o)).1.aout (a, (D.int i, D.int o)).2.2) = true by show (endOk a.ain (.int i) && endOk a.aout (.int o)) = true; rw [endOk_in i0 i1, endOk_in o0 o1]; rfl, if_pos rfl]
      rfl
    cases hq : putOf a i o with
    | none =>
      rw [hq] at hE
      refine gt_ret (ex_methMT (j := 0) (x := (D.int i, D.int o)) rfl (insHD fn_put) (ea_cons (EvD.toD (α := Int) (a := i) (ev_var rfl)) (ea_cons (EvD.toD (α := Int) (a := o) (ev_var rfl)) ea_nil)) ⟨ok, hz⟩ hE) (g_only c_Busy.exms fun e => ?_)
      refine g_retV (i := 0) (u := u) (w := oxHD (C := C)) (a := a) rfl (y := (none : Option (T3 Int Int (List Int)))) ev_non (h1 _ _ ?_)
      unfold lputF
      dsimp only
      rw [hq]
    | some q =>
      rw [hq] at hE
      refine g_retMV (i := 0) (u := u) (w := oxHD (C := C)) (a := addT q.y ⟨i, o, q.fm⟩) (r := @rpOpt (T3 Int Int (List Int)) rpPut) (y := some ⟨a.given, q.fm, isort q.ns⟩) (ev_methMT (j := 0) (x := (D.int i, D.int o)) rfl (insHD fn_put) (ea_cons (EvD.toD (α := Int) (a := i) (ev_var rfl)) (ea_cons (EvD.toD (α := Int) (a := o) (ev_var rfl)) ea_nil)) ⟨ok, hz⟩ hE) rfl (h1 _ _ ?_)
      unfold lputF
      dsimp only
      rw [hq]⟩
/-! ### newhall -/
theorem none_cell {n m e f : Int} : cellAt (noneRows n m) e f = none := by
  unfold cellAt noneRows
  rw [List.getD_eq_getElem?_getD (l := List.map _ _), List.getElem?_map]
  cases (rng 0 n.toNat)[e.toNat]? with
  | none => rfl
  | some k =>
    show (List.map (fun _ => (none : Option Int)) (rng 0 m.toNat)).getD f.toNat none = none
    rw [List.getD_eq_getElem?_getD, List.getElem?_map]
    cases (rng 0 m.toNat)[f.toNat]? <;> rfl
theorem none_len {n m : Int} : (noneRows n m).length = n.toNat := by unfold noneRows; rw [List.length_map, rng_len]
theorem rows_new {C : Addr} {i o f : Int} : ∀ s, rowsOf (newHall C i o f) s = noneRows (if s = true then o else i) f
  | true => rfl
  | false => rfl
theorem new_ok {C : Addr} {i o f : Int} (hi : 1 ≤ i ∧ i ≤ 12) (ho : 1 ≤ o ∧ o ≤ 12) (hf : 1 ≤ f ∧ f ≤ 8) : HOk (newHall C i o f) := by
  refine ⟨⟨rfl, hf.1, hf.2, fun s => ?_, fun s row hr => ?_, fun n t e => (by cases e)⟩, fun s e f n hr => ⟨fun z => ?_, fun ⟨t, z, _⟩ => (by cases z)⟩, List.Pairwise.nil, fun n t e => (by cases e), Int.le_refl 0⟩
  · rw [rows_new, none_len]
    split <;> omega
  · rw [rows_new] at hr
    unfold noneRows at hr
    obtain ⟨_, _, rfl⟩ := List.mem_map.mp hr
    rw [List.length_map, rng_len]
    rfl
  · unfold cell2 at z
    rw [rows_new, none_cell] at z
    cases z
theorem add_look {C : Addr} {x : HD C} {t : Tri} {n : Int} : lookI n (addT x t).ends = if n = x.given then some t else lookI n x.ends := look_put
theorem drop_look {C : Addr} {x : HD C} {t : Tri} {m n : Int} : lookI n (dropT x m t).ends = if n = m then none else lookI n x.ends := look_drop
theorem add_ks {C : Addr} {x : HD C} {t : Tri} (h : HOk x) : ((addT x t).ends.map fun p => p.1) = (x.ends.map fun p => p.1) ++ [x.given] := by
  show (putI x.given t x.ends).map _ = _
  rw [put_keys, if_neg fun z => ?_]
  obtain ⟨b, hb⟩ := look_mem z
  have := (h.kg _ _ hb).2
  omega
theorem ks_len {β γ : Type} {a : List (Int × β)} {b : List (Int × γ)} {c : List Int} (h : (a.map fun p => p.1) = (b.map fun p => p.1) ++ c) : a.length = b.length + c.length := by
  have := congrArg List.length h
  rw [List.length_map, List.length_append, List.length_map] at this
  exact this
theorem rows_add2 {C : Addr} {x : HD C} {t : Tri} {s : Bool} : (rowsOf (addT x t) s).length = (rowsOf x s).length := by rw [rows_add, rows_lay, set2_len]
theorem rows_drop2 {C : Addr} {x : HD C} {n : Int} {t : Tri} {s : Bool} : (rowsOf (dropT x n t) s).length = (rowsOf x s).length := by rw [rows_drop, rows_lift, set2_len]
theorem drop_len {β : Type} {n : Int} {kv : List (Int × β)} : (dropI n kv).length ≤ kv.length := List.length_filter_le _ _
theorem keys_sorted {C : Addr} {x : HD C} (h : HOk x) : isort (x.ends.map fun p => p.1) = x.ends.map fun p => p.1 := (isort_is (List.Perm.refl _) (h.ks.imp fun h => Int.le_of_lt h)).symm
theorem no_key {β : Type} {n : Int} {kv : List (Int × β)} (h : lookI n kv = none) : n ∉ kv.map fun p => p.1 := fun z => by
  obtain ⟨b, hb⟩ := look_mem z
  rw [h] at hb
  cases hb
theorem no_look {β : Type} {n : Int} {kv : List (Int × β)} (h : n ∉ kv.map fun p => p.1) : lookI n kv = none := by
  cases e : lookI n kv with
  | none => rfl
  | some b => exact absurd (look_key e) h
theorem rowsOk_of {C : Addr} {x : HD C} (h : HOk x) (s : Bool) : RowsOk (rowsOf x s) := fun row hr => by
  have := h.sh.r s row hr
  have := h.sh.f8
  omega
/-- the calls told, plainly -/
theorem callsL_is {C : Addr} {x : HD C} (h : HOk x) : callsL x.ends = x.ends.map fun p => (⟨p.1, p.2.a, p.2.b, p.2.c⟩ : Call4) := by
  unfold callsL
  rw [keys_sorted h, List.map_map]
  have aux : ∀ kv : List (Int × Tri), (kv.map fun p => p.1).Pairwise (· < ·) → ∀ p ∈ kv, lookI p.1 kv = some p.2 := by
    intro kv
    induction kv with
    | nil => intro _ p hp; cases hp
    | cons q r ih =>
      intro hs p hp
      rw [List.map_cons, List.pairwise_cons] at hs
      obtain ⟨k, c⟩ := q
      rcases List.mem_cons.mp hp with rfl | hp
      · exact if_pos rfl
      · have := hs.1 p.1 (List.mem_map.mpr ⟨p, hp, rfl⟩)
        show (if k = p.1 then _ else _) = _
        rw [if_neg (by dsimp only at this; omega)]
        exact ih hs.2 p hp
  refine List.map_congr_left fun p hp => ?_
  show callOf x.ends p.1 = _
  unfold callOf
  rw [end_at (aux _ h.ks p hp)]
theorem calls_a {ends : List (Int × Tri)} : ((callsL ends).map fun q => q.a) = isort (ends.map fun p => p.1) := by
  unfold callsL
  rw [List.map_map]
  exact List.map_id' _
/-! ### told3 -/
/-! the calls told, by their ends -/
def atS (c : Call4) (side : Int) : Int := if side = 1 then c.b else c.c
def sideN (s : Bool) : Int := if s = true then 2 else 1
theorem told_mem {C : Addr} {x : HD C} (h : HOk x) {z : Call4} : z ∈ callsL x.ends ↔ ∃ t, lookI z.a x.ends = some t ∧ z = ⟨z.a, t.a, t.b, t.c⟩ := by
  have hk := keys_sorted h
  unfold callsL
  rw [hk]
  constructor
  · intro hz
    obtain ⟨n, hn, rfl⟩ := List.mem_map.mp hz
    obtain ⟨t, ht⟩ := look_mem hn
    refine ⟨t, ht, ?_⟩
    unfold callOf
    rw [end_at ht]
  · rintro ⟨t, ht, e⟩
    refine List.mem_map.mpr ⟨z.a, look_key ht, ?_⟩
    unfold callOf
    rw [end_at ht]
    exact e.symm
theorem told_nodup {C : Addr} {x : HD C} (h : HOk x) : (callsL x.ends).Nodup := by
  have h1 : ((callsL x.ends).map fun q => q.a).Nodup := by
    rw [calls_a, keys_sorted h]
    exact h.ks.imp fun h e => by omega
  exact List.Pairwise.of_map _ (fun a b hab e => hab (by rw [e])) h1
/-- the calls of an end -/
def endC {C : Addr} (x : HD C) (s : Bool) (e : Int) : List Call4 := (callsL x.ends).filter fun c => decide (atS c (sideN s) = e)
theorem endC_mem {C : Addr} {x : HD C} (h : HOk x) {s : Bool} {e : Int} {z : Call4} : z ∈ endC x s e ↔ ∃ t, lookI z.a x.ends = some t ∧ z = ⟨z.a, t.a, t.b, t.c⟩ ∧ endOf t s = e := by
  unfold endC
  rw [List.mem_filter, told_mem h, decide_eq_true_eq]
  constructor
  · rintro ⟨⟨t, ht, ez⟩, he⟩
    refine ⟨t, ht, ez, ?_⟩
    rw [← he, ez]
    cases s <;> rfl
  · rintro ⟨t, ht, ez, he⟩
    refine ⟨⟨t, ht, ez⟩, ?_⟩
    rw [← he, ez]
    cases s <;> rfl
theorem len_split {α : Type} (p : α → Bool) : ∀ l : List α, (l.filter p).length + (l.filter fun x => !p x).length = l.length
  | [] => rfl
  | a :: l => by
    have ih := len_split p l
    rw [List.filter_cons, List.filter_cons]
    cases p a
    · rw [if_neg (by decide), if_pos (by decide), List.length_cons, List.length_cons]
      omega
    · rw [if_pos (by decide), if_neg (by decide), List.length_cons, List.length_cons]
      omega
/-- each frame of an end is free or carries one call -/
theorem end_count {C : Addr} {x : HD C} (h : HOk x) {s : Bool} {e : Int} (h0 : 0 ≤ e) (h1 : e < ((rowsOf x s).length : Int)) : (endC x s e).length + (freeL x.fr (rowAt (rowsOf x s) e)).length = x.fr.toNat := by
  have f1 := h.sh.f0
  have inr : ∀ f, 0 ≤ f → f < x.fr → InR x s e f := fun f a b => ⟨h0, h1, a, b⟩
  have hfr : ∀ z ∈ endC x s e, 0 ≤ z.d ∧ z.d < x.fr ∧ cell2 x s e z.d = some z.a := fun z hz => by
    obtain ⟨t, ht, ez, he⟩ := (endC_mem h).mp hz
    have hd : z.d = t.c := by rw [ez]
    have r := h.sh.en _ t ht s
    rw [hd, ← he]
    exact ⟨r.f0, r.f1, h.at_ ht s⟩
  have hnd : ((endC x s e).map fun c => c.d).Nodup := by
    unfold List.Nodup
    rw [List.pairwise_map]
    refine List.Pairwise.imp_of_mem (fun {a b} ha hb hab z => hab ?_) ((told_nodup h).filter _)
    have e1 := (hfr a ha).2.2
    have e2 := (hfr b hb).2.2
    rw [z, e2] at e1
    have e3 : b.a = a.a := Option.some.inj e1
    obtain ⟨t, ht, ez, _⟩ := (endC_mem h).mp ha
    obtain ⟨u, hu, eu, _⟩ := (endC_mem h).mp hb
    rw [e3, ht] at hu
    cases hu
    rw [ez, eu, e3]
  have hsp := len_split (fun f => (cellAt (rowsOf x s) e f).isSome) (rng 0 x.fr.toNat)
  rw [rng_len] at hsp
  have hfree : (freeL x.fr (rowAt (rowsOf x s) e)) = (rng 0 x.fr.toNat).filter fun f => !(cellAt (rowsOf x s) e f).isSome := by
    unfold freeL
    refine List.filter_congr fun f _ => ?_
    show (cellAt (rowsOf x s) e f).isNone = _
    cases cellAt (rowsOf x s) e f <;> rfl
  have rnd : (rng 0 x.fr.toNat).Nodup := by
    unfold List.Nodup
    rw [List.pairwise_iff_getElem]
    intro i j hi hj hij z
    have a := rng_get (List.getElem?_eq_getElem hi)
    have b := rng_get (List.getElem?_eq_getElem hj)
    rw [a.2, b.2] at z
    omega
  have hl : (endC x s e).length = ((rng 0 x.fr.toNat).filter fun f => (cellAt (rowsOf x s) e f).isSome).length := by
    rw [← List.length_map (f := fun c : Call4 => c.d)]
    refine Nat.le_antisymm (sub_len2 _ _ hnd fun f hf => ?_) (sub_len2 _ _ (rnd.filter _) fun f hf => ?_)
    · obtain ⟨z, hz, rfl⟩ := List.mem_map.mp hf
      obtain ⟨a, b, c⟩ := hfr z hz
      have c : cellAt (rowsOf x s) e z.d = some z.a := c
      exact List.mem_filter.mpr ⟨rng_mem.mpr (by omega), by rw [c]; rfl⟩
    · obtain ⟨a, b⟩ := List.mem_filter.mp hf
      have a := rng_mem.mp a
      obtain ⟨n, hn⟩ := Option.isSome_iff_exists.mp b
      obtain ⟨t, ht, e1, e2⟩ := (h.cl s e f n (inr f a.1 (by omega))).mp hn
      exact List.mem_map.mpr ⟨⟨n, t.a, t.b, t.c⟩, (endC_mem h).mpr ⟨t, ht, rfl, e1⟩, e2⟩
  rw [hl, hfree]
  exact hsp
/-- a call finds no place: an end of it has all frames in use -/
theorem put_none {C : Addr} {x : HD C} (h : HOk x) {i o : Int} (i0 : 0 ≤ i) (i1 : i < (x.ain.length : Int)) (o0 : 0 ≤ o) (o1 : o < (x.aout.length : Int)) : (putOf x i o).isNone = (decide (x.fr = ((endC x false i).length : Int)) || decide (x.fr = ((endC x true o).length : Int))) := by
  have a : (endC x false i).length + (freeL x.fr (rowAt x.ain i)).length = x.fr.toNat := end_count h (s := false) i0 i1
  have b : (endC x true o).length + (freeL x.fr (rowAt x.aout o)).length = x.fr.toNat := end_count h (s := true) o0 o1
  have f1 := h.sh.f0
  have hz : ∀ {l : List Int} {k : Nat}, k + l.length = x.fr.toNat → (x.fr = (k : Int) ↔ l = []) := fun {l k} hk => by
    constructor
    · intro e
      exact List.eq_nil_of_length_eq_zero (by omega)
    · rintro rfl
      simp at hk
      omega
  unfold putOf
  dsimp only
  by_cases c : freeL x.fr (rowAt x.ain i) = [] ∨ freeL x.fr (rowAt x.aout o) = []
  · rw [if_pos c]
    rcases c with c | c
    · rw [decide_eq_true ((hz a).mpr c)]; rfl
    · rw [decide_eq_true ((hz b).mpr c), Bool.or_true]; rfl
  · rw [if_neg c, decide_eq_false fun z => c (.inl ((hz a).mp z)), decide_eq_false fun z => c (.inr ((hz b).mp z))]
    cases (freeL x.fr (rowAt x.ain i)).filter fun f => decide (f ∈ freeL x.fr (rowAt x.aout o)) <;> rfl
/-! ### loads2 -/
abbrev rpC4 : Rp Call4 := @rpT4 Int Int Int Int rpInt rpInt rpInt rpInt
structure LdA where
  book : List (T3 Int Int Int)
  i : Int
  o : Int
def cntB (l : List (T3 Int Int Int)) (i : Int) : Int := ((l.filter fun c => decide (c.b = i)).length : Int)
def cntC (l : List (T3 Int Int Int)) (o : Int) : Int := ((l.filter fun c => decide (c.c = o)).length : Int)
abbrev SpLoads (K : PySem.W.Frag) : Sp := SpX K (fun x : LdA => [.im (@rpList (T3 Int Int Int) rpSz) x.book, .im rpInt x.i, .im rpInt x.o]) (fun x => x.book.length ≤ 1000) (@rpPair Int Int rpInt rpInt) fun x => .ok (cntB x.book x.i, cntC x.book x.o)
theorem ok_loads (F : DefT K mg "_law_loads" s_l_loads ["_law_book", "_law_inlet", "_law_outlet"]) (bl : Blt mg) : Def P w K mg base 1 "_law_loads" ["_law_book", "_law_inlet", "_law_outlet"] (SpLoads K) :=
  F.to fun f fd F => def_ok F sc_l_loads (fun _ => rfl) fun cdv A outer s H E hr => ⟨_, (pss_cons (ps_set (i := 4) sc_l_loads.nd rfl (Or.inl rfl) (pe_callB (kr_len K rfl) (by rfl) bl.len PySem.boot_len (pa_cons (pe_lc (own := [("_law_one_here", 3)]) (g := gName 3)  rfl sc_l_loads.nd (kp_list K rfl (pv 0)) (blkOk_by (own := [("_law_one_here", 3)]) (N := ["_law_book", "_law_inlet", "_law_outlet", "_law_one_here", "_law_ins"]) (sc := defScope s_l_loads) (by decide +kernel)) (fun _ _ _ _ _ => (pg_name (i := 3) sc_l_loads.nd rfl (Or.inl rfl))) (fun _ _ _ _ _ => (pts_one (pt_cmpR op_eq (pe_ix (kx_tup K rfl) (pv 3) pe_int (fun _ _ => rfl)) (pv 1) (nomark _)))) (fun _ _ _ _ _ => pe_int)) pa_nil)))
    (pss_one (ps_ret (pe_tup (pa_cons (pv 4) (pa_cons (pe_callB (kr_len K rfl) (by rfl) bl.len PySem.boot_len (pa_cons (pe_lc (own := [("_law_one_here", 3)]) (g := gName 3)  rfl sc_l_loads.nd (kp_list K rfl (pv 0)) (blkOk_by (own := [("_law_one_here", 3)]) (N := ["_law_book", "_law_inlet", "_law_outlet", "_law_one_here", "_law_ins"]) (sc := defScope s_l_loads) (by decide +kernel)) (fun _ _ _ _ _ => (pg_name (i := 3) sc_l_loads.nd rfl (Or.inl rfl))) (fun _ _ _ _ _ => (pts_one (pt_cmpR op_eq (pe_ix (kx_tup K rfl) (pv 3) pe_int (fun _ _ => rfl)) (pv 2) (nomark _)))) (fun _ _ _ _ _ => pe_int)) pa_nil)) pa_nil)))))), fun B x Q hp h1 h2 => by
    obtain ⟨book, i, o⟩ := x
    have hp : book.length ≤ 1000 := hp
    show Goes ⟨K, B, H⟩ [.im (@rpList (T3 Int Int Int) rpSz) book, .im rpInt i, .im rpInt o, .un, .un] _
    refine q_asg (a := cntB book i) (EvD.is (ev_len (EvN.c (ev_lc (fun c : T3 Int Int Int => decide (c.b = i)) (fun _ => (1 : Int)) (ei_list (ev_var rfl)) (own_name (by decide)) (fun c hc => ⟨_, eg_name, et_test (ev_eqI (ev_t3b (ev_var rfl)) (ev_var rfl)), fun _ => ev_int⟩) (by omega)))) (by rw [List.length_map]; rfl)) ?_
    exact g_ret (b := (cntB book i, cntC book o)) (ev_pair (ev_var rfl) (EvD.is (ev_len (EvN.c (ev_lc (fun c : T3 Int Int Int => decide (c.c = o)) (fun _ => (1 : Int)) (ei_list (ev_var rfl)) (own_name (by decide)) (fun c hc => ⟨_, eg_name, et_test (ev_eqI (ev_t3c (ev_var rfl)) (ev_var rfl)), fun _ => ev_int⟩) (by omega)))) (by rw [List.length_map]; rfl))) (h1 _ rfl)⟩
def c3 (c : Call4) : T3 Int Int Int := ⟨c.a, c.b, c.c⟩
theorem put_c3 {C : Addr} {x : HD C} {i o : Int} {q : Put C} (hx : HOk x) (pk : PutOk x i o q) (how : PutHow x i o q) : (callsL (addT q.y ⟨i, o, q.fm⟩).ends).map c3 = (callsL x.ends).map c3 ++ [⟨x.given, i, o⟩] := by
  have hk2 : ((addT q.y ⟨i, o, q.fm⟩).ends.map fun p => p.1) = (x.ends.map fun p => p.1) ++ [x.given] := by rw [add_ks pk.ok, pk.ks, pk.gi]
  unfold callsL
  rw [keys_sorted pk.add, hk2, keys_sorted hx, List.map_append, List.map_append]
  have hg : ∀ n, callOf (addT q.y ⟨i, o, q.fm⟩).ends n = if n = x.given then ⟨n, i, o, q.fm⟩ else callOf q.y.ends n := fun n => by
    unfold callOf endAt
    rw [add_look, pk.gi]
    split <;> rfl
  have e2 : List.map c3 (List.map (callOf (addT q.y ⟨i, o, q.fm⟩).ends) [x.given]) = [⟨x.given, i, o⟩] := by
    rw [List.map_singleton, List.map_singleton, hg, if_pos rfl]
    rfl
  rw [e2]
  congr 1
  generalize hkk : (x.ends.map fun p => p.1) = ks
  rw [List.map_map, List.map_map]
  refine List.map_congr_left fun n hn => ?_
  rw [← hkk] at hn
  obtain ⟨t, ht⟩ := look_mem hn
  have hng : n ≠ x.given := fun z => by
    have := (hx.kg n t ht).2
    omega
  show c3 (callOf (addT q.y ⟨i, o, q.fm⟩).ends n) = c3 (callOf x.ends n)
  rw [hg, if_neg hng]
  rcases how with ⟨b, bs, e, rfl⟩ | ⟨f, g, fs, gs, ns, em, et, e, hc, hch, rfl⟩
  · rfl
  · have hl := swap_lai hx (hc.swp hch)
    show c3 (callOf (swapF x ns (f + g)).ends n) = _
    by_cases hm : n ∈ ns
    · have hl2 : lookI n (swapF x ns (f + g)).ends = some (flip1 t (f + g)) := hl.look.mpr ⟨t, ht, by rw [if_pos hm]⟩
      unfold callOf
      rw [end_at hl2, end_at ht]
      rfl
    · have hl2 : lookI n (swapF x ns (f + g)).ends = some t := hl.look.mpr ⟨t, ht, by rw [if_neg hm]⟩
      unfold callOf
      rw [end_at hl2, end_at ht]
theorem cnt_in {C : Addr} {x : HD C} {l : List (T3 Int Int Int)} (h : (callsL x.ends).map c3 = l) (i : Int) : cntB l i = ((endC x false i).length : Int) := by
  rw [← h]
  unfold cntB endC
  rw [List.filter_map, List.length_map]
  rfl
theorem cnt_out {C : Addr} {x : HD C} {l : List (T3 Int Int Int)} (h : (callsL x.ends).map c3 = l) (o : Int) : cntC l o = ((endC x true o).length : Int) := by
  rw [← h]
  unfold cntC endC
  rw [List.filter_map, List.length_map]
  rfl
/-! ### good -/
theorem ev_len3 {G : Cn} {T : List Ty} {te : TE} {α β γ : Type} {r : Rp α} {r' : Rp β} {r'' : Rp γ} {x : T3 α β γ} (h : EvD G te T (@rpT3 α β γ r r' r'') x) : EvD G (tCB (rLenQ G.K) (tCons te tNil)) T rpInt 3 := fun B H σ f Q q =>
  h B H σ f _ fun v B1 H1 x1 e1 => by
    obtain ⟨p, a, b, c, rfl, hp, h1, h2, h3⟩ := e1
    exact ⟨p, [a, b, c], rfl, .inr (.inl (.of (x1.s _ _ hp))), q _ B1 H1 x1 rfl⟩
/-! the ends of calls with their frames -/
def endsL (l : List Call4) : List Tii := l.flatMap fun c => [⟨Str.ofString "in", c.b, c.d⟩, ⟨Str.ofString "out", c.c, c.d⟩]
theorem endsL_len : ∀ l : List Call4, (endsL l).length = 2 * l.length
  | [] => rfl
  | c :: l => by
    have h := endsL_len l
    unfold endsL at h ⊢
    rw [List.flatMap_cons, List.length_append, h, List.length_cons]
    show 2 + 2 * l.length = 2 * (l.length + 1)
    omega
theorem endsL_app (l : List Call4) (c : Call4) : endsL (l ++ [c]) = endsL l ++ [⟨Str.ofString "in", c.b, c.d⟩, ⟨Str.ofString "out", c.c, c.d⟩] := by
  unfold endsL
  rw [List.flatMap_append]
  rfl
theorem in_out : Str.ofString "in" ≠ Str.ofString "out" := by decide +kernel
theorem endsL_nd {l : List Call4} (nd : l.Nodup) (h1 : ∀ a ∈ l, ∀ b ∈ l, a.b = b.b → a.d = b.d → a = b) (h2 : ∀ a ∈ l, ∀ b ∈ l, a.c = b.c → a.d = b.d → a = b) : (endsL l).Nodup := by
  unfold endsL List.Nodup
  rw [List.pairwise_flatMap]
  refine ⟨fun a _ => ?_, List.Pairwise.imp_of_mem (fun {a b} ha hb hab x hx y hy e => hab ?_) nd⟩
  · refine List.pairwise_cons.mpr ⟨fun y hy e => ?_, List.pairwise_cons.mpr ⟨fun y hy => (by cases hy), List.Pairwise.nil⟩⟩
    rw [List.mem_singleton.mp hy] at e
    injection e with e _ _
    exact in_out e
  · have mem2 : ∀ {z p q : Tii}, z ∈ [p, q] → z = p ∨ z = q := fun {z p q} h => by
      rcases List.mem_cons.mp h with h | h
      · exact .inl h
      · exact .inr (List.mem_singleton.mp h)
    rcases mem2 hx with rfl | rfl <;> rcases mem2 hy with rfl | rfl
    · injection e with _ e1 e2
      exact h1 a ha b hb e1 e2
    · injection e with e _ _
      exact absurd e in_out
    · injection e with e _ _
      exact absurd e.symm in_out
    · injection e with _ e1 e2
      exact h2 a ha b hb e1 e2
structure GdA where
  told : List Call4
  book : List (T3 Int Int Int)
  fr : Int
structure GdOk (x : GdA) : Prop where
  le : x.told.length ≤ 64
  is : x.told.map c3 = x.book
  fr : ∀ c ∈ x.told, 0 ≤ c.d ∧ c.d < x.fr
  nd : (endsL x.told).Nodup
abbrev SpGood (K : PySem.W.Frag) : Sp := SpX K (fun x : GdA => [.im rpCalls x.told, .im (@rpList (T3 Int Int Int) rpSz) x.book, .im rpInt x.fr]) GdOk rpBool fun _ => .ok true
theorem ok_good (F : DefT K mg "_law_good" s_l_good ["_law_told", "_law_book", "_law_frames"]) (bl : Blt mg) (d_l_whole : Def P w K mg base 1 "_law_whole" ["_law_found"] (SpWhole K)) : Def P w K mg base 2 "_law_good" ["_law_told", "_law_book", "_law_frames"] (SpGood K) :=
  F.to fun f fd F => def_ok F sc_l_good (fun _ => rfl) fun cdv A outer s H E hr => ⟨_, (pss_cons (ps_if (PW.pt (pw_or (pt_not (pt_val (pe_callB (kr_isi K rfl) (by rfl) bl.isinstance (by decide +kernel) (pa_cons (pv 0) (pa_cons (pe_bltn (v := .ty "list") (by rfl) bl.list (by decide +kernel) rfl) pa_nil))))) (pw_or1 (pt_cmpR (ko_neD K rfl hr) (pe_lc (own := [("_law_one_here", 3)]) (g := gName 3) (tt := tYes) rfl sc_l_good.nd (kp_list K rfl (pv 0)) (blkOk_by (own := [("_law_one_here", 3)]) (N := ["_law_told", "_law_book", "_law_frames", "_law_one_here", "_law_ends"]) (sc := defScope s_l_good) (by decide +kernel)) (fun _ _ _ _ _ => (pg_name (i := 3) sc_l_good.nd rfl (Or.inl rfl))) (fun _ _ _ _ _ => pts_nil) (fun _ _ _ _ _ => (pe_slice (ks_tup K rfl) (pv 3) po_none (po_some pe_int)))) (pv 1) (nomark _))))) (pss_one (ps_ret pe_bl)) pss_nil)
    (pss_cons (ps_set (i := 4) sc_l_good.nd rfl (Or.inl rfl) (pe_lst pa_nil))
    (pss_cons (ps_for (passes_of rfl) rfl (kp_list K rfl (pv 0)) (pg_name (i := 3) sc_l_good.nd rfl (Or.inl rfl))
    (pss_cons (ps_if (PW.pt (pw_or (pt_not (pt_val (pe_callB (kr_isi K rfl) (by rfl) bl.isinstance (by decide +kernel) (pa_cons (pv 3) (pa_cons (pe_bltn (v := .ty "tuple") (by rfl) bl.tuple (by decide +kernel) rfl) pa_nil))))) (pw_or (pt_cmpR op_ne (pe_callB (kr_len K rfl) (by rfl) bl.len PySem.boot_len (pa_cons (pv 3) pa_nil)) pe_int (nomark _)) (pw_or (pt_not (pt_val (pe_callD d_l_whole hr (by rfl) (passes_call (takes_of rfl rfl rfl rfl) (fun _ _ _ _ h => h)) (pa_cons (pe_ix (kx_tup K rfl) (pv 3) pe_int (fun _ _ => rfl)) pa_nil)))) (pw_or1 (pt_not (pt_chain op_le op_lt pe_int (pe_ix (kx_tup K rfl) (pv 3) pe_int (fun _ _ => rfl)) (pv 2)))))))) (pss_one (ps_ret pe_bl)) pss_nil)
    (pss_one (ps_set (i := 4) sc_l_good.nd rfl (Or.inl rfl) (pe_op op_cat (pv 4) (pe_lst (pa_cons (pe_tup (pa_cons pe_str (pa_cons (pe_ix (kx_tup K rfl) (pv 3) pe_int (fun _ _ => rfl)) (pa_cons (pe_ix (kx_tup K rfl) (pv 3) pe_int (fun _ _ => rfl)) pa_nil)))) (pa_cons (pe_tup (pa_cons pe_str (pa_cons (pe_ix (kx_tup K rfl) (pv 3) pe_int (fun _ _ => rfl)) (pa_cons (pe_ix (kx_tup K rfl) (pv 3) pe_int (fun _ _ => rfl)) pa_nil)))) pa_nil))))))))
    (pss_one (ps_ret (pe_cmpR op_eq (ke_lenSetK K rfl hr rfl (by rfl) bl.len (by rfl) bl.set (pv 4)) (pe_callB (kr_len K rfl) (by rfl) bl.len PySem.boot_len (pa_cons (pv 4) pa_nil)) (nomark _))))))), fun B x Q hp h1 h2 => by
    obtain ⟨told, book, fr⟩ := x
    obtain ⟨le, is, hfr, nd⟩ := hp
    have le : told.length ≤ 64 := le
    have is : told.map c3 = book := is
    have hfr : ∀ c ∈ told, 0 ≤ c.d ∧ c.d < fr := hfr
    have nd : (endsL told).Nodup := nd
    show Goes ⟨K, B, H⟩ [.im rpCalls told, .im (@rpList (T3 Int Int Int) rpSz) book, .im rpInt fr, .un, .un] _
    refine q_when (b := false) (EvT.is (et_or (et_not (et_B (ev_isi (α := List Call4) (b := true) (EvD.h (ev_var rfl)) fun _ => rfl))) fun _ => et_test (ev_neD (r := @rpList (T3 Int Int Int) rpSz) (EvD.h (EvN.d (ev_lcA c3 (ei_list (ev_var rfl)) (own_name (by decide)) (fun x hx => ⟨_, eg_name, ev_sl43 (ev_var rfl)⟩) (by omega)))) (EvD.h (ev_var rfl)))) (by rw [is, eqvB_self]; rfl)) (fun z => by cases z) (fun _ => ?_)
    refine q_asgN (r := rpTii) (xs := endsL (told.take 0)) (ev_lst el_nil (show (0 : Nat) ≤ 100000 by decide)) ?_
    refine g_any 3 ?_
    refine q_for (xs := told) (fun i T => T = [.im rpCalls told, .im (@rpList (T3 Int Int Int) rpSz) book, .im rpInt fr, .any, .ow (@owML Tii rpTii) ⟨endsL (told.take i)⟩]) (ei_list (ev_var rfl)) rfl (fun B1 up i c T hi hI => ?_) (fun T hI => ?_)
    · subst hI
      have hc := List.mem_of_getElem? hi
      have hd := hfr c hc
      refine ⟨_, eg_name, ?_⟩
      refine q_when (b := false) (EvT.is (et_or (et_not (et_B (ev_isi (α := Call4) (b := true) (EvD.h (ev_var rfl)) fun _ => rfl))) fun _ => et_or (et_test (ev_neI (ev_len4 (ev_var rfl)) ev_int)) fun _ => et_or (et_not (et_B (ev_call (x := D.int c.d) (b := true) (ea_cons (EvD.toD (α := Int) (ev_t4d (ev_var rfl))) ea_nil) trivial rfl))) fun _ => et_not (et_test (ev_chain ev_int (ev_t4d (ev_var rfl)) (ev_var rfl)))) ?_) (fun z => by cases z) (fun _ => ?_)
      · show (!true || ((!decide ((4 : Int) = 4)) || (!true || !(decide (0 ≤ c.d) && decide (c.d < fr))))) = false
        rw [decide_eq_true hd.1, decide_eq_true hd.2]
        rfl
      · have hl : (endsL (told.take i)).length ≤ 128 := by
          rw [endsL_len, List.length_take]
          omega
        refine g_asgN (r := rpTii) (xs := endsL (told.take (i + 1))) (by
          have e : endsL (told.take (i + 1)) = endsL (told.take i) ++ [⟨Str.ofString "in", c.b, c.d⟩, ⟨Str.ofString "out", c.c, c.d⟩] := by
            rw [List.take_add_one, hi]
            exact endsL_app _ c
          rw [e]
          exact ev_catK (ev_varMK rfl) (EvN.k (ev_lst (r := rpTii) (el_cons (ev_trip ev_str (ev_t4b (ev_var rfl)) (ev_t4d (ev_var rfl))) (el_cons (ev_trip ev_str (ev_t4c (ev_var rfl)) (ev_t4d (ev_var rfl))) el_nil)) (show (2 : Nat) ≤ 100000 by decide))) (by show _ + 2 ≤ _; omega)) (g_any 3 (g_at rfl))
    · subst hI
      rw [List.take_length]
      have hl : (endsL told).length ≤ 128 := by
        rw [endsL_len]
        omega
      exact g_ret (EvD.is (ev_eqI (ev_lenSetK (ev_varM rfl) (by show (endsL told).length ≤ 300; omega) nd) (ev_len (ev_varM rfl))) (decide_eq_true rfl)) (h1 _ rfl)⟩
/-! ### k02 -/
/-! loads -/
theorem free_count (row : List (Option Int)) : (row.filter fun o => !o.isNone).length + (freeL (row.length : Int) row).length = row.length := by
  have h1 := len_split (fun o : Option Int => o.isNone) row
  have h2 : (freeL (row.length : Int) row).length = (row.filter fun o => o.isNone).length := by
    unfold freeL rng
    rw [Int.toNat_natCast, List.filter_map, List.length_map]
    have e : row = (List.range row.length).map fun j => row.getD j none := by
      refine List.ext_getElem (by rw [List.length_map, List.length_range]) fun j h1 h2 => ?_
      rw [List.getElem_map, List.getElem_range, List.getD_eq_getElem?_getD, List.getElem?_eq_getElem h1]
      rfl
    have e2 : (row.filter fun o => o.isNone).length = (((List.range row.length).map fun j => row.getD j none).filter fun o => o.isNone).length := by rw [← e]
    rw [e2, List.filter_map, List.length_map]
    congr 2
    funext j
    show (row.getD ((0 : Int) + (j : Int)).toNat none).isNone = (row.getD j none).isNone
    rw [show ((0 : Int) + (j : Int)).toNat = j by omega]
  omega
theorem load_is {C N : Addr} {x : HD C} (h : HOk x) {s : Bool} {e : Int} (h0 : 0 ≤ e) (h1 : e < ((rowsOf x s).length : Int)) : loadE N (rowsOf x s) (.int e) = .ok ((endC x s e).length : Int) := by
  have hc := end_count h (s := s) h0 h1
  have hl : (rowAt (rowsOf x s) e).length = x.fr.toNat := h.sh.r s _ (row_mem h0 h1)
  have hf := free_count (rowAt (rowsOf x s) e)
  have f1 := h.sh.f0
  rw [hl, show ((x.fr.toNat : Nat) : Int) = x.fr by omega] at hf
  unfold loadE
  rw [endOk_in h0 h1, if_pos rfl]
  show Except.ok (loadN (rowAt (rowsOf x s) e)) = _
  unfold loadN
  congr 2
  omega
/-- the last call told is the one just put -/
theorem put_last {C : Addr} {x : HD C} {i o : Int} {q : Put C} (pk : PutOk x i o q) : ∃ l, callsL (addT q.y ⟨i, o, q.fm⟩).ends = l ++ [⟨x.given, i, o, q.fm⟩] := by
  have hk2 : ((addT q.y ⟨i, o, q.fm⟩).ends.map fun p => p.1) = (x.ends.map fun p => p.1) ++ [x.given] := by rw [add_ks pk.ok, pk.ks, pk.gi]
  have e : callsL (addT q.y ⟨i, o, q.fm⟩).ends = ((x.ends.map fun p => p.1).map (callOf (addT q.y ⟨i, o, q.fm⟩).ends)) ++ [⟨x.given, i, o, q.fm⟩] := by
    unfold callsL
    rw [keys_sorted pk.add, hk2, List.map_append]
    congr 1
    rw [List.map_singleton]
    unfold callOf endAt
    rw [add_look, pk.gi, if_pos rfl]
    rfl
  exact ⟨_, e⟩
theorem atI_last {α : Type} (l : List α) (a : α) : atI (l ++ [a]) (-1) = some a := by
  unfold atI
  have e : ixN (l ++ [a]).length (-1) = some l.length := by
    unfold ixN
    rw [if_neg (by decide), List.length_append, List.length_singleton, if_pos (by omega)]
    congr 1
    omega
  rw [e]
  show (l ++ [a])[l.length]? = some a
  rw [List.getElem?_append_right (Nat.le_refl _), Nat.sub_self]
  rfl
/-! one call -/
structure OneA where
  i : Int
  o : Int
  fr : Int
  g : Int
structure OneOk {C : Addr} (x : HD C × List (T3 Int Int Int) × OneA) : Prop where
  ok : HOk x.1
  le : x.1.ends.length ≤ 61
  i0 : 0 ≤ x.2.2.i
  i1 : x.2.2.i < (x.1.ain.length : Int)
  o0 : 0 ≤ x.2.2.o
  o1 : x.2.2.o < (x.1.aout.length : Int)
  fr : x.2.2.fr = x.1.fr
  gi : x.2.2.g = x.1.given
  is : (callsL x.1.ends).map c3 = x.2.1
noncomputable def oneF {C : Addr} (x : HD C × List (T3 Int Int Int) × OneA) : Bool × HD C × List (T3 Int Int Int) := match putOf x.1 x.2.2.i x.2.2.o with
  | none => (true, x.1, x.2.1)
  | some q => (true, addT q.y ⟨x.2.2.i, x.2.2.o, q.fm⟩, x.2.1 ++ [⟨x.1.given, x.2.2.i, x.2.2.o⟩])
abbrev SpOne (K : PySem.W.Frag) (C : Addr) : Sp := SpM2 K (oxHD (C := C)) rpSz (fun x : OneA => [.im rpInt x.i, .im rpInt x.o, .im rpInt x.fr, .im rpInt x.g]) OneOk rpBool oneF
theorem ok_one {C : Addr} (F : DefT K mg "_law_one" s_l_one ["_law_hall", "_law_book", "_law_inlet", "_law_outlet", "_law_frames", "_law_given"]) (bl : Blt mg) (h_Hall : HCls K C) (d_l_put : Def P w K mg base 4 "_law_put" ["_law_hall", "_law_inlet", "_law_outlet"] (SpLput K C)) (d_l_loads : Def P w K mg base 1 "_law_loads" ["_law_book", "_law_inlet", "_law_outlet"] (SpLoads K)) (d_l_whole : Def P w K mg base 1 "_law_whole" ["_law_found"] (SpWhole K)) (m_calls : MDef P w K mg base C 1 "calls" ["self"] (SpCalls K C)) : Def P w K mg base 5 "_law_one" ["_law_hall", "_law_book", "_law_inlet", "_law_outlet", "_law_frames", "_law_given"] (SpOne K C) :=
  F.to fun f fd F => def_okM2 F sc_l_one (fun _ => rfl) fun cdv A outer s H E hr => ⟨_, (pss_cons (ps_set (i := 6) sc_l_one.nd rfl (Or.inl rfl) (pe_callD d_l_put hr (by rfl) (passes_call (takes_of rfl rfl rfl rfl) (fun _ _ _ _ h => h)) (pa_cons (pv 0) (pa_cons (pv 2) (pa_cons (pv 3) pa_nil)))))
    (pss_cons (ps_if (pt_cmpR (ko_in K rfl) (pv 4) (pe_callD d_l_loads hr (by rfl) (passes_call (takes_of rfl rfl rfl rfl) (fun _ _ _ _ h => h)) (pa_cons (pv 1) (pa_cons (pv 2) (pa_cons (pv 3) pa_nil)))) (by rfl)) (pss_one (ps_ret (pe_cmp (pc_isN (pv 6)) rfl))) pss_nil)
    (pss_cons (ps_if (PW.pt (pw_or (pt_not (pt_val (pe_callB (kr_isi K rfl) (by rfl) bl.isinstance (by decide +kernel) (pa_cons (pv 6) (pa_cons (pe_bltn (v := .ty "tuple") (by rfl) bl.tuple (by decide +kernel) rfl) pa_nil))))) (pw_or (pt_cmpR op_ne (pe_callB (kr_len K rfl) (by rfl) bl.len PySem.boot_len (pa_cons (pv 6) pa_nil)) pe_int (nomark _)) (pw_or (pt_not (pt_val (pe_callD d_l_whole hr (by rfl) (passes_call (takes_of rfl rfl rfl rfl) (fun _ _ _ _ h => h)) (pa_cons (pe_ix (kx_tup K rfl) (pv 6) pe_int (fun _ _ => rfl)) pa_nil)))) (pw_or1 (pt_cmpR op_ne (pe_ix (kx_tup K rfl) (pv 6) pe_int (fun _ _ => rfl)) (pv 5) (nomark _))))))) (pss_one (ps_ret pe_bl)) pss_nil)
    (pss_cons (ps_expr (ke_bm K rfl (pe_bm PySem.F.plainAttrs_list PySem.F.slot_list_append PySem.F.type_list_append mt_append (pv 1) (pa_cons (pe_tup (pa_cons (pv 5) (pa_cons (pv 2) (pa_cons (pv 3) pa_nil)))) pa_nil))))
    (pss_one (ps_ret (pe_cmpR op_eq (pe_ix (kx_tup K rfl) (pv 6) pe_int (fun _ _ => rfl)) (pe_ix (kx_tup K rfl) (pe_ix (kx_list K rfl) (pe_methD0 m_calls h_Hall.cl hr (passes_call (takes_of rfl rfl rfl rfl) (fun _ _ _ _ h => h)) (pv 0)) (pe_un un_neg pe_int) (fun _ _ => rfl)) pe_int (fun _ _ => rfl)) (nomark _)))))))), fun B H1 a l x u p Q hp h1 => by
    obtain ⟨i, o, fr, g⟩ := x
    obtain ⟨ok, le, i0, i1, o0, o1, hfr, hg, is0⟩ := hp
    have le : a.ends.length ≤ 61 := le
    have i0 : 0 ≤ i := i0
    have i1 : i < (a.ain.length : Int) := i1
    have o0 : 0 ≤ o := o0
    have o1 : o < (a.aout.length : Int) := o1
    have hfr2 : fr = a.fr := hfr
    have hg2 : g = a.given := hg
    have is : (callsL a.ends).map c3 = l := is0
    clear hfr hg is0
    subst hfr2
    subst hg2
    show Goes ⟨K, B, H1⟩ [.ow (owV u (oxHD (C := C))) a, .ow (@owV (List (T3 Int Int Int)) (@rpList _ rpSz) (.ref p) (oxLs rpSz)) l, .im rpInt i, .im rpInt o, .im rpInt a.fr, .im rpInt a.given, .un] _
    have hll : l.length ≤ 61 := by
      rw [← is, List.length_map, callsL_is ok, List.length_map]
      exact le
    have hn := put_none ok i0 i1 o0 o1
    rw [← cnt_in is, ← cnt_out is] at hn
    have hpre : LputOk (a, (i, o)) := ⟨ok, by dsimp only; omega, i0, i1, o0, o1⟩
    have test : ∀ {G : Cn} {T : List Ty} {E : XK}, T[1]? = some (.ow (@owV (List (T3 Int Int Int)) (@rpList _ rpSz) (.ref p) (oxLs rpSz)) l) → T[2]? = some (.im rpInt i) → T[3]? = some (.im rpInt o) → T[4]? = some (.im rpInt a.fr) → EvD G (tOp (rIn G.K false) (tVar 4) (tCall (SpLoads G.K) [] E (tCons (tVar 1) (tCons (tVar 2) (tCons (tVar 3) tNil))))) T rpBool (decide (a.fr ∈ [cntB l i, cntC l o])) := fun e1 e2 e3 e4 =>
      ev_inPH (p := (cntB l i, cntC l o)) (ev_var e4) (ev_callHH (x := ⟨l, i, o⟩) (b := (cntB l i, cntC l o)) (eah_cons (@ev_varO _ _ _ (@rpList _ rpSz) (oxLs rpSz) _ _ _ e1) (eah_cons (EvD.h (ev_var e2)) (eah_cons (EvD.h (ev_var e3)) eah_nil))) (show l.length ≤ 1000 by omega) rfl)
    have hb : decide (a.fr ∈ [cntB l i, cntC l o]) = (putOf a i o).isNone := by
      rw [hn]
      simp only [List.mem_cons, List.not_mem_nil, or_false]
      by_cases c1 : a.fr = cntB l i <;> by_cases c2 : a.fr = cntC l o <;> simp [c1, c2]
    cases hq : putOf a i o with
    | none =>
      refine q_asgM (ev_callM (j := 0) (x := (i, o)) (y := none) (a' := a) rfl (ea_cons (ev_var rfl) (ea_cons (ev_var rfl) ea_nil)) hpre (by unfold lputF; dsimp only; rw [hq])) ?_
      refine q_when (b := true) (EvT.is (et_test (test rfl rfl rfl rfl)) (by rw [hb, hq]; rfl)) (fun _ => ?_) (fun z => by cases z)
      refine g_retV2 (i := 0) (j := 1) (y := true) rfl rfl (by decide) (EvD.is (ev_isN (α := T3 Int Int (List Int)) (r := rpPut) (o := none) (EvD.h (ev_var rfl))) rfl) (h1 _ _ _ ?_)
      unfold oneF
      dsimp only
      rw [hq]
    | some q =>
      have pk := put_ok ok ⟨i0, i1⟩ ⟨o0, o1⟩ hq
      obtain ⟨l2, hlast⟩ := put_last pk
      have h5 := ks_len (add_ks (t := ⟨i, o, q.fm⟩) pk.ok)
      have h6 := map_len pk.ks
      have h8 : ([q.y.given] : List Int).length = 1 := rfl
      refine q_asgM (ev_callM (j := 0) (x := (i, o)) (y := some ⟨a.given, q.fm, isort q.ns⟩) (a' := addT q.y ⟨i, o, q.fm⟩) rfl (ea_cons (ev_var rfl) (ea_cons (ev_var rfl) ea_nil)) hpre (by unfold lputF; dsimp only; rw [hq])) ?_
      refine q_when (b := false) (EvT.is (et_test (test rfl rfl rfl rfl)) (by rw [hb, hq]; rfl)) (fun z => by cases z) (fun _ => ?_)
      refine g_as (i := 6) (r' := rpPut) (b := ⟨a.given, q.fm, isort q.ns⟩) rfl (fun h => h) ?_
      have hv : ∀ {G : Cn} {T : List Ty}, T[6]? = some (.im rpPut ⟨a.given, q.fm, isort q.ns⟩) → EvD G (tVar 6) T rpPut ⟨a.given, q.fm, isort q.ns⟩ := fun h => ev_var h
      refine q_when (b := false) (EvT.is (et_or (et_not (et_B (ev_isi (α := T3 Int Int (List Int)) (b := true) (EvD.h (hv rfl)) fun _ => rfl))) fun _ => et_or (et_test (ev_neI (ev_len3 (hv rfl)) ev_int)) fun _ => et_or (et_not (et_B (ev_call (x := D.int a.given) (b := true) (ea_cons (EvD.toD (α := Int) (ev_t3a (hv rfl))) ea_nil) trivial rfl))) fun _ => et_test (ev_neI (ev_t3a (hv rfl)) (ev_var rfl))) ?_) (fun z => by cases z) (fun _ => ?_)
      · show (!true || ((!decide ((3 : Int) = 3)) || (!true || !decide (a.given = a.given)))) = false
        rw [decide_eq_true (rfl : a.given = a.given)]
        rfl
      refine q_appLs (i := 1) (y := ⟨a.given, i, o⟩) rfl (ev_trip (ev_var rfl) (ev_var rfl) (ev_var rfl)) (by omega) ?_
      refine g_retV2 (i := 0) (j := 1) (y := true) rfl rfl (by decide) (EvD.is (ev_eqI (ev_t3b (hv rfl)) (ev_t4d (ev_ix (a := ⟨a.given, i, o, q.fm⟩) (EvD.c (ev_methR (x := ()) (y := callsL (addT q.y ⟨i, o, q.fm⟩).ends) rfl (insHD fn_calls) ea_nil ⟨pk.add.sh.n, by dsimp only; omega⟩ rfl)) (ev_neg ev_int) (by rw [hlast]; exact atI_last _ _)))) (decide_eq_true rfl)) (h1 _ _ _ ?_)
      unfold oneF
      dsimp only
      rw [hq]⟩
theorem drop_calls {C : Addr} {x : HD C} (hx : HOk x) {n : Int} {t : Tri} (ht : lookI n x.ends = some t) : callsL (dropT x n t).ends = (callsL x.ends).filter fun c => !decide (c.a = n) := by
  unfold callsL
  rw [keys_sorted (hx.drop ht), keys_sorted hx, show ((dropT x n t).ends.map fun p => p.1) = (x.ends.map fun p => p.1).filter fun k => decide (k ≠ n) from drop_keys]
  generalize (x.ends.map fun p => p.1) = ks
  rw [List.filter_map, show ((fun c : Call4 => !decide (c.a = n)) ∘ callOf x.ends) = fun k => decide (k ≠ n) from funext fun k => by rw [decide_not]; rfl]
  refine List.map_congr_left fun k hk => ?_
  have hk := of_decide_eq_true (List.mem_filter.mp hk).2
  unfold callOf endAt
  rw [drop_look, if_neg hk]
/-! the law -/
theorem et_BM {G : Cn} {T T' : List Ty} {te : TE} {b : Bool} (h : EvM G te T rpBool b T') : EvTM G (tB te) T b T' := fun B H σ f Q q => h B H σ f _ fun v B1 H1 f1 e1 => ⟨b, e1, q B1 H1 f1⟩
structure In2 (C : Addr) (z : T3 Int Int Int) (i : Nat) (x : HD C) (l : List (T3 Int Int Int)) : Prop where
  ok : HOk x
  le : x.ends.length ≤ i
  li : (x.ain.length : Int) = z.a
  lo : (x.aout.length : Int) = z.b
  fr : x.fr = z.c
  is : (callsL x.ends).map c3 = l
section
variable {C : Addr} {z : T3 Int Int Int} {i : Nat} {x : HD C} {l : List (T3 Int Int Int)}
theorem In2.len (J : In2 C z i x l) : (callsL x.ends).length = x.ends.length ∧ l.length = x.ends.length := by
  have h : (callsL x.ends).length = x.ends.length := by rw [callsL_is J.ok, List.length_map]
  exact ⟨h, by rw [← J.is, List.length_map]; exact h⟩
theorem In2.keys (J : In2 C z i x l) : (l.map fun c => c.a) = x.ends.map fun p => p.1 := by
  rw [← J.is, List.map_map]
  exact calls_a.trans (keys_sorted J.ok)
theorem In2.good (J : In2 C z i x l) (hi : i ≤ 64) : GdOk ⟨callsL x.ends, l, z.c⟩ := by
  have hl := J.len
  have hle := J.le
  have cell : ∀ a ∈ callsL x.ends, ∀ s, cell2 x s (if s = true then a.c else a.b) a.d = some a.a := fun a ha s => by
    obtain ⟨t, ht, e⟩ := (told_mem J.ok).mp ha
    have h := J.ok.at_ ht s
    have e1 : a.b = t.a := by rw [e]
    have e2 : a.c = t.b := by rw [e]
    have e3 : a.d = t.c := by rw [e]
    rw [e1, e2, e3]
    cases s <;> exact h
  have same : ∀ a ∈ callsL x.ends, ∀ b ∈ callsL x.ends, a.a = b.a → a = b := fun a ha b hb e => by
    obtain ⟨t, ht, ea⟩ := (told_mem J.ok).mp ha
    obtain ⟨u, hu, eb⟩ := (told_mem J.ok).mp hb
    rw [e, hu] at ht
    cases ht
    rw [ea, eb, e]
  refine ⟨by show (callsL x.ends).length ≤ 64; omega, J.is, fun c hc => ?_, endsL_nd (told_nodup J.ok) (fun a ha b hb e1 e2 => ?_) (fun a ha b hb e1 e2 => ?_)⟩
  · obtain ⟨t, ht, e⟩ := (told_mem J.ok).mp hc
    have h := J.ok.sh.en _ t ht false
    have e3 : c.d = t.c := by rw [e]
    have hf := J.fr
    show 0 ≤ c.d ∧ c.d < z.c
    rw [e3, ← hf]
    exact ⟨h.f0, h.f1⟩
  · have h1 : cell2 x false a.b a.d = some a.a := cell a ha false
    have h2 : cell2 x false b.b b.d = some b.a := cell b hb false
    rw [e1, e2, h2] at h1
    exact same a ha b hb (Option.some.inj h1).symm
  · have h1 : cell2 x true a.c a.d = some a.a := cell a ha true
    have h2 : cell2 x true b.c b.d = some b.a := cell b hb true
    rw [e1, e2, h2] at h1
    exact same a ha b hb (Option.some.inj h1).symm
theorem In2.drop (J : In2 C z i x l) {n : Int} {t : Tri} (ht : lookI n x.ends = some t) : In2 C z (i + 1) (dropT x n t) (l.filter fun c => !decide (c.a = n)) := by
  have h1 : (dropT x n t).ain.length = x.ain.length := rows_drop2 (s := false)
  have h2 : (dropT x n t).aout.length = x.aout.length := rows_drop2 (s := true)
  have h3 := drop_len (n := n) (kv := x.ends)
  refine ⟨J.ok.drop ht, Nat.le_succ_of_le (Nat.le_trans h3 J.le), by rw [h1]; exact J.li, by rw [h2]; exact J.lo, J.fr, ?_⟩
  rw [drop_calls J.ok ht, ← J.is, List.filter_map]
  rfl
theorem In2.one (J : In2 C z i x l) {ia ob : Int} (a0 : 0 ≤ ia ∧ ia < z.a) (b0 : 0 ≤ ob ∧ ob < z.b) : ∃ (x' : HD C) (l' : List (T3 Int Int Int)), oneF (x, l, ⟨ia, ob, z.c, x.given⟩) = (true, x', l') ∧ In2 C z (i + 1) x' l' ∧ x'.given = x.given + (l'.length : Int) - (l.length : Int) := by
  have hli := J.li
  have hlo := J.lo
  have hI : 0 ≤ ia ∧ ia < (x.ain.length : Int) := ⟨a0.1, by omega⟩
  have hO : 0 ≤ ob ∧ ob < (x.aout.length : Int) := ⟨b0.1, by omega⟩
  cases hq : putOf x ia ob with
  | none => exact ⟨x, l, by unfold oneF; dsimp only; rw [hq], ⟨J.ok, Nat.le_succ_of_le J.le, J.li, J.lo, J.fr, J.is⟩, by omega⟩
  | some q =>
    have pk := put_ok J.ok hI hO hq
    have how := put_how J.ok hI hO hq
    have h1 : (addT q.y ⟨ia, ob, q.fm⟩).ain.length = q.y.ain.length := rows_add2 (s := false)
    have h2 : (addT q.y ⟨ia, ob, q.fm⟩).aout.length = q.y.aout.length := rows_add2 (s := true)
    have h3 : q.y.ain.length = x.ain.length := pk.le false
    have h4 : q.y.aout.length = x.aout.length := pk.le true
    have h5 := ks_len (add_ks (t := ⟨ia, ob, q.fm⟩) pk.ok)
    have h6 := map_len pk.ks
    have h7 := J.le
    have h8 : ([q.y.given] : List Int).length = 1 := rfl
    refine ⟨addT q.y ⟨ia, ob, q.fm⟩, l ++ [⟨x.given, ia, ob⟩], by unfold oneF; dsimp only; rw [hq], ⟨pk.add, by omega, by rw [h1, h3]; exact J.li, by rw [h2, h4]; exact J.lo, by show q.y.fr = z.c; rw [pk.fr]; exact J.fr, by rw [put_c3 J.ok pk how, J.is]⟩, ?_⟩
    show q.y.given + 1 = _
    rw [pk.gi, List.length_append, List.length_singleton]
    omega
end
theorem ok_law {C M N Z f : Addr} {fd : FuncData} (F : Fun K "law" "law" s_law f fd) (bl : Blt mg) (h_Hall : HCls K C) (c_BadHall : ECls K mg "BadHall" Z) (c_NoCall : ECls K mg "NoCall" M) (c_NoEnd : ECls K mg "NoEnd" N) (d_l_small : Def P w K mg base 3 "_law_small" ["_law_script"] (SpSmall K)) (d_l_goes : Def P w K mg base 3 "_law_goes" ["_law_script"] (SpGoes K)) (d_l_deed : Def P w K mg base 2 "_law_deed" ["_law_cell_here", "_law_sizes_here", "_law_known"] (SpDeed K)) (i_Hall : IDef P w K mg base C 2 "Hall" ["self", "inlets", "outlets", "frames"] (SpInit K C Z))
    (m_calls : MDef P w K mg base C 1 "calls" ["self"] (SpCalls K C)) (m_drop : MDef P w K mg base C 2 "drop" ["self", "number"] (SpDrop K C M)) (m_load_in : MDef P w K mg base C 3 "load_in" ["self", "inlet"] (SpLoadIn K C N)) (m_load_out : MDef P w K mg base C 3 "load_out" ["self", "outlet"] (SpLoadOut K C N)) (d_l_loads : Def P w K mg base 1 "_law_loads" ["_law_book", "_law_inlet", "_law_outlet"] (SpLoads K)) (d_l_good : Def P w K mg base 2 "_law_good" ["_law_told", "_law_book", "_law_frames"] (SpGood K)) (d_l_one : Def P w K mg base 5 "_law_one" ["_law_hall", "_law_book", "_law_inlet", "_law_outlet", "_law_frames", "_law_given"] (SpOne K C)) : FnOk P w K mg base (L2.CX P w) 6 f fd ["_law_script"] (SpLaw K) :=
  def_ok F sc_law (fun _ => rfl) fun cdv A outer s H E hr => ⟨_, (pss_cons (ps_set (i := 1) sc_law.nd rfl (Or.inl rfl) (pe_callD d_l_small hr (by rfl) (passes_call (takes_of rfl rfl rfl rfl) (fun _ _ _ _ h => h)) (pa_cons (pv 0) pa_nil)))
    (pss_cons (ps_set (i := 2) sc_law.nd rfl (Or.inl rfl) (pe_makeD i_Hall hr (by rfl) (passes_call (takes_of rfl rfl rfl rfl) (fun _ _ _ _ h => h)) (pa_cons (pe_ix (kx_tup K rfl) (pv 1) pe_int (fun _ _ => rfl)) (pa_cons (pe_ix (kx_tup K rfl) (pv 1) pe_int (fun _ _ => rfl)) (pa_cons (pe_ix (kx_tup K rfl) (pv 1) pe_int (fun _ _ => rfl)) pa_nil)))))
    (pss_cons (ps_set (i := 3) sc_law.nd rfl (Or.inl rfl) (pe_lst pa_nil))
    (pss_cons (ps_set (i := 4) sc_law.nd rfl (Or.inl rfl) pe_int)
    (pss_cons (ps_for (passes_of rfl) rfl (kp_list K rfl (pe_callD d_l_goes hr (by rfl) (passes_call (takes_of rfl rfl rfl rfl) (fun _ _ _ _ h => h)) (pa_cons (pv 0) pa_nil))) (pg_name (i := 5) sc_law.nd rfl (Or.inl rfl))
    (pss_cons (ps_set (i := 7) sc_law.nd rfl (Or.inr rfl) (pe_callD d_l_deed hr (by rfl) (passes_call (takes_of rfl rfl rfl rfl) (fun _ _ _ _ h => h)) (pa_cons (pv 5) (pa_cons (pv 1) (pa_cons (pe_lc (own := [("_law_one_here", 6)]) (g := gName 6) (tt := tYes) rfl sc_law.nd (kp_list K rfl (pv 3)) (blkOk_by (own := [("_law_one_here", 6)]) (N := ["_law_script", "_law_sizes_here", "_law_hall", "_law_book", "_law_given", "_law_cell_here", "_law_one_here", "_law_deed_here", "_law_many"]) (sc := defScope s_law) (by decide +kernel)) (fun _ _ _ _ _ => (pg_name (i := 6) sc_law.nd rfl (Or.inl rfl))) (fun _ _ _ _ _ => pts_nil) (fun _ _ _ _ _ => (pe_ix (kx_tup K rfl) (pv 6) pe_int (fun _ _ => rfl)))) pa_nil)))))
    (pss_cons (ps_if (pt_cmpR op_eq (pe_ix (kx_tup K rfl) (pv 7) pe_int (fun _ _ => rfl)) pe_str (nomark _)) (pss_cons (ps_expr (pe_methD m_drop h_Hall.cl hr (passes_call (takes_of rfl rfl rfl rfl) (fun _ _ _ _ h => h)) (pv 2) (pa_cons (pe_ix (kx_tup K rfl) (pv 7) pe_int (fun _ _ => rfl)) pa_nil)))
    (pss_one (ps_setLc (i := 3) (own := [("_law_one_here", 6)]) (g := gName 6)  rfl sc_law.nd rfl rfl (sw_true rfl rfl rfl (by decide +kernel)) (kp_list K rfl (pv 3)) (blkOk_by (own := [("_law_one_here", 6)]) (N := ["_law_script", "_law_sizes_here", "_law_hall", "_law_book", "_law_given", "_law_cell_here", "_law_one_here", "_law_deed_here", "_law_many"]) (sc := defScope s_law) (by decide +kernel)) (fun _ _ _ _ _ => (pg_name (i := 6) sc_law.nd rfl (Or.inl rfl))) (fun _ _ _ _ _ => (pts_one (pt_cmpR op_ne (pe_ix (kx_tup K rfl) (pv 6) pe_int (fun _ _ => rfl)) (pe_ix (kx_tup K rfl) (pv 7) pe_int (fun _ _ => rfl)) (nomark _)))) (fun _ _ _ _ _ => (pv 6))))) (pss_cons (ps_set (i := 8) sc_law.nd rfl (Or.inl rfl) (pe_callB (kr_len K rfl) (by rfl) bl.len PySem.boot_len (pa_cons (pv 3) pa_nil)))
    (pss_cons (ps_if (pt_not (pt_val (pe_callD d_l_one hr (by rfl) (passes_call (takes_of rfl rfl rfl rfl) (fun _ _ _ _ h => h)) (pa_cons (pv 2) (pa_cons (pv 3) (pa_cons (pe_ix (kx_tup K rfl) (pv 7) pe_int (fun _ _ => rfl)) (pa_cons (pe_ix (kx_tup K rfl) (pv 7) pe_int (fun _ _ => rfl)) (pa_cons (pe_ix (kx_tup K rfl) (pv 1) pe_int (fun _ _ => rfl)) (pa_cons (pv 4) pa_nil))))))))) (pss_one (ps_ret pe_bl)) pss_nil)
    (pss_one (ps_set (i := 4) sc_law.nd rfl (Or.inl rfl) (pe_op op_sub (pe_op op_add (pv 4) (pe_callB (kr_len K rfl) (by rfl) bl.len PySem.boot_len (pa_cons (pv 3) pa_nil))) (pv 8)))))))
    (pss_one (ps_if (pt_not (pt_val (pe_callD d_l_good hr (by rfl) (passes_call (takes_of rfl rfl rfl rfl) (fun _ _ _ _ h => h)) (pa_cons (pe_methD0 m_calls h_Hall.cl hr (passes_call (takes_of rfl rfl rfl rfl) (fun _ _ _ _ h => h)) (pv 2)) (pa_cons (pv 3) (pa_cons (pe_ix (kx_tup K rfl) (pv 1) pe_int (fun _ _ => rfl)) pa_nil)))))) (pss_one (ps_ret pe_bl)) pss_nil)))))
    (pss_cons (ps_for (passes_of rfl) rfl (kp_list K rfl (pv 3)) (pg_name (i := 6) sc_law.nd rfl (Or.inl rfl))
    (pss_one (ps_if (pt_cmpR (ko_neD K rfl hr) (pe_tup (pa_cons (pe_methD m_load_in h_Hall.cl hr (passes_call (takes_of rfl rfl rfl rfl) (fun _ _ _ _ h => h)) (pv 2) (pa_cons (pe_ix (kx_tup K rfl) (pv 6) pe_int (fun _ _ => rfl)) pa_nil)) (pa_cons (pe_methD m_load_out h_Hall.cl hr (passes_call (takes_of rfl rfl rfl rfl) (fun _ _ _ _ h => h)) (pv 2) (pa_cons (pe_ix (kx_tup K rfl) (pv 6) pe_int (fun _ _ => rfl)) pa_nil)) pa_nil))) (pe_callD d_l_loads hr (by rfl) (passes_call (takes_of rfl rfl rfl rfl) (fun _ _ _ _ h => h)) (pa_cons (pv 3) (pa_cons (pe_ix (kx_tup K rfl) (pv 6) pe_int (fun _ _ => rfl)) (pa_cons (pe_ix (kx_tup K rfl) (pv 6) pe_int (fun _ _ => rfl)) pa_nil)))) (nomark _)) (pss_one (ps_ret pe_bl)) pss_nil)))
    (pss_one (ps_ret pe_bl)))))))), fun B s Q hp h1 h2 => by
    have hp : s.cells.length ≤ 63 := hp
    show Goes ⟨K, B, H⟩ [.im rpScr s, .un, .un, .un, .un, .un, .un, .un, .un] _
    obtain ⟨⟨z1, z2⟩, ⟨z3, z4⟩, z5, z6⟩ := smS_b s
    generalize hz : smS s = z at z1 z2 z3 z4 z5 z6
    refine g_any 5 (g_any 7 (g_any 8 ?_))
    refine q_asg (r := rpSz) (a := z) (EvD.is (ev_call (x := s) (ea_cons (ev_var rfl) ea_nil) trivial rfl) hz) ?_
    have hok : sizesOk (D.int z.a, D.int z.b, D.int z.c) = true := by
      show (within _ _ _ && (within _ _ _ && within _ _ _)) = true
      unfold within
      simp only [Bool.and_eq_true, decide_eq_true_eq]
      omega
    refine q_asgO (α := HD C) (a := newHall C z.a z.b z.c) (ev_makeO (x := (D.int z.a, D.int z.b, D.int z.c)) new_hd (ea_cons (EvD.toD (α := Int) (a := z.a) (ev_t3a (ev_var rfl))) (ea_cons (EvD.toD (α := Int) (a := z.b) (ev_t3b (ev_var rfl))) (ea_cons (EvD.toD (α := Int) (a := z.c) (ev_t3c (ev_var rfl))) ea_nil))) rfl (by unfold initE; dsimp only; rw [hok]; rfl)) fun v => ?_
    refine q_asgN (r := rpSz) (xs := []) (ev_lst el_nil (show (0 : Nat) ≤ 100000 by decide)) ?_
    refine q_asg (a := 0) ev_int ?_
    have hgl := goes_len s
    have J0 : In2 C z 0 (newHall C z.a z.b z.c) [] := ⟨new_ok ⟨z1, z2⟩ ⟨z3, z4⟩ ⟨z5, z6⟩, Nat.le_refl 0, by show ((noneRows z.a z.c).length : Int) = z.a; rw [none_len]; omega, by show ((noneRows z.b z.c).length : Int) = z.b; rw [none_len]; omega, rfl, rfl⟩
    refine q_for (xs := goesL s) (fun i T => ∃ x l, In2 C z i x l ∧ T = [.im rpScr s, .im rpSz z, .ow (owV v (oxHD (C := C))) x, .ow (@owML (T3 Int Int Int) rpSz) ⟨l⟩, .im rpInt x.given, .any, .un, .any, .any]) (ei_list (EvN.d (ev_callN (x := s) (b := goesL s) (ea_cons (ev_var rfl) ea_nil) hp rfl))) ⟨_, _, J0, rfl⟩ (fun B1 up i c T hi hI => ?_) (fun T hI => ?_)
    · obtain ⟨x, l, J, rfl⟩ := hI
      have hi60 : i < 60 := by
        have := (List.getElem?_eq_some_iff.mp hi).1
        omega
      have hle := J.le
      have hll := J.len
      refine ⟨_, eg_name, ?_⟩
      generalize hde : deedL ⟨c, z, l.map fun q => q.a⟩ = de
      refine q_asg (r := @rpTL D rpD) (a := de) (EvD.is (ev_call (x := ⟨c, z, l.map fun q => q.a⟩) (ea_cons (ev_var rfl) (ea_cons (ev_var rfl) (ea_cons (EvN.d (ev_lsN (j := 3) rfl fun u => ev_lcFA (fun q : T3 Int Int Int => q.a) (ej_ls (j := 3) rfl) rfl (own_name (by decide)) (fun q hq => ⟨_, eg_name, ev_t3a (ev_var rfl)⟩) (by show l.length ≤ _; omega))) ea_nil))) ⟨show 0 < z.a by omega, show 0 < z.b by omega⟩ rfl) hde) ?_
      cases hd : isDrop ⟨c, z, l.map fun q => q.a⟩ with
      | true =>
        have hm := drop_mem hd
        generalize hnn : dropN ⟨c, z, l.map fun q => q.a⟩ = n at hm
        have hm : n ∈ l.map fun q => q.a := hm
        rw [J.keys] at hm
        obtain ⟨t, ht⟩ := look_mem hm
        have hkg := J.ok.kg n t ht
        have J2 := J.drop ht
        have hl2 := J2.len
        have hle2 := J2.le
        have e1 : de = ⟨[.str (Str.ofString "drop"), .int n]⟩ := by rw [← hde]; unfold deedL; rw [hd, if_pos rfl, hnn]
        subst e1
        have hn7 : ∀ {G : Cn} {T : List Ty}, T[7]? = some (.im (@rpTL D rpD) ⟨[.str (Str.ofString "drop"), .int n]⟩) → EvD G (tOp (rIxT G.K) (tVar 7) (tC (.int 1))) T rpInt n := fun h => EvD.ofD (α := Int) (a := n) (ev_ixT (ev_var h) ev_int (atI_toNat (show (0 : Int) ≤ 1 by decide) rfl))
        refine q_ifJ (b := true) (T' := [.im rpScr s, .im rpSz z, .ow (owV v (oxHD (C := C))) (dropT x n t), .ow (@owML (T3 Int Int Int) rpSz) ⟨l.filter fun c => !decide (c.a = n)⟩, .im rpInt x.given, .any, .un, .any, .any]) (EvT.is (et_test (ev_eqS (EvD.ofD (α := Str) (a := Str.ofString "drop") (ev_ixT (ev_var rfl) ev_int (atI_toNat (Int.le_refl 0) rfl))) ev_str)) (decide_eq_true rfl)) (fun _ next => ?_) (fun z => by cases z) ?_
        · refine q_dropM (ev_methM (j := 2) (x := D.int n) (y := t.c) (a' := dropT x n t) rfl (insHD fn_drop) (ea_cons (ev_ixT (a := D.int n) (ev_var rfl) ev_int (atI_toNat (show (0 : Int) ≤ 1 by decide) rfl)) ea_nil) J.ok ?_) ?_
          · unfold dropE
            dsimp only
            rw [show (within (.int n) 0 x.given && (lookI (D.int n).toI x.ends).isSome) = true by
              rw [show (D.int n).toI = n from rfl, ht]
              show ((decide (0 ≤ n) && decide (n ≤ x.given)) && true) = true
              rw [decide_eq_true hkg.1, decide_eq_true (Int.le_of_lt hkg.2)]
              rfl, if_pos rfl, show (D.int n).toI = n from rfl, end_at ht]
          · refine g_asgN (r := rpSz) (xs := (l.filter fun c => !decide (c.a = n)).map fun c => c) (ev_lsN (j := 3) rfl fun u => ev_lcF (fun c : T3 Int Int Int => !decide (c.a = n)) (fun c => c) (ej_ls (j := 3) rfl) rfl (own_name (by decide)) (fun c hc => ⟨_, eg_name, et_test (ev_neI (ev_t3a (ev_var rfl)) (hn7 rfl)), fun _ => ev_var rfl⟩) (by show l.length ≤ _; omega)) ?_
            rw [List.map_id']
            exact g_any 5 (g_any 7 (g_any 8 next))
        · refine g_when (b := false) (EvT.is (et_not (et_B (EvH.d (ev_callHH (x := ⟨callsL (dropT x n t).ends, _, z.c⟩) (b := true) (eah_cons (EvD.h (ev_methR (x := ()) (y := callsL (dropT x n t).ends) rfl (insHD fn_calls) ea_nil ⟨J2.ok.sh.n, by dsimp only; omega⟩ rfl)) (eah_cons (ev_varMH rfl) (eah_cons (EvD.h (ev_t3c (ev_var rfl))) eah_nil))) (J2.good (by omega)) rfl)))) rfl) (fun z => by cases z) (fun _ => ?_)
          exact g_at ⟨_, _, J2, rfl⟩
      | false =>
        have ma := mix_b c 10007 z.a (by omega)
        have mb := mix_b c 9949 z.b (by omega)
        have e1 : de = ⟨[.str (Str.ofString "put"), .int (mix c 10007 z.a), .int (mix c 9949 z.b)]⟩ := by rw [← hde]; unfold deedL; rw [hd, if_neg (by decide)]
        generalize mix c 10007 z.a = ia at ma e1
        generalize mix c 9949 z.b = ob at mb e1
        subst e1
        have hli := J.li
        have hlo := J.lo
        have hi7 : ∀ {G : Cn} {T : List Ty}, T[7]? = some (.im (@rpTL D rpD) ⟨[.str (Str.ofString "put"), .int ia, .int ob]⟩) → EvD G (tOp (rIxT G.K) (tVar 7) (tC (.int 1))) T rpInt ia := fun h => EvD.ofD (α := Int) (a := ia) (ev_ixT (ev_var h) ev_int (atI_toNat (show (0 : Int) ≤ 1 by decide) rfl))
        have ho7 : ∀ {G : Cn} {T : List Ty}, T[7]? = some (.im (@rpTL D rpD) ⟨[.str (Str.ofString "put"), .int ia, .int ob]⟩) → EvD G (tOp (rIxT G.K) (tVar 7) (tC (.int 2))) T rpInt ob := fun h => EvD.ofD (α := Int) (a := ob) (ev_ixT (ev_var h) ev_int (atI_toNat (show (0 : Int) ≤ 2 by decide) rfl))
        obtain ⟨x', l', hF, J2, hg⟩ := J.one ma mb
        have hl2 := J2.len
        have hle2 := J2.le
        refine q_ifJ (b := false) (T' := [.im rpScr s, .im rpSz z, .ow (owV v (oxHD (C := C))) x', .ow (@owML (T3 Int Int Int) rpSz) ⟨l'⟩, .im rpInt x'.given, .any, .un, .any, .any]) (EvT.is (et_test (ev_eqS (EvD.ofD (α := Str) (a := Str.ofString "put") (ev_ixT (ev_var rfl) ev_int (atI_toNat (Int.le_refl 0) rfl))) ev_str)) (decide_eq_false (by decide +kernel))) (fun z => by cases z) (fun _ next => ?_) ?_
        · refine q_asg (a := (l.length : Int)) (ev_len (ev_varM rfl)) ?_
          refine q_whenM (b := false) (EvTM.is (et_notM (et_BM (ev_callM2 (j := 2) (i := 3) (x := ⟨ia, ob, z.c, x.given⟩) (y := true) (a' := x') (l' := l') rfl rfl (by decide) (ea_cons (hi7 rfl) (ea_cons (ho7 rfl) (ea_cons (ev_t3c (ev_var rfl)) (ea_cons (ev_var rfl) ea_nil)))) ⟨J.ok, by dsimp only; omega, ma.1, by dsimp only; omega, mb.1, by dsimp only; omega, J.fr.symm, rfl, J.is⟩ hF))) rfl) (fun z => by cases z) (fun _ => ?_)
          refine g_asg (a := x'.given) (EvD.is (ev_opI (ev_opI (ev_var rfl) (ev_len (ev_varM rfl))) (ev_var rfl)) hg.symm) ?_
          exact g_any 5 (g_any 7 (g_any 8 next))
        · refine g_when (b := false) (EvT.is (et_not (et_B (EvH.d (ev_callHH (x := ⟨callsL x'.ends, l', z.c⟩) (b := true) (eah_cons (EvD.h (ev_methR (x := ()) (y := callsL x'.ends) rfl (insHD fn_calls) ea_nil ⟨J2.ok.sh.n, by dsimp only; omega⟩ rfl)) (eah_cons (ev_varMH rfl) (eah_cons (EvD.h (ev_t3c (ev_var rfl))) eah_nil))) (J2.good (by omega)) rfl)))) rfl) (fun z => by cases z) (fun _ => ?_)
          exact g_at ⟨_, _, J2, rfl⟩
    · obtain ⟨x, l, J, rfl⟩ := hI
      have hll := J.len
      have hle := J.le
      refine g_freeze (i := 3) rfl ?_
      refine g_any 6 ?_
      refine q_for (xs := l) (fun i T => T = [.im rpScr s, .im rpSz z, .ow (owV v (oxHD (C := C))) x, .im (@rpList (T3 Int Int Int) rpSz) l, .im rpInt x.given, .any, .any, .any, .any]) (ei_list (ev_var rfl)) rfl (fun B1 up i c T hi hI => ?_) (fun T hI => ?_)
      · subst hI
        have hc := List.mem_of_getElem? hi
        rw [← J.is] at hc
        obtain ⟨q, hq, rfl⟩ := List.mem_map.mp hc
        obtain ⟨t, ht, e⟩ := (told_mem J.ok).mp hq
        have r1 := J.ok.sh.en _ t ht false
        have r2 := J.ok.sh.en _ t ht true
        have eb : (c3 q).b = t.a := by rw [e]; rfl
        have ec : (c3 q).c = t.b := by rw [e]; rfl
        have hb0 : 0 ≤ (c3 q).b ∧ (c3 q).b < ((rowsOf x false).length : Int) := by rw [eb]; exact ⟨r1.e0, r1.e1⟩
        have hc0 : 0 ≤ (c3 q).c ∧ (c3 q).c < ((rowsOf x true).length : Int) := by rw [ec]; exact ⟨r2.e0, r2.e1⟩
        generalize c3 q = cc at hb0 hc0
        refine ⟨_, eg_name, ?_⟩
        refine g_when (b := false) (EvT.is (et_test (ev_neD (r := @rpPair Int Int rpInt rpInt) (a := (cntB l cc.b, cntC l cc.c)) (b := (cntB l cc.b, cntC l cc.c)) (EvD.h (ev_pair (EvD.is (ev_methS (x := ⟨x, .int cc.b⟩) (ev_varO rfl) (insHD fn_load_in) (eah_cons (EvD.h (EvD.toD (α := Int) (a := cc.b) (ev_t3b (ev_var rfl)))) eah_nil) rfl ⟨J.ok.sh.n, rowsOk_of J.ok false⟩ (load_is J.ok (s := false) hb0.1 hb0.2)) (cnt_in J.is cc.b).symm) (EvD.is (ev_methS (x := ⟨x, .int cc.c⟩) (ev_varO rfl) (insHD fn_load_out) (eah_cons (EvD.h (EvD.toD (α := Int) (a := cc.c) (ev_t3c (ev_var rfl)))) eah_nil) rfl ⟨J.ok.sh.n, rowsOk_of J.ok true⟩ (load_is J.ok (s := true) hc0.1 hc0.2)) (cnt_out J.is cc.c).symm))) (ev_callHH (x := ⟨l, cc.b, cc.c⟩) (b := (cntB l cc.b, cntC l cc.c)) (eah_cons (EvD.h (ev_var rfl)) (eah_cons (EvD.h (ev_t3b (ev_var rfl))) (eah_cons (EvD.h (ev_t3c (ev_var rfl))) eah_nil))) (show l.length ≤ 1000 by have := hgl; omega) rfl))) (by rw [eqvB_self]; rfl)) (fun z => by cases z) (fun _ => ?_)
        exact g_any 6 (g_at rfl)
      · subst hI
        exact g_ret ev_bl (h1 _ rfl)⟩
end
end Law
namespace Law
open PySem PySem.Spec PyProof.Rows L2 DL
theorem all_mk {l : PySem.W.OpenLaw} {w : World} {K : PySem.W.Frag} {h : Heap} {mg : Str → Option Value} {fa : Addr} (X : K.In h) (G : h.Ns mainGlobals mg) (hfa : mg "law" = some (.ref fa))
    {C_Hall : Addr} (ha : PySem.W.nsIn K mainGlobals "Hall" = some (some (.ref C_Hall))) (hpg : PySem.W.plainGet K C_Hall Str.empty = true) (hhd : PySem.W.hasDictIn K C_Hall = true) (hpo : PySem.W.plainOver K C_Hall = true) (hsa : PySem.W.findIn K (.ref C_Hall) "__setattr__" = some (some (.builtin "object.__setattr__"))) (hmk : PySem.W.makesIn K C_Hall = true) (hkc : PySem.W.keepIn K (.ref C_Hall) = true)
    (n_frames : PySem.W.findIn K (.ref C_Hall) "frames" = some none)
    (n_at_in : PySem.W.findIn K (.ref C_Hall) "at_in" = some none)
    (n_at_out : PySem.W.findIn K (.ref C_Hall) "at_out" = some none)
    (n_ends : PySem.W.findIn K (.ref C_Hall) "ends" = some none)
    (n_given : PySem.W.findIn K (.ref C_Hall) "given" = some none)
    {f0 : Addr} {od0 an0 : Option Addr} {sl0 : Array (Option Value)} {oc0 kV0 dc0 pm0 cd0 ct0 : Value}
    (a0 : PySem.W.nsIn K mainGlobals "is_within" = some (some (.ref f0)))
    (l0 : K.lookup f0 = some ⟨oc0, od0, .func (PySem.W.fnOf "is_within" "is_within" (defArgs s_is_within) (defBody s_is_within) (defScope s_is_within) .none kV0 dc0 pm0 an0 cd0 ct0), sl0⟩) (e0 : PySem.W.codeIn K cd0 "is_within" = true) (k0 : PySem.W.keepIn K (.ref f0) = true)
    {f1 : Addr} {od1 an1 : Option Addr} {sl1 : Array (Option Value)} {oc1 kV1 dc1 pm1 cd1 ct1 : Value}
    (a1 : PySem.W.nsIn K mainGlobals "_law_cell" = some (some (.ref f1)))
    (l1 : K.lookup f1 = some ⟨oc1, od1, .func (PySem.W.fnOf "_law_cell" "_law_cell" (defArgs s_l_cell) (defBody s_l_cell) (defScope s_l_cell) .none kV1 dc1 pm1 an1 cd1 ct1), sl1⟩) (e1 : PySem.W.codeIn K cd1 "_law_cell" = true) (k1 : PySem.W.keepIn K (.ref f1) = true)
    {f2 : Addr} {od2 an2 : Option Addr} {sl2 : Array (Option Value)} {oc2 kV2 dc2 pm2 cd2 ct2 : Value}
    (a2 : PySem.W.nsIn K mainGlobals "_law_mix" = some (some (.ref f2)))
    (l2 : K.lookup f2 = some ⟨oc2, od2, .func (PySem.W.fnOf "_law_mix" "_law_mix" (defArgs s_l_mix) (defBody s_l_mix) (defScope s_l_mix) .none kV2 dc2 pm2 an2 cd2 ct2), sl2⟩) (e2 : PySem.W.codeIn K cd2 "_law_mix" = true) (k2 : PySem.W.keepIn K (.ref f2) = true)
    {f3 : Addr} {od3 an3 : Option Addr} {sl3 : Array (Option Value)} {oc3 kV3 dc3 pm3 cd3 ct3 : Value}
    (a3 : PySem.W.nsIn K mainGlobals "_law_whole" = some (some (.ref f3)))
    (l3 : K.lookup f3 = some ⟨oc3, od3, .func (PySem.W.fnOf "_law_whole" "_law_whole" (defArgs s_l_whole) (defBody s_l_whole) (defScope s_l_whole) .none kV3 dc3 pm3 an3 cd3 ct3), sl3⟩) (e3 : PySem.W.codeIn K cd3 "_law_whole" = true) (k3 : PySem.W.keepIn K (.ref f3) = true)
    {f4 : Addr} {od4 an4 : Option Addr} {sl4 : Array (Option Value)} {oc4 kV4 dc4 pm4 cd4 ct4 : Value}
    (a4 : PySem.W.findIn K (.ref C_Hall) "__init__" = some (some (.ref f4))) (i4 : PySem.W.isFn K (.ref f4) = true)
    (l4 : K.lookup f4 = some ⟨oc4, od4, .func (PySem.W.fnOf "__init__" "Hall.__init__" (defArgs s_Hall___init) (defBody s_Hall___init) (defScope s_Hall___init) .none kV4 dc4 pm4 an4 cd4 ct4), sl4⟩) (e4 : PySem.W.codeIn K cd4 "Hall.__init__" = true) (k4 : PySem.W.keepIn K (.ref f4) = true)
    {f5 : Addr} {od5 an5 : Option Addr} {sl5 : Array (Option Value)} {oc5 kV5 dc5 pm5 cd5 ct5 : Value}
    (a5 : PySem.W.findIn K (.ref C_Hall) "look_end" = some (some (.ref f5))) (i5 : PySem.W.isFn K (.ref f5) = true)
    (l5 : K.lookup f5 = some ⟨oc5, od5, .func (PySem.W.fnOf "look_end" "Hall.look_end" (defArgs s_Hall_look_end) (defBody s_Hall_look_end) (defScope s_Hall_look_end) .none kV5 dc5 pm5 an5 cd5 ct5), sl5⟩) (e5 : PySem.W.codeIn K cd5 "Hall.look_end" = true) (k5 : PySem.W.keepIn K (.ref f5) = true)
    {f6 : Addr} {od6 an6 : Option Addr} {sl6 : Array (Option Value)} {oc6 kV6 dc6 pm6 cd6 ct6 : Value}
    (a6 : PySem.W.findIn K (.ref C_Hall) "load" = some (some (.ref f6))) (i6 : PySem.W.isFn K (.ref f6) = true)
    (l6 : K.lookup f6 = some ⟨oc6, od6, .func (PySem.W.fnOf "load" "Hall.load" (defArgs s_Hall_load) (defBody s_Hall_load) (defScope s_Hall_load) .none kV6 dc6 pm6 an6 cd6 ct6), sl6⟩) (e6 : PySem.W.codeIn K cd6 "Hall.load" = true) (k6 : PySem.W.keepIn K (.ref f6) = true)
    {f7 : Addr} {od7 an7 : Option Addr} {sl7 : Array (Option Value)} {oc7 kV7 dc7 pm7 cd7 ct7 : Value}
    (a7 : PySem.W.findIn K (.ref C_Hall) "load_in" = some (some (.ref f7))) (i7 : PySem.W.isFn K (.ref f7) = true)
    (l7 : K.lookup f7 = some ⟨oc7, od7, .func (PySem.W.fnOf "load_in" "Hall.load_in" (defArgs s_Hall_load_in) (defBody s_Hall_load_in) (defScope s_Hall_load_in) .none kV7 dc7 pm7 an7 cd7 ct7), sl7⟩) (e7 : PySem.W.codeIn K cd7 "Hall.load_in" = true) (k7 : PySem.W.keepIn K (.ref f7) = true)
    {f8 : Addr} {od8 an8 : Option Addr} {sl8 : Array (Option Value)} {oc8 kV8 dc8 pm8 cd8 ct8 : Value}
    (a8 : PySem.W.findIn K (.ref C_Hall) "load_out" = some (some (.ref f8))) (i8 : PySem.W.isFn K (.ref f8) = true)
    (l8 : K.lookup f8 = some ⟨oc8, od8, .func (PySem.W.fnOf "load_out" "Hall.load_out" (defArgs s_Hall_load_out) (defBody s_Hall_load_out) (defScope s_Hall_load_out) .none kV8 dc8 pm8 an8 cd8 ct8), sl8⟩) (e8 : PySem.W.codeIn K cd8 "Hall.load_out" = true) (k8 : PySem.W.keepIn K (.ref f8) = true)
    {f9 : Addr} {od9 an9 : Option Addr} {sl9 : Array (Option Value)} {oc9 kV9 dc9 pm9 cd9 ct9 : Value}
    (a9 : PySem.W.findIn K (.ref C_Hall) "calls" = some (some (.ref f9))) (i9 : PySem.W.isFn K (.ref f9) = true)
    (l9 : K.lookup f9 = some ⟨oc9, od9, .func (PySem.W.fnOf "calls" "Hall.calls" (defArgs s_Hall_calls) (defBody s_Hall_calls) (defScope s_Hall_calls) .none kV9 dc9 pm9 an9 cd9 ct9), sl9⟩) (e9 : PySem.W.codeIn K cd9 "Hall.calls" = true) (k9 : PySem.W.keepIn K (.ref f9) = true)
    {f10 : Addr} {od10 an10 : Option Addr} {sl10 : Array (Option Value)} {oc10 kV10 dc10 pm10 cd10 ct10 : Value}
    (a10 : PySem.W.findIn K (.ref C_Hall) "free" = some (some (.ref f10))) (i10 : PySem.W.isFn K (.ref f10) = true)
    (l10 : K.lookup f10 = some ⟨oc10, od10, .func (PySem.W.fnOf "free" "Hall.free" (defArgs s_Hall_free) (defBody s_Hall_free) (defScope s_Hall_free) .none kV10 dc10 pm10 an10 cd10 ct10), sl10⟩) (e10 : PySem.W.codeIn K cd10 "Hall.free" = true) (k10 : PySem.W.keepIn K (.ref f10) = true)
    {f11 : Addr} {od11 an11 : Option Addr} {sl11 : Array (Option Value)} {oc11 kV11 dc11 pm11 cd11 ct11 : Value}
    (a11 : PySem.W.findIn K (.ref C_Hall) "chain" = some (some (.ref f11))) (i11 : PySem.W.isFn K (.ref f11) = true)
    (l11 : K.lookup f11 = some ⟨oc11, od11, .func (PySem.W.fnOf "chain" "Hall.chain" (defArgs s_Hall_chain) (defBody s_Hall_chain) (defScope s_Hall_chain) .none kV11 dc11 pm11 an11 cd11 ct11), sl11⟩) (e11 : PySem.W.codeIn K cd11 "Hall.chain" = true) (k11 : PySem.W.keepIn K (.ref f11) = true)
    {f12 : Addr} {od12 an12 : Option Addr} {sl12 : Array (Option Value)} {oc12 kV12 dc12 pm12 cd12 ct12 : Value}
    (a12 : PySem.W.findIn K (.ref C_Hall) "lift" = some (some (.ref f12))) (i12 : PySem.W.isFn K (.ref f12) = true)
    (l12 : K.lookup f12 = some ⟨oc12, od12, .func (PySem.W.fnOf "lift" "Hall.lift" (defArgs s_Hall_lift) (defBody s_Hall_lift) (defScope s_Hall_lift) .none kV12 dc12 pm12 an12 cd12 ct12), sl12⟩) (e12 : PySem.W.codeIn K cd12 "Hall.lift" = true) (k12 : PySem.W.keepIn K (.ref f12) = true)
    {f13 : Addr} {od13 an13 : Option Addr} {sl13 : Array (Option Value)} {oc13 kV13 dc13 pm13 cd13 ct13 : Value}
    (a13 : PySem.W.findIn K (.ref C_Hall) "lay" = some (some (.ref f13))) (i13 : PySem.W.isFn K (.ref f13) = true)
    (l13 : K.lookup f13 = some ⟨oc13, od13, .func (PySem.W.fnOf "lay" "Hall.lay" (defArgs s_Hall_lay) (defBody s_Hall_lay) (defScope s_Hall_lay) .none kV13 dc13 pm13 an13 cd13 ct13), sl13⟩) (e13 : PySem.W.codeIn K cd13 "Hall.lay" = true) (k13 : PySem.W.keepIn K (.ref f13) = true)
    {f14 : Addr} {od14 an14 : Option Addr} {sl14 : Array (Option Value)} {oc14 kV14 dc14 pm14 cd14 ct14 : Value}
    (a14 : PySem.W.findIn K (.ref C_Hall) "swap" = some (some (.ref f14))) (i14 : PySem.W.isFn K (.ref f14) = true)
    (l14 : K.lookup f14 = some ⟨oc14, od14, .func (PySem.W.fnOf "swap" "Hall.swap" (defArgs s_Hall_swap) (defBody s_Hall_swap) (defScope s_Hall_swap) .none kV14 dc14 pm14 an14 cd14 ct14), sl14⟩) (e14 : PySem.W.codeIn K cd14 "Hall.swap" = true) (k14 : PySem.W.keepIn K (.ref f14) = true)
    {f15 : Addr} {od15 an15 : Option Addr} {sl15 : Array (Option Value)} {oc15 kV15 dc15 pm15 cd15 ct15 : Value}
    (a15 : PySem.W.findIn K (.ref C_Hall) "put" = some (some (.ref f15))) (i15 : PySem.W.isFn K (.ref f15) = true)
    (l15 : K.lookup f15 = some ⟨oc15, od15, .func (PySem.W.fnOf "put" "Hall.put" (defArgs s_Hall_put) (defBody s_Hall_put) (defScope s_Hall_put) .none kV15 dc15 pm15 an15 cd15 ct15), sl15⟩) (e15 : PySem.W.codeIn K cd15 "Hall.put" = true) (k15 : PySem.W.keepIn K (.ref f15) = true)
    {f16 : Addr} {od16 an16 : Option Addr} {sl16 : Array (Option Value)} {oc16 kV16 dc16 pm16 cd16 ct16 : Value}
    (a16 : PySem.W.findIn K (.ref C_Hall) "drop" = some (some (.ref f16))) (i16 : PySem.W.isFn K (.ref f16) = true)
    (l16 : K.lookup f16 = some ⟨oc16, od16, .func (PySem.W.fnOf "drop" "Hall.drop" (defArgs s_Hall_drop) (defBody s_Hall_drop) (defScope s_Hall_drop) .none kV16 dc16 pm16 an16 cd16 ct16), sl16⟩) (e16 : PySem.W.codeIn K cd16 "Hall.drop" = true) (k16 : PySem.W.keepIn K (.ref f16) = true)
    {f17 : Addr} {od17 an17 : Option Addr} {sl17 : Array (Option Value)} {oc17 kV17 dc17 pm17 cd17 ct17 : Value}
    (a17 : PySem.W.nsIn K mainGlobals "_law_sizes" = some (some (.ref f17)))
    (l17 : K.lookup f17 = some ⟨oc17, od17, .func (PySem.W.fnOf "_law_sizes" "_law_sizes" (defArgs s_l_sizes) (defBody s_l_sizes) (defScope s_l_sizes) .none kV17 dc17 pm17 an17 cd17 ct17), sl17⟩) (e17 : PySem.W.codeIn K cd17 "_law_sizes" = true) (k17 : PySem.W.keepIn K (.ref f17) = true)
    {f18 : Addr} {od18 an18 : Option Addr} {sl18 : Array (Option Value)} {oc18 kV18 dc18 pm18 cd18 ct18 : Value}
    (a18 : PySem.W.nsIn K mainGlobals "_law_large" = some (some (.ref f18)))
    (l18 : K.lookup f18 = some ⟨oc18, od18, .func (PySem.W.fnOf "_law_large" "_law_large" (defArgs s_l_large) (defBody s_l_large) (defScope s_l_large) .none kV18 dc18 pm18 an18 cd18 ct18), sl18⟩) (e18 : PySem.W.codeIn K cd18 "_law_large" = true) (k18 : PySem.W.keepIn K (.ref f18) = true)
    {f19 : Addr} {od19 an19 : Option Addr} {sl19 : Array (Option Value)} {oc19 kV19 dc19 pm19 cd19 ct19 : Value}
    (a19 : PySem.W.nsIn K mainGlobals "_law_small" = some (some (.ref f19)))
    (l19 : K.lookup f19 = some ⟨oc19, od19, .func (PySem.W.fnOf "_law_small" "_law_small" (defArgs s_l_small) (defBody s_l_small) (defScope s_l_small) .none kV19 dc19 pm19 an19 cd19 ct19), sl19⟩) (e19 : PySem.W.codeIn K cd19 "_law_small" = true) (k19 : PySem.W.keepIn K (.ref f19) = true)
    {f20 : Addr} {od20 an20 : Option Addr} {sl20 : Array (Option Value)} {oc20 kV20 dc20 pm20 cd20 ct20 : Value}
    (a20 : PySem.W.nsIn K mainGlobals "_law_goes" = some (some (.ref f20)))
    (l20 : K.lookup f20 = some ⟨oc20, od20, .func (PySem.W.fnOf "_law_goes" "_law_goes" (defArgs s_l_goes) (defBody s_l_goes) (defScope s_l_goes) .none kV20 dc20 pm20 an20 cd20 ct20), sl20⟩) (e20 : PySem.W.codeIn K cd20 "_law_goes" = true) (k20 : PySem.W.keepIn K (.ref f20) = true)
    {f21 : Addr} {od21 an21 : Option Addr} {sl21 : Array (Option Value)} {oc21 kV21 dc21 pm21 cd21 ct21 : Value}
    (a21 : PySem.W.nsIn K mainGlobals "_law_deed" = some (some (.ref f21)))
    (l21 : K.lookup f21 = some ⟨oc21, od21, .func (PySem.W.fnOf "_law_deed" "_law_deed" (defArgs s_l_deed) (defBody s_l_deed) (defScope s_l_deed) .none kV21 dc21 pm21 an21 cd21 ct21), sl21⟩) (e21 : PySem.W.codeIn K cd21 "_law_deed" = true) (k21 : PySem.W.keepIn K (.ref f21) = true)
    {f22 : Addr} {od22 an22 : Option Addr} {sl22 : Array (Option Value)} {oc22 kV22 dc22 pm22 cd22 ct22 : Value}
    (a22 : PySem.W.nsIn K mainGlobals "_law_put" = some (some (.ref f22)))
    (l22 : K.lookup f22 = some ⟨oc22, od22, .func (PySem.W.fnOf "_law_put" "_law_put" (defArgs s_l_put) (defBody s_l_put) (defScope s_l_put) .none kV22 dc22 pm22 an22 cd22 ct22), sl22⟩) (e22 : PySem.W.codeIn K cd22 "_law_put" = true) (k22 : PySem.W.keepIn K (.ref f22) = true)
    {f23 : Addr} {od23 an23 : Option Addr} {sl23 : Array (Option Value)} {oc23 kV23 dc23 pm23 cd23 ct23 : Value}
    (a23 : PySem.W.nsIn K mainGlobals "_law_loads" = some (some (.ref f23)))
    (l23 : K.lookup f23 = some ⟨oc23, od23, .func (PySem.W.fnOf "_law_loads" "_law_loads" (defArgs s_l_loads) (defBody s_l_loads) (defScope s_l_loads) .none kV23 dc23 pm23 an23 cd23 ct23), sl23⟩) (e23 : PySem.W.codeIn K cd23 "_law_loads" = true) (k23 : PySem.W.keepIn K (.ref f23) = true)
    {f24 : Addr} {od24 an24 : Option Addr} {sl24 : Array (Option Value)} {oc24 kV24 dc24 pm24 cd24 ct24 : Value}
    (a24 : PySem.W.nsIn K mainGlobals "_law_good" = some (some (.ref f24)))
    (l24 : K.lookup f24 = some ⟨oc24, od24, .func (PySem.W.fnOf "_law_good" "_law_good" (defArgs s_l_good) (defBody s_l_good) (defScope s_l_good) .none kV24 dc24 pm24 an24 cd24 ct24), sl24⟩) (e24 : PySem.W.codeIn K cd24 "_law_good" = true) (k24 : PySem.W.keepIn K (.ref f24) = true)
    {f25 : Addr} {od25 an25 : Option Addr} {sl25 : Array (Option Value)} {oc25 kV25 dc25 pm25 cd25 ct25 : Value}
    (a25 : PySem.W.nsIn K mainGlobals "_law_one" = some (some (.ref f25)))
    (l25 : K.lookup f25 = some ⟨oc25, od25, .func (PySem.W.fnOf "_law_one" "_law_one" (defArgs s_l_one) (defBody s_l_one) (defScope s_l_one) .none kV25 dc25 pm25 an25 cd25 ct25), sl25⟩) (e25 : PySem.W.codeIn K cd25 "_law_one" = true) (k25 : PySem.W.keepIn K (.ref f25) = true)
    {f26 : Addr} {od26 an26 : Option Addr} {sl26 : Array (Option Value)} {oc26 kV26 dc26 pm26 cd26 ct26 : Value}
    (a26 : PySem.W.nsIn K mainGlobals "law" = some (some (.ref f26)))
    (l26 : K.lookup f26 = some ⟨oc26, od26, .func (PySem.W.fnOf "law" "law" (defArgs s_law) (defBody s_law) (defScope s_law) .none kV26 dc26 pm26 an26 cd26 ct26), sl26⟩) (e26 : PySem.W.codeIn K cd26 "law" = true) (k26 : PySem.W.keepIn K (.ref f26) = true)
    {C_BadHall : Addr} (ca_BadHall : PySem.W.nsIn K mainGlobals "BadHall" = some (some (.ref C_BadHall))) (ce_BadHall : PySem.W.excIn K C_BadHall [.type "ValueError", .type "Exception", .type "BaseException", .type "object"] "ValueError.__new__" = true) (ck_BadHall : PySem.W.keepIn K (.ref C_BadHall) = true) (cs_BadHall : PySem.W.subIn K (.ref C_BadHall) (.type "BaseException") = some true) (ct_BadHall : PySem.W.typeIn K (.ref C_BadHall) = some (.type "type")) (cd_BadHall : PySem.W.hasDictIn K C_BadHall = true) (cf_BadHall : PySem.W.subIn K (.ref C_BadHall) (.ref C_BadHall) = some true)
    {C_NoEnd : Addr} (ca_NoEnd : PySem.W.nsIn K mainGlobals "NoEnd" = some (some (.ref C_NoEnd))) (ce_NoEnd : PySem.W.excIn K C_NoEnd [.type "ValueError", .type "Exception", .type "BaseException", .type "object"] "ValueError.__new__" = true) (ck_NoEnd : PySem.W.keepIn K (.ref C_NoEnd) = true) (cs_NoEnd : PySem.W.subIn K (.ref C_NoEnd) (.type "BaseException") = some true) (ct_NoEnd : PySem.W.typeIn K (.ref C_NoEnd) = some (.type "type")) (cd_NoEnd : PySem.W.hasDictIn K C_NoEnd = true) (cf_NoEnd : PySem.W.subIn K (.ref C_NoEnd) (.ref C_NoEnd) = some true)
    {C_Busy : Addr} (ca_Busy : PySem.W.nsIn K mainGlobals "Busy" = some (some (.ref C_Busy))) (ce_Busy : PySem.W.excIn K C_Busy [.type "ValueError", .type "Exception", .type "BaseException", .type "object"] "ValueError.__new__" = true) (ck_Busy : PySem.W.keepIn K (.ref C_Busy) = true) (cs_Busy : PySem.W.subIn K (.ref C_Busy) (.type "BaseException") = some true) (ct_Busy : PySem.W.typeIn K (.ref C_Busy) = some (.type "type")) (cd_Busy : PySem.W.hasDictIn K C_Busy = true) (cf_Busy : PySem.W.subIn K (.ref C_Busy) (.ref C_Busy) = some true)
    {C_NoCall : Addr} (ca_NoCall : PySem.W.nsIn K mainGlobals "NoCall" = some (some (.ref C_NoCall))) (ce_NoCall : PySem.W.excIn K C_NoCall [.type "ValueError", .type "Exception", .type "BaseException", .type "object"] "ValueError.__new__" = true) (ck_NoCall : PySem.W.keepIn K (.ref C_NoCall) = true) (cs_NoCall : PySem.W.subIn K (.ref C_NoCall) (.type "BaseException") = some true) (ct_NoCall : PySem.W.typeIn K (.ref C_NoCall) = some (.type "type")) (cd_NoCall : PySem.W.hasDictIn K C_NoCall = true) (cf_NoCall : PySem.W.subIn K (.ref C_NoCall) (.ref C_NoCall) = some true)
    (z_isinstance : PySem.W.nsIn K mainGlobals "isinstance" = some none)
    (z_len : PySem.W.nsIn K mainGlobals "len" = some none)
    (z_range : PySem.W.nsIn K mainGlobals "range" = some none)
    (z_sorted : PySem.W.nsIn K mainGlobals "sorted" = some none)
    (z_enumerate : PySem.W.nsIn K mainGlobals "enumerate" = some none)
    (z_zip : PySem.W.nsIn K mainGlobals "zip" = some none)
    (z_sum : PySem.W.nsIn K mainGlobals "sum" = some none)
    (z_min : PySem.W.nsIn K mainGlobals "min" = some none)
    (z_max : PySem.W.nsIn K mainGlobals "max" = some none)
    (z_int : PySem.W.nsIn K mainGlobals "int" = some none)
    (z_bool : PySem.W.nsIn K mainGlobals "bool" = some none)
    (z_list : PySem.W.nsIn K mainGlobals "list" = some none)
    (z_tuple : PySem.W.nsIn K mainGlobals "tuple" = some none)
    (z_str : PySem.W.nsIn K mainGlobals "str" = some none)
    (z_set : PySem.W.nsIn K mainGlobals "set" = some none)
    (z_ValueError : PySem.W.nsIn K mainGlobals "ValueError" = some none)
    : ∃ fd : FuncData, (∀ (s : Shared) (v : Value), BindsTo s fd ⟨[v], []⟩ [("_law_script", v)]) ∧ ∀ base : Heap, K.In base → base.Ns mainGlobals mg → FnOk l.prog w K mg base (L2.CX l.prog w) 6 fa fd ["_law_script"] (SpLaw K) := by
  have e := hfa.symm.trans (PySem.W.mg_of X G a26)
  cases e
  have bl : Blt mg := ⟨PySem.W.mg_none_of X G z_isinstance, PySem.W.mg_none_of X G z_len, PySem.W.mg_none_of X G z_range, PySem.W.mg_none_of X G z_sorted, PySem.W.mg_none_of X G z_enumerate, PySem.W.mg_none_of X G z_zip, PySem.W.mg_none_of X G z_sum, PySem.W.mg_none_of X G z_min, PySem.W.mg_none_of X G z_max, PySem.W.mg_none_of X G z_int, PySem.W.mg_none_of X G z_bool, PySem.W.mg_none_of X G z_list, PySem.W.mg_none_of X G z_tuple, PySem.W.mg_none_of X G z_str, PySem.W.mg_none_of X G z_set, PySem.W.mg_none_of X G z_ValueError⟩
  have c_BadHall := ecls_mk X G ca_BadHall ce_BadHall ck_BadHall cs_BadHall ct_BadHall cd_BadHall cf_BadHall
  have c_NoEnd := ecls_mk X G ca_NoEnd ce_NoEnd ck_NoEnd cs_NoEnd ct_NoEnd cd_NoEnd cf_NoEnd
  have c_Busy := ecls_mk X G ca_Busy ce_Busy ck_Busy cs_Busy ct_Busy cd_Busy cf_Busy
  have c_NoCall := ecls_mk X G ca_NoCall ce_NoCall ck_NoCall cs_NoCall ct_NoCall cd_NoCall cf_NoCall
  have h_Hall : HCls K C_Hall := ⟨⟨hpg, hhd, hpo, hsa⟩, n_frames, n_at_in, n_at_out, n_ends, n_given⟩
  refine ⟨PySem.W.fnOf "law" "law" (defArgs s_law) (defBody s_law) (defScope s_law) .none kV26 dc26 pm26 an26 cd26 ct26, fun s v => .of_eq rfl, fun base _ _ => ?_⟩
  have d_is_within := ok_is_within (P := l.prog) (w := w) (base := base) (defT_mk (st := s_is_within) X G a0 l0 e0 k0 fun _ _ _ _ _ _ us hl => match us, hl with | [_, _, _], _ => rfl) bl
  have d_l_cell := ok_cell (P := l.prog) (w := w) (base := base) (defT_mk (st := s_l_cell) X G a1 l1 e1 k1 fun _ _ _ _ _ _ us hl => match us, hl with | [_, _], _ => rfl) bl
  have d_l_mix := ok_mix (P := l.prog) (w := w) (base := base) (defT_mk (st := s_l_mix) X G a2 l2 e2 k2 fun _ _ _ _ _ _ us hl => match us, hl with | [_, _, _], _ => rfl)
  have d_l_whole := ok_whole (P := l.prog) (w := w) (base := base) (defT_mk (st := s_l_whole) X G a3 l3 e3 k3 fun _ _ _ _ _ _ us hl => match us, hl with | [_], _ => rfl) bl
  have i_Hall := ok_init (P := l.prog) (w := w) (base := base) (C := C_Hall) (IDefT.mk ⟨f4, _, (fun_mk (st := s_Hall___init) l4 e4 k4), ⟨hmk, a4, i4, hkc⟩, (Fun.binds (fun_mk (st := s_Hall___init) l4 e4 k4) fun _ _ _ _ _ _ us hl => match us, hl with | [_, _, _, _], _ => rfl), PySem.W.mg_of X G ha⟩) bl h_Hall c_BadHall d_is_within
  have m_look_end := ok_look (P := l.prog) (w := w) (base := base) (C := C_Hall) (MDefT.mk ⟨f5, _, (fun_mk (st := s_Hall_look_end) l5 e5 k5), ⟨a5, i5, k5⟩, (Fun.binds (fun_mk (st := s_Hall_look_end) l5 e5 k5) fun _ _ _ _ _ _ us hl => match us, hl with | [_, _, _], _ => rfl)⟩) bl c_NoEnd d_is_within
  have m_load := ok_load (P := l.prog) (w := w) (base := base) (C := C_Hall) (MDefT.mk ⟨f6, _, (fun_mk (st := s_Hall_load) l6 e6 k6), ⟨a6, i6, k6⟩, (Fun.binds (fun_mk (st := s_Hall_load) l6 e6 k6) fun _ _ _ _ _ _ us hl => match us, hl with | [_, _], _ => rfl)⟩) bl
  have m_load_in := ok_load_in (P := l.prog) (w := w) (base := base) (C := C_Hall) (MDefT.mk ⟨f7, _, (fun_mk (st := s_Hall_load_in) l7 e7 k7), ⟨a7, i7, k7⟩, (Fun.binds (fun_mk (st := s_Hall_load_in) l7 e7 k7) fun _ _ _ _ _ _ us hl => match us, hl with | [_, _], _ => rfl)⟩) bl h_Hall m_look_end m_load
  have m_load_out := ok_load_out (P := l.prog) (w := w) (base := base) (C := C_Hall) (MDefT.mk ⟨f8, _, (fun_mk (st := s_Hall_load_out) l8 e8 k8), ⟨a8, i8, k8⟩, (Fun.binds (fun_mk (st := s_Hall_load_out) l8 e8 k8) fun _ _ _ _ _ _ us hl => match us, hl with | [_, _], _ => rfl)⟩) bl h_Hall m_look_end m_load
  have m_calls := ok_calls (P := l.prog) (w := w) (base := base) (C := C_Hall) (MDefT.mk ⟨f9, _, (fun_mk (st := s_Hall_calls) l9 e9 k9), ⟨a9, i9, k9⟩, (Fun.binds (fun_mk (st := s_Hall_calls) l9 e9 k9) fun _ _ _ _ _ _ us hl => match us, hl with | [_], _ => rfl)⟩) bl h_Hall
  have m_free := ok_free (P := l.prog) (w := w) (base := base) (C := C_Hall) (MDefT.mk ⟨f10, _, (fun_mk (st := s_Hall_free) l10 e10 k10), ⟨a10, i10, k10⟩, (Fun.binds (fun_mk (st := s_Hall_free) l10 e10 k10) fun _ _ _ _ _ _ us hl => match us, hl with | [_, _], _ => rfl)⟩) bl h_Hall
  have m_chain := ok_chain (P := l.prog) (w := w) (base := base) (C := C_Hall) (MDefT.mk ⟨f11, _, (fun_mk (st := s_Hall_chain) l11 e11 k11), ⟨a11, i11, k11⟩, (Fun.binds (fun_mk (st := s_Hall_chain) l11 e11 k11) fun _ _ _ _ _ _ us hl => match us, hl with | [_, _, _, _], _ => rfl)⟩) bl h_Hall
  have m_lift := ok_lift (P := l.prog) (w := w) (base := base) (C := C_Hall) (MDefT.mk ⟨f12, _, (fun_mk (st := s_Hall_lift) l12 e12 k12), ⟨a12, i12, k12⟩, (Fun.binds (fun_mk (st := s_Hall_lift) l12 e12 k12) fun _ _ _ _ _ _ us hl => match us, hl with | [_, _], _ => rfl)⟩) bl h_Hall
  have m_lay := ok_lay (P := l.prog) (w := w) (base := base) (C := C_Hall) (MDefT.mk ⟨f13, _, (fun_mk (st := s_Hall_lay) l13 e13 k13), ⟨a13, i13, k13⟩, (Fun.binds (fun_mk (st := s_Hall_lay) l13 e13 k13) fun _ _ _ _ _ _ us hl => match us, hl with | [_, _, _, _, _], _ => rfl)⟩) bl h_Hall
  have m_swap := ok_swap (P := l.prog) (w := w) (base := base) (C := C_Hall) (MDefT.mk ⟨f14, _, (fun_mk (st := s_Hall_swap) l14 e14 k14), ⟨a14, i14, k14⟩, (Fun.binds (fun_mk (st := s_Hall_swap) l14 e14 k14) fun _ _ _ _ _ _ us hl => match us, hl with | [_, _, _, _], _ => rfl)⟩) bl h_Hall m_lift m_lay
  have m_put := ok_put (P := l.prog) (w := w) (base := base) (C := C_Hall) (MDefT.mk ⟨f15, _, (fun_mk (st := s_Hall_put) l15 e15 k15), ⟨a15, i15, k15⟩, (Fun.binds (fun_mk (st := s_Hall_put) l15 e15 k15) fun _ _ _ _ _ _ us hl => match us, hl with | [_, _, _], _ => rfl)⟩) bl h_Hall c_NoEnd c_Busy m_look_end m_free m_chain m_swap m_lay
  have m_drop := ok_drop (P := l.prog) (w := w) (base := base) (C := C_Hall) (MDefT.mk ⟨f16, _, (fun_mk (st := s_Hall_drop) l16 e16 k16), ⟨a16, i16, k16⟩, (Fun.binds (fun_mk (st := s_Hall_drop) l16 e16 k16) fun _ _ _ _ _ _ us hl => match us, hl with | [_, _], _ => rfl)⟩) bl h_Hall c_NoCall d_is_within m_lift
  have d_l_sizes := ok_sizes (P := l.prog) (w := w) (base := base) (defT_mk (st := s_l_sizes) X G a17 l17 e17 k17 fun _ _ _ _ _ _ us hl => match us, hl with | [_], _ => rfl) d_l_cell
  have d_l_large := ok_large (P := l.prog) (w := w) (base := base) (defT_mk (st := s_l_large) X G a18 l18 e18 k18 fun _ _ _ _ _ _ us hl => match us, hl with | [_], _ => rfl) bl d_l_cell d_l_mix
  have d_l_small := ok_small (P := l.prog) (w := w) (base := base) (defT_mk (st := s_l_small) X G a19 l19 e19 k19 fun _ _ _ _ _ _ us hl => match us, hl with | [_], _ => rfl) d_l_cell d_l_sizes
  have d_l_goes := ok_goes (P := l.prog) (w := w) (base := base) (defT_mk (st := s_l_goes) X G a20 l20 e20 k20 fun _ _ _ _ _ _ us hl => match us, hl with | [_], _ => rfl) bl d_l_large
  have d_l_deed := ok_deed (P := l.prog) (w := w) (base := base) (defT_mk (st := s_l_deed) X G a21 l21 e21 k21 fun _ _ _ _ _ _ us hl => match us, hl with | [_, _, _], _ => rfl) bl d_l_mix
  have d_l_put := ok_lput (P := l.prog) (w := w) (base := base) (defT_mk (st := s_l_put) X G a22 l22 e22 k22 fun _ _ _ _ _ _ us hl => match us, hl with | [_, _, _], _ => rfl) h_Hall c_NoEnd c_Busy m_put
  have d_l_loads := ok_loads (P := l.prog) (w := w) (base := base) (defT_mk (st := s_l_loads) X G a23 l23 e23 k23 fun _ _ _ _ _ _ us hl => match us, hl with | [_, _, _], _ => rfl) bl
  have d_l_good := ok_good (P := l.prog) (w := w) (base := base) (defT_mk (st := s_l_good) X G a24 l24 e24 k24 fun _ _ _ _ _ _ us hl => match us, hl with | [_, _, _], _ => rfl) bl d_l_whole
  have d_l_one := ok_one (P := l.prog) (w := w) (base := base) (defT_mk (st := s_l_one) X G a25 l25 e25 k25 fun _ _ _ _ _ _ us hl => match us, hl with | [_, _, _, _, _, _], _ => rfl) bl h_Hall d_l_put d_l_loads d_l_whole m_calls
  exact ok_law (P := l.prog) (w := w) (base := base) (fun_mk (st := s_law) l26 e26 k26) bl h_Hall c_BadHall c_NoCall c_NoEnd d_l_small d_l_goes d_l_deed i_Hall m_calls m_drop m_load_in m_load_out d_l_loads d_l_good d_l_one
end Law
open PySem PySem.W PyProof.Rows
set_option maxHeartbeats 0 in
theorem PySem.Challenge.cw_switchhall_k02_whole_calls_are_put_throu_holds : PySem.Challenge.rw_switchhall_k02_whole_calls_are_put_throu.Holds := by
  w_on; o_law; k_head; (case hw => w_witness2)
  k_fill
  refine L2.walk_of (l := PySem.Challenge.rw_switchhall_k02_whole_calls_are_put_throu) (n := 63) (k := 6) (x := "_law_script") (CX := fun w => L2.CX PySem.Challenge.rw_switchhall_k02_whole_calls_are_put_throu.prog w) (sp := fun w => DL.SpLaw _) rfl (by decide) rfl ⟨rfl, by decide, by decide⟩ (fun w h Y => PySem.W.kIn_of Y) ?F (fun w H a ns hl _ hS => DL.spLaw_of hl hS) (fun w H s e s' h => by obtain ⟨_, _, _, _, _, _, _, _, _, _, _, _, z⟩ := h; exact z)
  case F =>
    intro w mg fa h KX G hmg
    refine' Law.all_mk KX G hmg ?ha ?hpg ?hhd ?hpo ?hsa ?hmk ?hkc ?n_frames ?n_at_in ?n_at_out ?n_ends ?n_given ?a0 ?l0 ?e0 ?k0 ?a1 ?l1 ?e1 ?k1 ?a2 ?l2 ?e2 ?k2 ?a3 ?l3 ?e3 ?k3 ?a4 ?i4 ?l4 ?e4 ?k4 ?a5 ?i5 ?l5 ?e5 ?k5 ?a6 ?i6 ?l6 ?e6 ?k6 ?a7 ?i7 ?l7 ?e7 ?k7 ?a8 ?i8 ?l8 ?e8 ?k8 ?a9 ?i9 ?l9 ?e9 ?k9 ?a10 ?i10 ?l10 ?e10 ?k10 ?a11 ?i11 ?l11 ?e11 ?k11 ?a12 ?i12 ?l12 ?e12 ?k12 ?a13 ?i13 ?l13 ?e13 ?k13 ?a14 ?i14 ?l14 ?e14 ?k14 ?a15 ?i15 ?l15 ?e15 ?k15 ?a16 ?i16 ?l16 ?e16 ?k16 ?a17 ?l17 ?e17 ?k17 ?a18 ?l18 ?e18 ?k18 ?a19 ?l19 ?e19 ?k19 ?a20 ?l20 ?e20 ?k20 ?a21 ?l21 ?e21 ?k21 ?a22 ?l22 ?e22 ?k22 ?a23 ?l23 ?e23 ?k23 ?a24 ?l24 ?e24 ?k24 ?a25 ?l25 ?e25 ?k25 ?a26 ?l26 ?e26 ?k26 ?ca_BadHall ?ce_BadHall ?ck_BadHall ?cs_BadHall ?ct_BadHall ?cd_BadHall ?cf_BadHall ?ca_NoEnd ?ce_NoEnd ?ck_NoEnd ?cs_NoEnd ?ct_NoEnd ?cd_NoEnd ?cf_NoEnd ?ca_Busy ?ce_Busy ?ck_Busy ?cs_Busy ?ct_Busy ?cd_Busy ?cf_Busy ?ca_NoCall ?ce_NoCall ?ck_NoCall ?cs_NoCall ?ct_NoCall ?cd_NoCall ?cf_NoCall ?z_isinstance ?z_len ?z_range ?z_sorted ?z_enumerate ?z_zip ?z_sum ?z_min ?z_max ?z_int ?z_bool ?z_list ?z_tuple ?z_str ?z_set ?z_ValueError
    (case ha => k_is); (case hpg => k_is); (case hhd => k_is); (case hpo => k_is); (case hsa => k_is); (case hmk => k_is); (case hkc => k_is); (case n_frames => k_is); (case n_at_in => k_is); (case n_at_out => k_is); (case n_ends => k_is); (case n_given => k_is); (case a0 => k_is); (case l0 => k_is); (case e0 => k_is); (case k0 => k_is); (case a1 => k_is); (case l1 => k_is); (case e1 => k_is); (case k1 => k_is); (case a2 => k_is); (case l2 => k_is); (case e2 => k_is); (case k2 => k_is); (case a3 => k_is); (case l3 => k_is); (case e3 => k_is); (case k3 => k_is); (case a4 => k_is); (case i4 => k_is); (case l4 => k_is); (case e4 => k_is); (case k4 => k_is); (case a5 => k_is); (case i5 => k_is); (case l5 => k_is); (case e5 => k_is); (case k5 => k_is); (case a6 => k_is); (case i6 => k_is); (case l6 => k_is); (case e6 => k_is); (case k6 => k_is); (case a7 => k_is); (case i7 => k_is); (case l7 => k_is); (case e7 => k_is); (case k7 => k_is); (case a8 => k_is); (case i8 => k_is); (case l8 => k_is); (case e8 => k_is); (case k8 => k_is); (case a9 => k_is); (case i9 => k_is); (case l9 => k_is); (case e9 => k_is); (case k9 => k_is); (case a10 => k_is); (case i10 => k_is); (case l10 => k_is); (case e10 => k_is); (case k10 => k_is); (case a11 => k_is); (case i11 => k_is); (case l11 => k_is); (case e11 => k_is); (case k11 => k_is); (case a12 => k_is); (case i12 => k_is); (case l12 => k_is); (case e12 => k_is); (case k12 => k_is); (case a13 => k_is); (case i13 => k_is); (case l13 => k_is); (case e13 => k_is); (case k13 => k_is); (case a14 => k_is); (case i14 => k_is); (case l14 => k_is); (case e14 => k_is); (case k14 => k_is); (case a15 => k_is); (case i15 => k_is); (case l15 => k_is); (case e15 => k_is); (case k15 => k_is); (case a16 => k_is); (case i16 => k_is); (case l16 => k_is); (case e16 => k_is); (case k16 => k_is); (case a17 => k_is); (case l17 => k_is); (case e17 => k_is); (case k17 => k_is); (case a18 => k_is); (case l18 => k_is); (case e18 => k_is); (case k18 => k_is); (case a19 => k_is); (case l19 => k_is); (case e19 => k_is); (case k19 => k_is); (case a20 => k_is); (case l20 => k_is); (case e20 => k_is); (case k20 => k_is); (case a21 => k_is); (case l21 => k_is); (case e21 => k_is); (case k21 => k_is); (case a22 => k_is); (case l22 => k_is); (case e22 => k_is); (case k22 => k_is); (case a23 => k_is); (case l23 => k_is); (case e23 => k_is); (case k23 => k_is); (case a24 => k_is); (case l24 => k_is); (case e24 => k_is); (case k24 => k_is); (case a25 => k_is); (case l25 => k_is); (case e25 => k_is); (case k25 => k_is); (case a26 => k_is); (case l26 => k_is); (case e26 => k_is); (case k26 => k_is); (case ca_BadHall => k_is); (case ce_BadHall => k_exc); (case ck_BadHall => k_is); (case cs_BadHall => k_is); (case ct_BadHall => k_is); (case cd_BadHall => k_is); (case cf_BadHall => k_is); (case ca_NoEnd => k_is); (case ce_NoEnd => k_exc); (case ck_NoEnd => k_is); (case cs_NoEnd => k_is); (case ct_NoEnd => k_is); (case cd_NoEnd => k_is); (case cf_NoEnd => k_is); (case ca_Busy => k_is); (case ce_Busy => k_exc); (case ck_Busy => k_is); (case cs_Busy => k_is); (case ct_Busy => k_is); (case cd_Busy => k_is); (case cf_Busy => k_is); (case ca_NoCall => k_is); (case ce_NoCall => k_exc); (case ck_NoCall => k_is); (case cs_NoCall => k_is); (case ct_NoCall => k_is); (case cd_NoCall => k_is); (case cf_NoCall => k_is); (case z_isinstance => k_is); (case z_len => k_is); (case z_range => k_is); (case z_sorted => k_is); (case z_enumerate => k_is); (case z_zip => k_is); (case z_sum => k_is); (case z_min => k_is); (case z_max => k_is); (case z_int => k_is); (case z_bool => k_is); (case z_list => k_is); (case z_tuple => k_is); (case z_str => k_is); (case z_set => k_is); (case z_ValueError => k_is)
