import PyProof.Rows.All
import Wide.All
import OpenK.AllK
import Wide.FinOn
import HandS.ForMost
import HandS.ForExc
import HandS.ExcIs
import HandS.Wide
import HandS.Style
import HandS.Deep
import HandS.IsInst
import HandS.TupLe
import HandS.TupAny
import HandS.SetFor
import HandS.Replace
import HandS.MapJoin
import HandS.ExcValue
import PyProof.TupleOfStr
import KE.GoesZip
import KE.DatumOrd
import KE.SortData
import KE.DataFind
import HandS.Strs
import HandS.DictComp
import KE.KRevSl
import HandS.NoneIn
import PyProof.ReprRoads
import PyProof.NeKinds
import HandS.HotCalls
import KE.KExcStr
import HandS.TupSets
import HandS.Iter
import KE.KEqNest
import HandS.Conv
import KE.KDictList
import HandS.ReplaceLit
import HandS.ReplaceList
import PySem.Challenge.RW_tablefind_k43_tables_written_and_read
set_option Elab.async false
set_option linter.all false
set_option maxRecDepth 100000
/-! PL1: pure data, what stands for it in the abstract heap, the relation of the pure state. -/
namespace PL
open PySem PySem.Spec PyProof.Rows L2

/-- a text by its code points -/
def S (l : List Nat) : Str := ⟨l.toArray⟩
theorem S_cps (l : List Nat) : (S l).cps.toList = l := rfl
theorem S_of (x : Str) : S x.cps.toList = x := by
  obtain ⟨a⟩ := x
  rfl
theorem S_len (l : List Nat) : (S l).length = l.length := by
  show (l.toArray).size = l.length
  simp
theorem S_add (a b : List Nat) : S a ++ S b = S (a ++ b) := by
  show (⟨a.toArray ++ b.toArray⟩ : Str) = ⟨(a ++ b).toArray⟩
  simp
theorem S_inj {a b : List Nat} (h : S a = S b) : a = b := by
  have := congrArg (fun x : Str => x.cps.toList) h
  simpa [S] using this

inductive D where
  | non | bl (b : Bool) | int (i : Int) | str (x : List Nat)
  | lst (xs : List D) | tup (xs : List D)
  | dK (kvs : List (Key × D)) | dT (kvs : List (List Key × D))
  | exc (n : Str) | fz (xs : List D)
  | mt (xs : List D) | fk (kvs : List (Key × D)) | ft (kvs : List (List Key × D))

/-- what of the written part is fixed -/
structure Gc where
  K : PySem.W.Frag
  mg : Str → Option Value

/-- a caught error of the class at c -/
def ExI (c a : Addr) : HO := .ext fun h => ∃ (oe : Obj) (vs : Array Value), h.get? a = some oe ∧ Zc (.ref c) none oe ∧ oe.data = .fields vs

def AtF (g : Gc) (H : Hp) (Av : Addr → Prop) (a : Addr) (vs : List V) : Prop := (∃ o, H a = some (.frz o (.lst vs)) ∧ ¬ Av a) ∨ SqL g.K (fun _ => none) a vs
/-- a tuple that is tracked -/
def AtT (H : Hp) (Av : Addr → Prop) (a : Addr) (vs : List V) : Prop := H a = some (.tup vs) ∧ ¬ Av a

mutual
inductive Rep (g : Gc) (H : Hp) (Av : Addr → Prop) : V → D → Prop
  | non : Rep g H Av .non .non
  | bl (b : Bool) : Rep g H Av (.bl b) (.bl b)
  | int (i : Int) : Rep g H Av (.int i) (.int i)
  | str (x : List Nat) : Rep g H Av (.str (S x)) (.str x)
  | lst {a : Addr} {vs : List V} {ds : List D} : H a = some (.lst vs) → ¬ Av a → RepA g H Av vs ds → Rep g H Av (.ref a) (.lst ds)
  | fz {a : Addr} {vs : List V} {ds : List D} : AtF g H Av a vs → RepA g H Av vs ds → Rep g H Av (.ref a) (.fz ds)
  | tup {a : Addr} {vs : List V} {ds : List D} : AtT H Av a vs → RepA g H Av vs ds → Rep g H Av (.ref a) (.tup ds)
  | dK {a : Addr} {kvs : List (Key × V)} {es : List (Key × D)} : H a = some (.dK kvs) → ¬ Av a → kvs.map (·.1) = es.map (·.1) → RepA g H Av (kvs.map (·.2)) (es.map (·.2)) → Rep g H Av (.ref a) (.dK es)
  | dT {a : Addr} {kvs : List (List Key × V)} {es : List (List Key × D)} : H a = some (.dT kvs) → ¬ Av a → kvs.map (·.1) = es.map (·.1) → RepA g H Av (kvs.map (·.2)) (es.map (·.2)) → Rep g H Av (.ref a) (.dT es)
  | mt {a : Addr} {vs : List V} {ds : List D} : SqT g.K (fun _ => none) a vs → RepA g H Av vs ds → Rep g H Av (.ref a) (.mt ds)
  | fk {a : Addr} {kvs : List (Key × V)} {es : List (Key × D)} : (∃ o, H a = some (.frz o (.dK kvs))) → ¬ Av a → kvs.map (·.1) = es.map (·.1) → RepA g H Av (kvs.map (·.2)) (es.map (·.2)) → Rep g H Av (.ref a) (.fk es)
  | ft {a : Addr} {kvs : List (List Key × V)} {es : List (List Key × D)} : (∃ o, H a = some (.frz o (.dT kvs))) → ¬ Av a → kvs.map (·.1) = es.map (·.1) → RepA g H Av (kvs.map (·.2)) (es.map (·.2)) → Rep g H Av (.ref a) (.ft es)
  | exc {a c : Addr} {n : Str} : H a = some (ExI c a) → ¬ Av a → g.mg n = some (.ref c) → Rep g H Av (.ref a) (.exc n)
inductive RepA (g : Gc) (H : Hp) (Av : Addr → Prop) : List V → List D → Prop
  | nil : RepA g H Av [] []
  | cons {v : V} {vs : List V} {d : D} {ds : List D} : Rep g H Av v d → RepA g H Av vs ds → RepA g H Av (v :: vs) (d :: ds)
end

/-- something is tracked there, no tuple -/
def Th (H : Hp) (a : Addr) : Prop := ∃ o, H a = some o ∧ ∀ vs, o ≠ .tup vs
theorem Th.ex {H : Hp} {a : Addr} (h : Th H a) : ∃ o, H a = some o := let ⟨o, e, _⟩ := h; ⟨o, e⟩
theorem Th.up {H H' : Hp} {a : Addr} (h : Th H a) (s : ∀ o, H a = some o → H' a = some o) : Th H' a := let ⟨o, e, n⟩ := h; ⟨o, s o e, n⟩
/-- what is tracked and not owned stays, and is not owned behind -/
def Kp (O : Addr → Prop) (H : Hp) (O' : Addr → Prop) (H' : Hp) : Prop := ∀ a o, H a = some o → ¬ O a → H' a = some o ∧ ¬ O' a
theorem Kp.refl {O : Addr → Prop} {H : Hp} : Kp O H O H := fun _ _ h n => ⟨h, n⟩
theorem Kp.trans {O O1 O2 : Addr → Prop} {H H1 H2 : Hp} (a : Kp O H O1 H1) (b : Kp O1 H1 O2 H2) : Kp O H O2 H2 := fun x o h n => b x o (a x o h n).1 (a x o h n).2
section
variable {g : Gc} {H H' : Hp} {Av Av' : Addr → Prop}
mutual
theorem Rep.kp (k : Kp Av H Av' H') {v : V} : ∀ {d : D}, Rep g H Av v d → Rep g H' Av' v d
  | _, .non => .non
  | _, .bl b => .bl b
  | _, .int i => .int i
  | _, .str x => .str x
  | _, .lst h n r => .lst (k _ _ h n).1 (k _ _ h n).2 (r.kp k)
  | _, .fz h r => .fz (h.elim (fun ⟨o, q, n⟩ => .inl ⟨o, (k _ _ q n).1, (k _ _ q n).2⟩) .inr) (r.kp k)
  | _, .tup h r => .tup (k _ _ h.1 h.2) (r.kp k)
  | _, .mt h r => .mt h (r.kp k)
  | _, .fk ⟨o, h⟩ n e r => .fk ⟨o, (k _ _ h n).1⟩ (k _ _ h n).2 e (r.kp k)
  | _, .ft ⟨o, h⟩ n e r => .ft ⟨o, (k _ _ h n).1⟩ (k _ _ h n).2 e (r.kp k)
  | _, .dK h n e r => .dK (k _ _ h n).1 (k _ _ h n).2 e (r.kp k)
  | _, .dT h n e r => .dT (k _ _ h n).1 (k _ _ h n).2 e (r.kp k)
  | _, .exc h n e => .exc (k _ _ h n).1 (k _ _ h n).2 e
theorem RepA.kp (k : Kp Av H Av' H') {vs : List V} : ∀ {ds : List D}, RepA g H Av vs ds → RepA g H' Av' vs ds
  | _, .nil => .nil
  | _, .cons h r => .cons (h.kp k) (r.kp k)
end
end
end PL

namespace PL
open PySem PySem.Spec PyProof.Rows L2

/-! ### the pure state -/
inductive Slot where
  | no | im (d : D) | ow (d : D) | mu (d : D)
def Slot.isOwn : Slot → Bool
  | .ow _ => true
  | .mu _ => true
  | _ => false
abbrev PS0 := List Slot

/-- a def's run: the written part, what the callers own, the address of the first argument (where it may be changed) -/
structure G where
  P : Addr → Prop
  M : Addr

/-- slot i owns the object at a -/
def OwnAt (τ : PS0) (σ : L2.St) (i : Nat) (a : Addr) : Prop := (∃ s, τ[i]? = some s ∧ s.isOwn = true) ∧ σ[i]? = some (some (.ref a))
def Own (τ : PS0) (σ : L2.St) (a : Addr) : Prop := ∃ i, OwnAt τ σ i a
def Av (γ : G) (τ : PS0) (σ : L2.St) (a : Addr) : Prop := γ.P a ∨ Own τ σ a
def G.with (γ : G) (p : Addr) : G := { γ with P := fun a => γ.P a ∨ a = p }

/-- an object of one's own: its contents stand for the data -/
inductive Cont (g : Gc) (H : Hp) (Av : Addr → Prop) (a : Addr) : D → Prop
  | lst {vs : List V} {ds : List D} : H a = some (.lst vs) → RepA g H Av vs ds → Cont g H Av a (.lst ds)
  | dK {kvs : List (Key × V)} {es : List (Key × D)} : H a = some (.dK kvs) → kvs.map (·.1) = es.map (·.1) → RepA g H Av (kvs.map (·.2)) (es.map (·.2)) → Cont g H Av a (.dK es)
  | dT {kvs : List (List Key × V)} {es : List (List Key × D)} : H a = some (.dT kvs) → kvs.map (·.1) = es.map (·.1) → RepA g H Av (kvs.map (·.2)) (es.map (·.2)) → Cont g H Av a (.dT es)

structure Rel (g : Gc) (γ : G) (τ : PS0) (σ : L2.St) (H : Hp) : Prop where
  len : σ.length = τ.length
  im : ∀ (i : Nat) (d : D), τ[i]? = some (Slot.im d) → ∃ v : V, σ[i]? = some (some v) ∧ Rep g H (Av γ τ σ) v d
  ow : ∀ (i : Nat) (d : D), τ[i]? = some (Slot.ow d) → ∃ a : Addr, σ[i]? = some (some (V.ref a)) ∧ Cont g H (Av γ τ σ) a d
  mu : ∀ (i : Nat) (d : D), τ[i]? = some (Slot.mu d) → σ[i]? = some (some (V.ref γ.M)) ∧ Cont g H (Av γ τ σ) γ.M d
  inj : ∀ (i j : Nat) (a : Addr), OwnAt τ σ i a → OwnAt τ σ j a → i = j
  pal : ∀ a, γ.P a → Th H a ∧ ¬ Own τ σ a

section
variable {g : Gc} {γ : G} {τ τ' : PS0} {σ σ' : L2.St} {H H' : Hp} {a p : Addr} {v : V} {d : D}
theorem Cont.there {A : Addr → Prop} (c : Cont g H A a d) : ∃ o, H a = some o := by
  cases c with
  | lst h _ => exact ⟨_, h⟩
  | dK h _ _ => exact ⟨_, h⟩
  | dT h _ _ => exact ⟨_, h⟩
theorem Cont.th {A : Addr → Prop} (c : Cont g H A a d) : Th H a := by
  cases c with
  | lst h _ => exact ⟨_, h, fun _ z => nomatch z⟩
  | dK h _ _ => exact ⟨_, h, fun _ z => nomatch z⟩
  | dT h _ _ => exact ⟨_, h, fun _ z => nomatch z⟩
theorem Cont.mono {A B : Addr → Prop} (k : Kp A H B H') (e : H' a = H a) (c : Cont g H A a d) : Cont g H' B a d := by
  cases c with
  | lst h r => exact .lst (e.trans h) (r.kp k)
  | dK h q r => exact .dK (e.trans h) q (r.kp k)
  | dT h q r => exact .dT (e.trans h) q (r.kp k)
theorem Rel.ownTh (R : Rel g γ τ σ H) (h : Own τ σ a) : Th H a := by
  obtain ⟨i, ⟨s, hs, ho⟩, e⟩ := h
  cases s with
  | no => cases ho
  | im d => cases ho
  | ow d =>
    obtain ⟨b, e1, c⟩ := R.ow i d hs
    rw [e] at e1; cases e1
    exact c.th
  | mu d =>
    obtain ⟨e1, c⟩ := R.mu i d hs
    rw [e] at e1; cases e1
    exact c.th
theorem Rel.ownThere (R : Rel g γ τ σ H) (h : Own τ σ a) : ∃ o, H a = some o := (R.ownTh h).ex
theorem Rel.avTh (R : Rel g γ τ σ H) (h : Av γ τ σ a) : Th H a := h.elim (fun q => (R.pal a q).1) R.ownTh
theorem Rel.avThere (R : Rel g γ τ σ H) (h : Av γ τ σ a) : ∃ o, H a = some o := (R.avTh h).ex
theorem Kp.av {τ1 : PS0} {σ1 : L2.St} (k : Kp (Own τ σ) H (Own τ1 σ1) H') : Kp (Av γ τ σ) H (Av γ τ1 σ1) H' := fun a o h n =>
  ⟨(k a o h fun q => n (.inr q)).1, fun q => q.elim (fun z => n (.inl z)) (k a o h fun q => n (.inr q)).2⟩
/-- fewer are to be avoided -/
theorem Kp.less {A B : Addr → Prop} (h : ∀ a, B a → A a) : Kp A H B H := fun a o e n => ⟨e, fun q => n (h a q)⟩
/-- a new object comes -/
theorem Kp.new {A : Addr → Prop} {o : HO} (hp : H p = none) : Kp A H (fun a => A a ∨ a = p) (upd H p o) := fun a u e n =>
  ⟨by rw [upd_ne (ne_of_none e hp)]; exact e, fun q => q.elim n (ne_of_none e hp)⟩
theorem Same.kp {A B : Addr → Prop} (s : Same H H') (h : ∀ a, B a → A a) : Kp A H B H' := fun a o e n => ⟨s a o e, fun q => n (h a q)⟩

/-- the heap grows, what is owned stays as it is -/
theorem Rel.same (R : Rel g γ τ σ H) (s : Same H H') : Rel g γ τ σ H' := by
  have k : Kp (Av γ τ σ) H (Av γ τ σ) H' := Same.kp s fun _ q => q
  have ce : ∀ {a d}, Cont g H (Av γ τ σ) a d → Cont g H' (Av γ τ σ) a d := fun {a d} c => by
    obtain ⟨o, e⟩ := c.there
    exact c.mono k ((s a o e).trans e.symm)
  exact ⟨R.len, fun i d h => let ⟨v, e, r⟩ := R.im i d h; ⟨v, e, r.kp k⟩, fun i d h => let ⟨b, e, c⟩ := R.ow i d h; ⟨b, e, ce c⟩, fun i d h => let ⟨e, c⟩ := R.mu i d h; ⟨e, ce c⟩, R.inj, fun a h => ⟨(R.pal a h).1.up fun o e => s a o e, (R.pal a h).2⟩⟩
/-- a new object, set apart -/
theorem Rel.newS (R : Rel g γ τ σ H) (hp : H p = none) (s : Same H H') (hp' : Th H' p) : Rel g (γ.with p) τ σ H' := by
  have k : Kp (Av γ τ σ) H (Av (γ.with p) τ σ) H' := fun a u e n =>
    ⟨s a u e, fun z => z.elim (fun y => y.elim (fun x => n (.inl x)) (ne_of_none e hp)) fun x => n (.inr x)⟩
  have ce : ∀ {a d}, Cont g H (Av γ τ σ) a d → Cont g H' (Av (γ.with p) τ σ) a d := fun {a d} c => by
    obtain ⟨u, e⟩ := c.there
    exact c.mono k ((s a u e).trans e.symm)
  refine ⟨R.len, fun i d h => let ⟨v, e, r⟩ := R.im i d h; ⟨v, e, r.kp k⟩, fun i d h => let ⟨b, e, c⟩ := R.ow i d h; ⟨b, e, ce c⟩, fun i d h => let ⟨e, c⟩ := R.mu i d h; ⟨e, ce c⟩, R.inj, fun a h => ?_⟩
  rcases h with h | h
  · exact ⟨(R.pal a h).1.up fun o e => s a o e, (R.pal a h).2⟩
  · rw [h]
    refine ⟨hp', fun z => ?_⟩
    obtain ⟨u, e⟩ := R.ownThere z
    rw [hp] at e; cases e
/-- less is set apart -/
theorem Rel.drop (R : Rel g (γ.with p) τ σ H) : Rel g γ τ σ H := by
  have k : Kp (Av (γ.with p) τ σ) H (Av γ τ σ) H := Kp.less fun a q => q.elim (fun z => .inl (.inl z)) .inr
  exact ⟨R.len, fun i d h => let ⟨v, e, r⟩ := R.im i d h; ⟨v, e, r.kp k⟩, fun i d h => let ⟨b, e, c⟩ := R.ow i d h; ⟨b, e, c.mono k rfl⟩, fun i d h => let ⟨e, c⟩ := R.mu i d h; ⟨e, c.mono k rfl⟩, R.inj, fun a h => R.pal a (.inl h)⟩

/-! ### slots -/
theorem own_set_im {i : Nat} {s : Slot} {x : Option V} (hs : s.isOwn = false) (h : Own (τ.set i s) (σ.set i x) a) : Own τ σ a ∧ ¬ OwnAt (τ.set i s) (σ.set i x) i a := by
  obtain ⟨j, ⟨t, ht, ho⟩, e⟩ := h
  have hji : j ≠ i := fun z => by
    subst z
    by_cases hl : j < τ.length
    · rw [List.getElem?_set_self hl] at ht; cases ht; rw [hs] at ho; cases ho
    · rw [List.getElem?_eq_none_iff.mpr (by rw [List.length_set]; omega)] at ht; cases ht
  rw [List.getElem?_set_ne (Ne.symm hji)] at ht e
  refine ⟨⟨j, ⟨t, ht, ho⟩, e⟩, fun ⟨⟨t', ht', ho'⟩, _⟩ => ?_⟩
  by_cases hl : i < τ.length
  · rw [List.getElem?_set_self hl] at ht'; cases ht'; rw [hs] at ho'; cases ho'
  · rw [List.getElem?_eq_none_iff.mpr (by rw [List.length_set]; omega)] at ht'; cases ht'
theorem ownAt_ne {i j : Nat} {s : Slot} {x : Option V} (hji : j ≠ i) : OwnAt (τ.set i s) (σ.set i x) j a ↔ OwnAt τ σ j a := by
  unfold OwnAt
  rw [List.getElem?_set_ne (Ne.symm hji), List.getElem?_set_ne (Ne.symm hji)]
theorem ownAt_self_no {i : Nat} {s : Slot} {x : Option V} (hs : s.isOwn = false) : ¬ OwnAt (τ.set i s) (σ.set i x) i a := fun ⟨⟨t, ht, ho⟩, _⟩ => by
  by_cases hl : i < τ.length
  · rw [List.getElem?_set_self hl] at ht; cases ht; rw [hs] at ho; cases ho
  · rw [List.getElem?_eq_none_iff.mpr (by rw [List.length_set]; omega)] at ht; cases ht
theorem own_set_sub {i : Nat} {s : Slot} {x : Option V} (hs : s.isOwn = false) (h : Own (τ.set i s) (σ.set i x) a) : Own τ σ a := (own_set_im hs h).1
/-- a slot that owns nothing behind: what it held is no longer owned -/
theorem Rel.setNo (R : Rel g γ τ σ H) (i : Nat) (s : Slot) (x : Option V) (hs : s.isOwn = false) (hv : ∀ d, s = .im d → ∃ v, x = some v ∧ Rep g H (Av γ (τ.set i s) (σ.set i x)) v d) :
    Rel g γ (τ.set i s) (σ.set i x) H ∧ Kp (Own τ σ) H (Own (τ.set i s) (σ.set i x)) H := by
  have kO : Kp (Own τ σ) H (Own (τ.set i s) (σ.set i x)) H := Kp.less fun a => own_set_sub hs
  have k : Kp (Av γ τ σ) H (Av γ (τ.set i s) (σ.set i x)) H := kO.av
  refine ⟨⟨by rw [List.length_set, List.length_set]; exact R.len, fun j d h => ?_, fun j d h => ?_, fun j d h => ?_, fun j l a h1 h2 => ?_, fun a h => ⟨(R.pal a h).1, fun z => (R.pal a h).2 (own_set_sub hs z)⟩⟩, kO⟩
  · by_cases hj : j = i
    · subst hj
      by_cases hl : j < τ.length
      · rw [List.getElem?_set_self hl] at h; cases h
        obtain ⟨v, e, r⟩ := hv d rfl
        exact ⟨v, by rw [List.getElem?_set_self (by rw [R.len]; exact hl), e], r⟩
      · rw [List.getElem?_eq_none_iff.mpr (by rw [List.length_set]; omega)] at h; cases h
    · rw [List.getElem?_set_ne (Ne.symm hj)] at h
      obtain ⟨v, e, r⟩ := R.im j d h
      exact ⟨v, by rw [List.getElem?_set_ne (Ne.symm hj)]; exact e, r.kp k⟩
  · have hj : j ≠ i := fun z => by
      subst z
      by_cases hl : j < τ.length
      · rw [List.getElem?_set_self hl] at h; cases h; cases hs
      · rw [List.getElem?_eq_none_iff.mpr (by rw [List.length_set]; omega)] at h; cases h
    rw [List.getElem?_set_ne (Ne.symm hj)] at h
    obtain ⟨b, e, c⟩ := R.ow j d h
    exact ⟨b, by rw [List.getElem?_set_ne (Ne.symm hj)]; exact e, c.mono k rfl⟩
  · have hj : j ≠ i := fun z => by
      subst z
      by_cases hl : j < τ.length
      · rw [List.getElem?_set_self hl] at h; cases h; cases hs
      · rw [List.getElem?_eq_none_iff.mpr (by rw [List.length_set]; omega)] at h; cases h
    rw [List.getElem?_set_ne (Ne.symm hj)] at h
    obtain ⟨e, c⟩ := R.mu j d h
    exact ⟨by rw [List.getElem?_set_ne (Ne.symm hj)]; exact e, c.mono k rfl⟩
  · have n1 : j ≠ i := fun z => by subst z; exact ownAt_self_no hs h1
    have n2 : l ≠ i := fun z => by subst z; exact ownAt_self_no hs h2
    exact R.inj j l a ((ownAt_ne n1).mp h1) ((ownAt_ne n2).mp h2)
/-- an im value comes to a slot -/
theorem Rel.setIm (R : Rel g γ τ σ H) (i : Nat) (r : Rep g H (Av γ τ σ) v d) : Rel g γ (τ.set i (.im d)) (σ.set i (some v)) H ∧ Kp (Own τ σ) H (Own (τ.set i (.im d)) (σ.set i (some v))) H :=
  R.setNo i (.im d) (some v) rfl fun d' e => by
    cases e
    refine ⟨v, rfl, r.kp (Kp.less fun a q => ?_)⟩
    exact q.elim .inl fun z => .inr (own_set_sub rfl z)
/-- an object that is set apart comes to a slot, its own -/
theorem Rel.setOw (R : Rel g (γ.with p) τ σ H) (i : Nat) (hi : i < τ.length) (np : ¬ γ.P p) (c : Cont g H (Av (γ.with p) τ σ) p d) :
    Rel g γ (τ.set i (.ow d)) (σ.set i (some (.ref p))) H ∧ Kp (fun a => Own τ σ a ∨ a = p) H (Own (τ.set i (.ow d)) (σ.set i (some (.ref p)))) H := by
  have sub : ∀ a, Own (τ.set i (.ow d)) (σ.set i (some (.ref p))) a → Own τ σ a ∨ a = p := fun a ⟨j, h⟩ => by
    by_cases hj : j = i
    · subst hj
      have e := h.2
      rw [List.getElem?_set_self (by rw [R.len]; exact hi)] at e
      cases e
      exact .inr rfl
    · exact .inl ⟨j, (ownAt_ne hj).mp h⟩
  have k : Kp (Av (γ.with p) τ σ) H (Av γ (τ.set i (.ow d)) (σ.set i (some (.ref p)))) H := Kp.less fun a q => by
    rcases q with q | q
    · exact .inl (.inl q)
    · rcases sub a q with z | z
      · exact .inr z
      · exact .inl (.inr z)
  have nO : ¬ Own τ σ p := (R.pal p (.inr rfl)).2
  refine ⟨⟨by rw [List.length_set, List.length_set]; exact R.len, fun j d' h => ?_, fun j d' h => ?_, fun j d' h => ?_, fun j l a h1 h2 => ?_, fun a h => ⟨(R.pal a (.inl h)).1, fun z => ?_⟩⟩, Kp.less sub⟩
  · have hj : j ≠ i := fun z => by
      subst z
      rw [List.getElem?_set_self hi] at h; cases h
    rw [List.getElem?_set_ne (Ne.symm hj)] at h
    obtain ⟨v, e, r⟩ := R.im j d' h
    exact ⟨v, by rw [List.getElem?_set_ne (Ne.symm hj)]; exact e, r.kp k⟩
  · by_cases hj : j = i
    · subst hj
      rw [List.getElem?_set_self hi] at h; cases h
      exact ⟨p, by rw [List.getElem?_set_self (by rw [R.len]; exact hi)], c.mono k rfl⟩
    · rw [List.getElem?_set_ne (Ne.symm hj)] at h
      obtain ⟨b, e, c⟩ := R.ow j d' h
      exact ⟨b, by rw [List.getElem?_set_ne (Ne.symm hj)]; exact e, c.mono k rfl⟩
  · have hj : j ≠ i := fun z => by
      subst z
      rw [List.getElem?_set_self hi] at h; cases h
    rw [List.getElem?_set_ne (Ne.symm hj)] at h
    obtain ⟨e, c⟩ := R.mu j d' h
    exact ⟨by rw [List.getElem?_set_ne (Ne.symm hj)]; exact e, c.mono k rfl⟩
  · have self : ∀ {a}, OwnAt (τ.set i (.ow d)) (σ.set i (some (.ref p))) i a → a = p := fun {a} h => by
      have e := h.2
      rw [List.getElem?_set_self (by rw [R.len]; exact hi)] at e
      cases e
      rfl
    by_cases hj : j = i
    · by_cases hl : l = i
      · rw [hj, hl]
      · subst hj
        have e := self h1
        subst e
        exact absurd ⟨l, (ownAt_ne hl).mp h2⟩ nO
    · by_cases hl : l = i
      · subst hl
        have e := self h2
        subst e
        exact absurd ⟨j, (ownAt_ne hj).mp h1⟩ nO
      · exact R.inj j l a ((ownAt_ne hj).mp h1) ((ownAt_ne hl).mp h2)
  · rcases sub a z with y | y
    · exact (R.pal a (.inl h)).2 y
    · subst y
      exact np h

/-- what a slot owns holds other data -/
def Slot.put (s : Slot) (d : D) : Slot := match s with
  | .ow _ => .ow d
  | .mu _ => .mu d
  | s => s
theorem Slot.put_own {s : Slot} {d : D} : (s.put d).isOwn = s.isOwn := by cases s <;> rfl
theorem ownAt_put {i j : Nat} {s : Slot} (hs : τ[i]? = some s) : OwnAt (τ.set i (s.put d)) σ j a ↔ OwnAt τ σ j a := by
  have hl : i < τ.length := (List.getElem?_eq_some_iff.mp hs).1
  unfold OwnAt
  by_cases hj : j = i
  · subst hj
    rw [List.getElem?_set_self hl, hs]
    constructor
    · rintro ⟨⟨t, e, o⟩, q⟩
      cases e
      exact ⟨⟨s, rfl, by rw [← o, Slot.put_own]⟩, q⟩
    · rintro ⟨⟨t, e, o⟩, q⟩
      cases e
      exact ⟨⟨_, rfl, by rw [Slot.put_own]; exact o⟩, q⟩
  · rw [List.getElem?_set_ne (Ne.symm hj)]
theorem own_put {i : Nat} {s : Slot} (hs : τ[i]? = some s) : Own (τ.set i (s.put d)) σ a ↔ Own τ σ a := ⟨fun ⟨j, h⟩ => ⟨j, (ownAt_put hs).mp h⟩, fun ⟨j, h⟩ => ⟨j, (ownAt_put hs).mpr h⟩⟩
/-- the object that slot i owns is written; all else that is tracked stays -/
theorem Rel.put (R : Rel g γ τ σ H) {i : Nat} {s : Slot} (hs : τ[i]? = some s) (ho : OwnAt τ σ i a) (k : ∀ b o, b ≠ a → H b = some o → H' b = some o) (c : Cont g H' (Av γ τ σ) a d) :
    Rel g γ (τ.set i (s.put d)) σ H' ∧ Kp (Own τ σ) H (Own (τ.set i (s.put d)) σ) H' := by
  have hl : i < τ.length := (List.getElem?_eq_some_iff.mp hs).1
  have oa : Own τ σ a := ⟨i, ho⟩
  have kO : Kp (Own τ σ) H (Own (τ.set i (s.put d)) σ) H' := fun b o e n => ⟨k b o (fun z => n (z ▸ oa)) e, fun q => n ((own_put hs).mp q)⟩
  have kA : Kp (Av γ τ σ) H (Av γ (τ.set i (s.put d)) σ) H' := kO.av
  have sub : Kp (Av γ τ σ) H' (Av γ (τ.set i (s.put d)) σ) H' := Kp.less fun b q => q.elim .inl fun z => .inr ((own_put hs).mp z)
  have ce : ∀ {b d2}, b ≠ a → Cont g H (Av γ τ σ) b d2 → Cont g H' (Av γ (τ.set i (s.put d)) σ) b d2 := fun {b d2} hb c => by
    obtain ⟨u, e⟩ := c.there
    exact c.mono kA ((k b u hb e).trans e.symm)
  have self : ∀ {j b}, OwnAt τ σ j b → j ≠ i → b ≠ a := fun {j b} h hj z => hj (R.inj j i a (z ▸ h) ho)
  refine ⟨⟨by rw [List.length_set]; exact R.len, fun j d' h => ?_, fun j d' h => ?_, fun j d' h => ?_, fun j l b h1 h2 => R.inj j l b ((ownAt_put hs).mp h1) ((ownAt_put hs).mp h2), fun b h => ?_⟩, kO⟩
  · have hj : j ≠ i := fun z => by
      subst z
      rw [List.getElem?_set_self hl] at h
      have q := ho.1
      obtain ⟨t, e, o⟩ := q
      rw [hs] at e; cases e
      cases s with
      | no => cases o
      | im _ => cases o
      | ow _ => cases h
      | mu _ => cases h
    rw [List.getElem?_set_ne (Ne.symm hj)] at h
    obtain ⟨v, e, r⟩ := R.im j d' h
    exact ⟨v, e, r.kp kA⟩
  · by_cases hj : j = i
    · subst hj
      rw [List.getElem?_set_self hl] at h
      cases s with
      | ow d0 => cases h; exact ⟨a, ho.2, c.mono sub rfl⟩
      | no => cases h
      | im _ => cases h
      | mu _ => cases h
    · rw [List.getElem?_set_ne (Ne.symm hj)] at h
      obtain ⟨b, e, c'⟩ := R.ow j d' h
      exact ⟨b, e, ce (self ⟨⟨_, h, rfl⟩, e⟩ hj) c'⟩
  · by_cases hj : j = i
    · subst hj
      rw [List.getElem?_set_self hl] at h
      cases s with
      | mu d0 =>
        cases h
        have e := (R.mu j d0 hs).1
        have e2 := ho.2
        rw [e] at e2; cases e2
        exact ⟨e, c.mono sub rfl⟩
      | no => cases h
      | im _ => cases h
      | ow _ => cases h
    · rw [List.getElem?_set_ne (Ne.symm hj)] at h
      obtain ⟨e, c'⟩ := R.mu j d' h
      exact ⟨e, ce (self ⟨⟨_, h, rfl⟩, e⟩ hj) c'⟩
  · obtain ⟨t, n⟩ := R.pal b h
    exact ⟨t.up fun o e => k b o (fun z => n (z ▸ oa)) e, fun q => n ((own_put hs).mp q)⟩
end
end PL

namespace PL
open PySem PySem.Spec PyProof.Rows L2

/-! ### the pure runs -/
inductive Res (α : Type) where
  | ok (a : α) (τ : PS0) | exc (n : Str) (τ : PS0) | stuck
abbrev M (α : Type) := PS0 → Res α
def ret {α : Type} (a : α) : M α := fun τ => .ok a τ
def andThen {α β : Type} (x : M α) (f : α → M β) : M β := fun τ => match x τ with
  | .ok a τ' => f a τ'
  | .exc n τ' => .exc n τ'
  | .stuck => .stuck
def lift {α : Type} (o : Option α) : M α := fun τ => match o with
  | some a => .ok a τ
  | none => .stuck
def Fit {α : Type} (x : Res α) (p : α → PS0 → Prop) (q : Str → PS0 → Prop) : Prop := match x with
  | .ok a τ => p a τ
  | .exc n τ => q n τ
  | .stuck => False
theorem Fit.mono {α : Type} {x : Res α} {p p' : α → PS0 → Prop} {q q' : Str → PS0 → Prop} (h : Fit x p q) (hp : ∀ a τ, p a τ → p' a τ) (hq : ∀ n τ, q n τ → q' n τ) : Fit x p' q' := by
  cases x with
  | ok a τ => exact hp a τ h
  | exc n τ => exact hq n τ h
  | stuck => exact h
theorem fit_bind {α β : Type} {x : M α} {f : α → M β} {τ : PS0} {p : β → PS0 → Prop} {q : Str → PS0 → Prop} : Fit (andThen x f τ) p q ↔ Fit (x τ) (fun a τ' => Fit (f a τ') p q) q := by
  unfold andThen
  cases x τ <;> rfl
theorem fit_lift {α : Type} {o : Option α} {τ : PS0} {p : α → PS0 → Prop} {q : Str → PS0 → Prop} : Fit (lift o τ) p q ↔ ∃ a, o = some a ∧ p a τ := by
  unfold lift
  cases o with
  | none => exact ⟨fun h => h.elim, fun ⟨_, e, _⟩ => nomatch e⟩
  | some a => exact ⟨fun h => ⟨a, rfl, h⟩, fun ⟨_, e, h⟩ => by cases e; exact h⟩
theorem fit_ret {α : Type} {a : α} {τ : PS0} {p : α → PS0 → Prop} {q : Str → PS0 → Prop} : Fit (ret a τ) p q ↔ p a τ := Iff.rfl

/-- what a value is: fixed; one's own, but looked at; new -/
inductive Kd where | im | ln | fr
  deriving DecidableEq
/-- read, not kept: it may be one's own -/
def LRep (g : Gc) (H : Hp) (A : Addr → Prop) (v : V) (d : D) : Prop := Rep g H A v d ∨ ∃ a, v = .ref a ∧ Cont g H A a d
def VRep (k : Kd) (g : Gc) (H : Hp) (A : Addr → Prop) (v : V) (d : D) : Prop := match k with
  | .ln => LRep g H A v d
  | _ => Rep g H A v d
theorem VRep.l {k : Kd} {g : Gc} {H : Hp} {A : Addr → Prop} {v : V} {d : D} (h : VRep k g H A v d) : LRep g H A v d := by
  cases k with
  | ln => exact h
  | im => exact .inl h
  | fr => exact .inl h

/-- behind an expression (or a return) -/
def PostE (k : Kd) (g : Gc) (γ : G) (τ : PS0) (σ : L2.St) (H : Hp) (τ' : PS0) (σ' : L2.St) (H' : Hp) (v : V) (d : D) : Prop := match k with
  | .im => Rel g γ τ' σ' H' ∧ Kp (Own τ σ) H (Own τ' σ') H' ∧ Rep g H' (Av γ τ' σ') v d
  | .ln => Rel g γ τ' σ' H' ∧ Kp (Own τ σ) H (Own τ' σ') H' ∧ LRep g H' (Av γ τ' σ') v d
  | .fr => ∃ p, v = .ref p ∧ Rel g (γ.with p) τ' σ' H' ∧ ¬ γ.P p ∧ Kp (Own τ σ) H (fun a => Own τ' σ' a ∨ a = p) H' ∧ Cont g H' (Av (γ.with p) τ' σ') p d

section
variable {g : Gc} {γ : G} {τ τ' τ1 τ2 : PS0} {σ σ' : L2.St} {H H' H1 H2 : Hp} {a p : Addr} {v : V} {d : D} {k : Kd}
/-- a content that is set apart, taken as it is -/
theorem Cont.rep {A : Addr → Prop} (n : ¬ A a) (c : Cont g H A a d) : Rep g H A (.ref a) d := by
  cases c with
  | lst h r => exact .lst h n r
  | dK h e r => exact .dK h n e r
  | dT h e r => exact .dT h n e r
theorem PostE.toIm (h : PostE .fr g γ τ σ H τ' σ' H' v d) : PostE .im g γ τ σ H τ' σ' H' v d := by
  obtain ⟨p, rfl, R, np, kp, c⟩ := h
  have nO : ¬ Own τ' σ' p := (R.pal p (.inr rfl)).2
  have k1 : Kp (Av (γ.with p) τ' σ') H' (Av γ τ' σ') H' := Kp.less fun a q => q.elim (fun z => .inl (.inl z)) .inr
  exact ⟨R.drop, kp.trans (Kp.less fun a q => .inl q), (c.mono k1 rfl).rep fun q => q.elim np nO⟩
theorem PostE.val (h : PostE k g γ τ σ H τ' σ' H' v d) : Rel g γ τ' σ' H' ∧ Kp (Own τ σ) H (Own τ' σ') H' ∧ VRep k g H' (Av γ τ' σ') v d := by
  cases k with
  | im => exact h
  | ln => exact h
  | fr => exact h.toIm
theorem PostE.ln (h : PostE k g γ τ σ H τ' σ' H' v d) : PostE .ln g γ τ σ H τ' σ' H' v d := ⟨h.val.1, h.val.2.1, h.val.2.2.l⟩
theorem PostE.pre (k0 : Kp (Own τ σ) H (Own τ1 σ') H1) (h : PostE k g γ τ1 σ' H1 τ' σ' H' v d) : PostE k g γ τ σ H τ' σ' H' v d := by
  cases k with
  | im => exact ⟨h.1, k0.trans h.2.1, h.2.2⟩
  | ln => exact ⟨h.1, k0.trans h.2.1, h.2.2⟩
  | fr =>
    obtain ⟨p, e, R, np, kp, c⟩ := h
    exact ⟨p, e, R, np, k0.trans kp, c⟩
theorem PostE.pre' {σ1 : L2.St} (k0 : Kp (Own τ σ) H (Own τ1 σ1) H1) (h : PostE k g γ τ1 σ1 H1 τ' σ' H' v d) : PostE k g γ τ σ H τ' σ' H' v d := by
  cases k with
  | im => exact ⟨h.1, k0.trans h.2.1, h.2.2⟩
  | ln => exact ⟨h.1, k0.trans h.2.1, h.2.2⟩
  | fr =>
    obtain ⟨p, e, R, np, kp, c⟩ := h
    exact ⟨p, e, R, np, k0.trans kp, c⟩
theorem LRep.same (s : Same H H') {A A' : Addr → Prop} (h : ∀ a, A' a → A a) (r : LRep g H A v d) : LRep g H' A' v d := by
  have k : Kp A H A' H' := Same.kp s h
  rcases r with r | ⟨a, e, c⟩
  · exact .inl (r.kp k)
  · obtain ⟨o, q⟩ := c.there
    exact .inr ⟨a, e, c.mono k ((s a o q).trans q.symm)⟩

/-! ### readings -/
def XW (g : Gc) (W : WX) (γ : G) (τ : PS0) (σ : L2.St) (H : Hp) : Str → PS0 → Prop := fun n τ' => ∀ H', Rel g γ τ' σ H' → Kp (Own τ σ) H (Own τ' σ) H' → ∀ c, g.mg n = some (.ref c) → W (.ref c) none σ H'
theorem XW.pre {W : WX} {n : Str} (k : Kp (Own τ σ) H (Own τ1 σ) H1) (h : XW g W γ τ σ H n τ') : XW g W γ τ1 σ H1 n τ' := fun H' R k' c hc => h H' R (k.trans k') c hc
def tE (g : Gc) (W : WX) (k : Kd) (m : Bool) (f : M D) : TE := fun σ H Q => ∃ γ τ, Rel g γ τ σ H ∧ Fit (f τ) (fun d τ' => ∀ v H', (m = false → Same H H') → PostE k g γ τ σ H τ' σ H' v d → Q v H') (XW g W γ τ σ H)
def tT (g : Gc) (W : WX) (m : Bool) (f : M Bool) : TT := fun σ H Q => ∃ γ τ, Rel g γ τ σ H ∧ Fit (f τ) (fun b τ' => ∀ H', (m = false → Same H H') → Rel g γ τ' σ H' → Kp (Own τ σ) H (Own τ' σ) H' → Q b H') (XW g W γ τ σ H)
def tA (g : Gc) (W : WX) (m : Bool) (f : M (List D)) : TA := fun σ H Q => ∃ γ τ, Rel g γ τ σ H ∧ Fit (f τ) (fun ds τ' => ∀ vs H', (m = false → Same H H') → Rel g γ τ' σ H' → Kp (Own τ σ) H (Own τ' σ) H' → RepA g H' (Av γ τ' σ) vs ds → Q vs H') (XW g W γ τ σ H)
end
end PL

namespace L2
open PySem PySem.Spec PyProof.Rows
abbrev Cx.g (X : Cx) : PL.Gc := ⟨X.K, X.mg⟩
theorem PE.weak {X : Cx} {e : Expr} {t t' : TE} (h : PE X e t) (w : ∀ σ H Q, t' σ H Q → t σ H Q) : PE X e t' := ⟨fun pins s σ H Q I q => h.run pins s σ H Q I (w σ H Q q)⟩
theorem PT.weak {X : Cx} {e : Expr} {t t' : TT} (h : PT X e t) (w : ∀ σ H Q, t' σ H Q → t σ H Q) : PT X e t' := ⟨fun pins s σ H Q I q => h.run pins s σ H Q I (w σ H Q q)⟩
theorem PW.weak {X : Cx} {e : Expr} {t t' : TT} (h : PW X e t) (w : ∀ σ H Q, t' σ H Q → t σ H Q) : PW X e t' := ⟨fun wh pins s σ H Q I q => h.run wh pins s σ H Q I (w σ H Q q)⟩
theorem PA.weak {X : Cx} {e : List Expr} {t t' : TA} (h : PA X e t) (w : ∀ σ H Q, t' σ H Q → t σ H Q) : PA X e t' := ⟨fun pos pins s σ H Q I q => h.run pos pins s σ H Q I (w σ H Q q)⟩
theorem PS.weak {X : Cx} {e : Stmt} {t t' : TS} (h : PS X e t) (w : ∀ D σ H, t' D σ H → t D σ H) : PS X e t' := ⟨fun pins s σ H D I q => h.run pins s σ H D I (w D σ H q)⟩
theorem PSs.weak {X : Cx} {e : List Stmt} {t t' : TS} (h : PSs X e t) (w : ∀ D σ H, t' D σ H → t D σ H) : PSs X e t' := ⟨fun pins s σ H D I q => h.run pins s σ H D I (w D σ H q)⟩
theorem PI.weak {X : Cx} {tg e : Expr} {t t' : TI} (h : PI X tg e t) (w : ∀ σ H Q, t' σ H Q → t σ H Q) : PI X tg e t' := ⟨fun pins s σ H Q I q => h.run pins s σ H Q I (w σ H Q q)⟩
end L2

namespace PL
open PySem PySem.Spec PyProof.Rows L2
abbrev JE (X : Cx) (W : WX) (k : Kd) (m : Bool) (e : Expr) (f : M D) : Prop := PE X e (tE X.g W k m f)
abbrev JT (X : Cx) (W : WX) (m : Bool) (e : Expr) (f : M Bool) : Prop := PT X e (tT X.g W m f)
abbrev JW (X : Cx) (W : WX) (m : Bool) (e : Expr) (f : M Bool) : Prop := PW X e (tT X.g W m f)
abbrev JA (X : Cx) (W : WX) (m : Bool) (es : List Expr) (f : M (List D)) : Prop := PA X es (tA X.g W m f)

/-- what an operation gives, over the heap H with what is one's own in A -/
def Out (k : Kd) (g : Gc) (H : Hp) (A : Addr → Prop) (H' : Hp) (v : V) (d : D) : Prop := Same H H' ∧ match k with
  | .fr => ∃ p, v = .ref p ∧ H p = none ∧ Cont g H' (fun a => A a ∨ a = p) p d
  | _ => Rep g H' A v d
section
variable {X : Cx} {W : WX} {g : Gc} {γ : G} {τ τ' τ1 τ2 : PS0} {σ σ' : L2.St} {H H' H1 H2 : Hp} {a p : Addr} {v : V} {d : D} {k k1 k2 kr : Kd} {m m1 m2 : Bool} {e e1 e2 : Expr} {f fa fb : M D}
theorem PostE.of_out (R : Rel g γ τ' σ H1) (k0 : Kp (Own τ σ) H (Own τ' σ) H1) (hk : kr ≠ .ln) (o : Out kr g H1 (Av γ τ' σ) H' v d) : PostE kr g γ τ σ H τ' σ H' v d := by
  obtain ⟨s, o⟩ := o
  cases kr with
  | ln => exact absurd rfl hk
  | im => exact ⟨R.same s, k0.trans (Same.kp s fun _ q => q), o⟩
  | fr =>
    obtain ⟨p, rfl, np, c⟩ := o
    have nP : ¬ γ.P p := fun q => by
      obtain ⟨u, e⟩ := (R.pal p q).1.ex
      rw [np] at e; cases e
    refine ⟨p, rfl, R.newS np s c.th, nP, k0.trans fun b u e n => ⟨s b u e, fun z => z.elim n (ne_of_none e np)⟩, c.mono (Kp.less fun a q => ?_) rfl⟩
    exact q.elim (fun z => z.elim (fun y => .inl (.inl y)) .inr) fun z => .inl (.inr z)

/-- what a value stands for, behind a further expression -/
theorem carry (hk : k1 ≠ .ln ∨ m2 = false) (h : VRep k1 g H1 (Av γ τ1 σ) v d) (s : m2 = false → Same H1 H2) (kp : Kp (Own τ1 σ) H1 (Own τ2 σ) H2) : VRep k1 g H2 (Av γ τ2 σ) v d := by
  have kA : Kp (Av γ τ1 σ) H1 (Av γ τ2 σ) H2 := kp.av
  by_cases hl : k1 = .ln
  · subst hl
    have s := s (hk.resolve_left fun z => z rfl)
    rcases h with h | ⟨a, e, c⟩
    · exact .inl (h.kp kA)
    · obtain ⟨o, q⟩ := c.there
      exact .inr ⟨a, e, c.mono kA ((s a o q).trans q.symm)⟩
  · cases k1 with
    | ln => exact absurd rfl hl
    | im => exact Rep.kp kA h
    | fr => exact Rep.kp kA h
theorem or_same {H H1 H2 : Hp} (a : m1 = false → Same H H1) (b : m2 = false → Same H1 H2) (h : (m1 || m2) = false) : Same H H2 := by
  rw [Bool.or_eq_false_iff] at h
  exact (a h.1).trans (b h.2)
theorem tE_bin (hk : k1 ≠ .ln ∨ m2 = false) {Kc : V → V → Hp → Prop} (R : Rel g γ τ σ H)
    (h : Fit (fa τ) (fun d τ1 => Fit (fb τ1) (fun e τ2 => ∀ x y H2, ((m1 || m2) = false → Same H H2) → Rel g γ τ2 σ H2 → Kp (Own τ σ) H (Own τ2 σ) H2 → VRep k1 g H2 (Av γ τ2 σ) x d → VRep k2 g H2 (Av γ τ2 σ) y e → Kc x y H2) (XW g W γ τ σ H)) (XW g W γ τ σ H)) :
    tE g W k1 m1 fa σ H (fun x H1 => tE g W k2 m2 fb σ H1 (fun y H2 => Kc x y H2)) := by
  refine ⟨γ, τ, R, h.mono (fun d τ1 h x H1 s1 P1 => ?_) fun _ _ q => q⟩
  obtain ⟨R1, kp1, V1⟩ := P1.val
  refine ⟨γ, τ1, R1, h.mono (fun e τ2 h y H2 s2 P2 => ?_) fun _ _ q => q.pre kp1⟩
  obtain ⟨R2, kp2, V2⟩ := P2.val
  exact h x y H2 (or_same s1 s2) R2 (kp1.trans kp2) (carry hk V1 s2 kp2) V2

/-! ### coercions -/
theorem JE.im (h : JE X W .fr m e f) : JE X W .im m e f := h.weak fun σ H Q ⟨γ, τ, R, q⟩ => ⟨γ, τ, R, q.mono (fun d τ' z v H' s P => z v H' s P.toIm) fun _ _ z => z⟩
theorem JE.ln (h : JE X W k m e f) : JE X W .ln m e f := h.weak fun σ H Q ⟨γ, τ, R, q⟩ => ⟨γ, τ, R, q.mono (fun d τ' z v H' s P => z v H' s P.ln) fun _ _ z => z⟩
theorem JE.mt (h : JE X W k m e f) : JE X W k true e f := h.weak fun σ H Q ⟨γ, τ, R, q⟩ => ⟨γ, τ, R, q.mono (fun d τ' z v H' _ P => z v H' (fun z => nomatch z) P) fun _ _ z => z⟩

/-! ### names and constants -/
theorem je_c {v : V} (h : PE X e (tC v)) (r : ∀ H A, Rep X.g H A v d) : JE X W .im false e (ret d) := h.weak fun σ H Q ⟨γ, τ, R, q⟩ => q v H (fun _ => Same.refl H) ⟨R, Kp.refl, r _ _⟩
theorem je_int {i j pos} : JE X W .im false (.Constant (.int i) j pos) (ret (.int i)) := je_c pe_int fun _ _ => .int i
theorem je_bl {b j pos} : JE X W .im false (.Constant (.bool b) j pos) (ret (.bl b)) := je_c pe_bl fun _ _ => .bl b
theorem je_non {j pos} : JE X W .im false (.Constant .none j pos) (ret .non) := je_c pe_non fun _ _ => .non
theorem je_str {x : Str} {j pos} {l : List Nat} (h : x = S l := by rfl) : JE X W .im false (.Constant (.str x) j pos) (ret (.str l)) := je_c pe_str fun _ _ => h ▸ .str l
/-- the slot's data; what was one's own is given away -/
def rd (i : Nat) : M D := fun τ => match τ[i]? with
  | some (.im d) => .ok d τ
  | some (.ow d) => .ok d (τ.set i (.im d))
  | _ => .stuck
def look (i : Nat) : M D := fun τ => match τ[i]? with
  | some (.im d) => .ok d τ
  | some (.ow d) => .ok d τ
  | some (.mu d) => .ok d τ
  | _ => .stuck
/-- taken out of its slot -/
def move (i : Nat) : M D := fun τ => match τ[i]? with
  | some (.ow d) => .ok d (τ.set i .no)
  | _ => .stuck
theorem Rel.give {i : Nat} (R : Rel g γ τ σ H) (h : τ[i]? = some (.ow d)) {a : Addr} (ha : σ[i]? = some (some (.ref a))) (c : Cont g H (Av γ τ σ) a d) (s : Slot) (hs : s = .no ∨ s = .im d) :
    Rel g γ (τ.set i s) σ H ∧ Kp (Own τ σ) H (Own (τ.set i s) σ) H ∧ ¬ Av γ (τ.set i s) σ a ∧ Kp (Av γ τ σ) H (Av γ (τ.set i s) σ) H := by
  have es : σ.set i (some (.ref a)) = σ := by
    apply List.ext_getElem?
    intro j
    by_cases hj : j = i
    · subst hj
      have hl : j < σ.length := (List.getElem?_eq_some_iff.mp ha).1
      rw [List.getElem?_set_self hl, ha]
    · rw [List.getElem?_set_ne (Ne.symm hj)]
  have hso : s.isOwn = false := by rcases hs with rfl | rfl <;> rfl
  have oi : OwnAt τ σ i a := ⟨⟨_, h, rfl⟩, ha⟩
  have nO : ¬ Own (τ.set i s) σ a := fun z => by
    rw [← es] at z
    obtain ⟨j, q⟩ := z
    by_cases hj : j = i
    · subst hj; exact ownAt_self_no hso q
    · exact hj (R.inj j i a ((ownAt_ne hj).mp q) oi)
  have nP : ¬ γ.P a := fun z => (R.pal a z).2 ⟨i, oi⟩
  have nA : ¬ Av γ (τ.set i s) σ a := fun z => z.elim nP nO
  have kO : Kp (Own τ σ) H (Own (τ.set i s) σ) H := Kp.less fun b q => by
    rw [← es] at q
    exact own_set_sub hso q
  have := R.setNo i s (some (.ref a)) hso fun d' e => by
    rcases hs with rfl | rfl
    · cases e
    · cases e
      refine ⟨_, rfl, ?_⟩
      rw [es]
      exact (c.mono (kO.av) rfl).rep nA
  rw [es] at this
  exact ⟨this.1, this.2, nA, kO.av⟩
theorem je_rd (i : Nat) {x : Str} {pos : Pos} (hN : X.N[i]? = some x := by rfl) (hv : Vis X.env.scope x := by first | exact Or.inl rfl | exact Or.inr (Or.inl rfl) | exact Or.inr (Or.inr rfl)) (hd : (x == ("__debug__" : Str)) = false := by decide)
    (hcd : (x == ("__classdict__" : Str)) = false := by decide) : JE X W .im false (.Name x pos) (rd i) := (pe_var hN hv hd hcd).weak fun σ H Q ⟨γ, τ, R, q⟩ => by
  unfold rd at q
  split at q
  · rename_i d h
    obtain ⟨v, e, r⟩ := R.im i d h
    exact ⟨v, e, q v H (fun _ => Same.refl H) ⟨R, Kp.refl, r⟩⟩
  · rename_i d h
    obtain ⟨a, e, c⟩ := R.ow i d h
    obtain ⟨R', k', n, kA⟩ := R.give h e c (.im d) (.inr rfl)
    exact ⟨_, e, q _ H (fun _ => Same.refl H) ⟨R', k', (c.mono kA rfl).rep n⟩⟩
  · exact q.elim
theorem je_look (i : Nat) {x : Str} {pos : Pos} (hN : X.N[i]? = some x := by rfl) (hv : Vis X.env.scope x := by first | exact Or.inl rfl | exact Or.inr (Or.inl rfl) | exact Or.inr (Or.inr rfl)) (hd : (x == ("__debug__" : Str)) = false := by decide)
    (hcd : (x == ("__classdict__" : Str)) = false := by decide) : JE X W .ln false (.Name x pos) (look i) := (pe_var hN hv hd hcd).weak fun σ H Q ⟨γ, τ, R, q⟩ => by
  unfold look at q
  split at q
  · rename_i d h
    obtain ⟨v, e, r⟩ := R.im i d h
    exact ⟨v, e, q v H (fun _ => Same.refl H) ⟨R, Kp.refl, .inl r⟩⟩
  · rename_i d h
    obtain ⟨a, e, c⟩ := R.ow i d h
    exact ⟨_, e, q _ H (fun _ => Same.refl H) ⟨R, Kp.refl, .inr ⟨a, rfl, c⟩⟩⟩
  · rename_i d h
    obtain ⟨e, c⟩ := R.mu i d h
    exact ⟨_, e, q _ H (fun _ => Same.refl H) ⟨R, Kp.refl, .inr ⟨_, rfl, c⟩⟩⟩
  · exact q.elim
theorem je_move (i : Nat) {x : Str} {pos : Pos} (hN : X.N[i]? = some x := by rfl) (hv : Vis X.env.scope x := by first | exact Or.inl rfl | exact Or.inr (Or.inl rfl) | exact Or.inr (Or.inr rfl)) (hd : (x == ("__debug__" : Str)) = false := by decide)
    (hcd : (x == ("__classdict__" : Str)) = false := by decide) : JE X W .fr false (.Name x pos) (move i) := (pe_var hN hv hd hcd).weak fun σ H Q ⟨γ, τ, R, q⟩ => by
  unfold move at q
  split at q
  · rename_i d h
    obtain ⟨a, e, c⟩ := R.ow i d h
    obtain ⟨R', k', n, kA⟩ := R.give h e c .no (.inl rfl)
    refine ⟨_, e, q _ H (fun _ => Same.refl H) ⟨a, rfl, ?_, fun z => n (.inl z), Kp.less fun b z => ?_, c.mono ?_ rfl⟩⟩
    · -- set apart
      have kw : Kp (Av γ τ σ) H (Av (γ.with a) (τ.set i .no) σ) H := Kp.less fun b z => by
        rcases z with (z | z) | z
        · exact .inl z
        · subst z; exact .inr ⟨i, ⟨_, h, rfl⟩, e⟩
        · by_cases hb : Own τ σ b
          · exact .inr hb
          · obtain ⟨u, hu⟩ := R'.ownThere z
            exact absurd z (k' b u hu hb).2
      have ci : ∀ {b d}, Cont X.g H (Av γ τ σ) b d → Cont X.g H (Av (γ.with a) (τ.set i .no) σ) b d := fun c => c.mono kw rfl
      have nei : ∀ {j s}, (τ.set i Slot.no)[j]? = some s → s ≠ .no → j ≠ i := fun {j s} hj hs z => by
        subst z
        rw [List.getElem?_set_self (List.getElem?_eq_some_iff.mp h).1] at hj
        cases hj
        exact hs rfl
      refine ⟨R'.len, fun j d' hj => ?_, fun j d' hj => ?_, fun j d' hj => ?_, R'.inj, fun b hb => ?_⟩
      · have ne := nei hj (by intro z; cases z)
        rw [List.getElem?_set_ne (Ne.symm ne)] at hj
        obtain ⟨v, e2, r⟩ := R.im j d' hj
        exact ⟨v, e2, r.kp kw⟩
      · have ne := nei hj (by intro z; cases z)
        rw [List.getElem?_set_ne (Ne.symm ne)] at hj
        obtain ⟨b, e2, c2⟩ := R.ow j d' hj
        exact ⟨b, e2, ci c2⟩
      · have ne := nei hj (by intro z; cases z)
        rw [List.getElem?_set_ne (Ne.symm ne)] at hj
        obtain ⟨e2, c2⟩ := R.mu j d' hj
        exact ⟨e2, ci c2⟩
      · rcases hb with hb | hb
        · exact R'.pal b hb
        · subst hb
          exact ⟨c.th, fun z => n (.inr z)⟩
    · rcases z with z | z
      · by_cases hb : Own τ σ b
        · exact hb
        · obtain ⟨u, hu⟩ := R'.ownThere z
          exact absurd z (k' b u hu hb).2
      · subst z; exact ⟨i, ⟨_, h, rfl⟩, e⟩
    · refine Kp.less fun b z => ?_
      rcases z with (z | z) | z
      · exact .inl z
      · subst z; exact .inr ⟨i, ⟨_, h, rfl⟩, e⟩
      · by_cases hb : Own τ σ b
        · exact .inr hb
        · obtain ⟨u, hu⟩ := R'.ownThere z
          exact absurd z (k' b u hu hb).2
  · exact q.elim
end
end PL

namespace PL
open PySem PySem.Spec PyProof.Rows L2

section
variable {g : Gc} {H H' : Hp} {A : Addr → Prop} {v x y : V} {d : D} {a : Addr}
theorem LRep.int {i : Int} (h : LRep g H A v (.int i)) : v = .int i := by
  rcases h with h | ⟨a, _, c⟩
  · cases h; rfl
  · cases c
theorem LRep.bl {b : Bool} (h : LRep g H A v (.bl b)) : v = .bl b := by
  rcases h with h | ⟨a, _, c⟩
  · cases h; rfl
  · cases c
theorem LRep.non (h : LRep g H A v .non) : v = .non := by
  rcases h with h | ⟨a, _, c⟩
  · cases h; rfl
  · cases c
theorem LRep.str {l : List Nat} (h : LRep g H A v (.str l)) : v = .str (S l) := by
  rcases h with h | ⟨a, _, c⟩
  · cases h; rfl
  · cases c
theorem LRep.lst {ds : List D} (h : LRep g H A v (.lst ds)) : ∃ a vs, v = .ref a ∧ H a = some (.lst vs) ∧ RepA g H A vs ds := by
  rcases h with h | ⟨a, e, c⟩
  · cases h with
    | lst h n r => exact ⟨_, _, rfl, h, r⟩
  · cases c with
    | lst h r => exact ⟨_, _, e, h, r⟩
theorem LRep.tup {ds : List D} (h : LRep g H A v (.tup ds)) : ∃ a vs, v = .ref a ∧ AtT H A a vs ∧ RepA g H A vs ds := by
  rcases h with h | ⟨a, e, c⟩
  · cases h with
    | tup h r => exact ⟨_, _, rfl, h, r⟩
  · cases c
theorem LRep.fz {ds : List D} (h : LRep g H A v (.fz ds)) : ∃ a vs, v = .ref a ∧ AtF g H A a vs ∧ RepA g H A vs ds := by
  rcases h with h | ⟨a, e, c⟩
  · cases h with
    | fz h r => exact ⟨_, _, rfl, h, r⟩
  · cases c
theorem LRep.dK {es : List (Key × D)} (h : LRep g H A v (.dK es)) : ∃ a kvs, v = .ref a ∧ H a = some (.dK kvs) ∧ kvs.map (·.1) = es.map (·.1) ∧ RepA g H A (kvs.map (·.2)) (es.map (·.2)) := by
  rcases h with h | ⟨a, e, c⟩
  · cases h with
    | dK h n e r => exact ⟨_, _, rfl, h, e, r⟩
  · cases c with
    | dK h q r => exact ⟨_, _, e, h, q, r⟩
theorem LRep.dT {es : List (List Key × D)} (h : LRep g H A v (.dT es)) : ∃ a kvs, v = .ref a ∧ H a = some (.dT kvs) ∧ kvs.map (·.1) = es.map (·.1) ∧ RepA g H A (kvs.map (·.2)) (es.map (·.2)) := by
  rcases h with h | ⟨a, e, c⟩
  · cases h with
    | dT h n e r => exact ⟨_, _, rfl, h, e, r⟩
  · cases c with
    | dT h q r => exact ⟨_, _, e, h, q, r⟩
theorem LRep.mt {ds : List D} (h : LRep g H A v (.mt ds)) : ∃ a vs, v = .ref a ∧ SqT g.K (fun _ => none) a vs ∧ RepA g H A vs ds := by
  rcases h with h | ⟨a, e, c⟩
  · cases h with
    | mt h r => exact ⟨_, _, rfl, h, r⟩
  · cases c
theorem LRep.fk {es : List (Key × D)} (h : LRep g H A v (.fk es)) : ∃ a kvs, v = .ref a ∧ (∃ o, H a = some (.frz o (.dK kvs))) ∧ kvs.map (·.1) = es.map (·.1) ∧ RepA g H A (kvs.map (·.2)) (es.map (·.2)) := by
  rcases h with h | ⟨a, e, c⟩
  · cases h with
    | fk h n e r => exact ⟨_, _, rfl, h, e, r⟩
  · cases c
theorem LRep.ft {es : List (List Key × D)} (h : LRep g H A v (.ft es)) : ∃ a kvs, v = .ref a ∧ (∃ o, H a = some (.frz o (.dT kvs))) ∧ kvs.map (·.1) = es.map (·.1) ∧ RepA g H A (kvs.map (·.2)) (es.map (·.2)) := by
  rcases h with h | ⟨a, e, c⟩
  · cases h with
    | ft h n e r => exact ⟨_, _, rfl, h, e, r⟩
  · cases c
theorem LRep.exc {n : Str} (h : LRep g H A v (.exc n)) : ∃ a c, v = .ref a ∧ H a = some (ExI c a) ∧ g.mg n = some (.ref c) := by
  rcases h with h | ⟨a, e, c⟩
  · cases h with
    | exc h n e => exact ⟨_, _, rfl, h, e⟩
  · cases c
theorem sqT_up {K : PySem.W.Frag} {a : Addr} {vs : List V} (h : SqT K (fun _ => none) a vs) : SqT K H a vs := by
  rcases h with (h | ⟨o, h⟩) | h
  · cases h
  · cases h
  · exact .inr h
theorem sqL_up {K : PySem.W.Frag} {a : Addr} {vs : List V} (h : SqL K (fun _ => none) a vs) : SqL K H a vs := by
  rcases h with (h | ⟨o, h⟩) | h
  · cases h
  · cases h
  · exact .inr h
theorem AtF.sq {vs : List V} (h : AtF g H A a vs) : SqL g.K H a vs := h.elim (fun ⟨o, q, _⟩ => .inl (.inr ⟨o, q⟩)) sqL_up
theorem AtT.sq {vs : List V} (h : AtT H A a vs) : SqT g.K H a vs := .inl (.inl h.1)
theorem RepA.length : ∀ {vs : List V} {ds : List D}, RepA g H A vs ds → vs.length = ds.length
  | _, _, .nil => rfl
  | _, _, .cons _ r => congrArg (· + 1) r.length
theorem RepA.get : ∀ {vs : List V} {ds : List D} {i : Nat} {d : D}, RepA g H A vs ds → ds[i]? = some d → ∃ v, vs[i]? = some v ∧ Rep g H A v d
  | _, _, _, _, .nil, e => by simp at e
  | _, _, 0, _, .cons h _, e => by simp at e; subst e; exact ⟨_, rfl, h⟩
  | _, _, i + 1, d, .cons _ r, e => by
    obtain ⟨v, h1, h2⟩ := RepA.get (i := i) (d := d) r (by simpa using e)
    exact ⟨v, by simpa using h1, h2⟩
theorem RepA.append : ∀ {vs ws : List V} {ds es : List D}, RepA g H A vs ds → RepA g H A ws es → RepA g H A (vs ++ ws) (ds ++ es)
  | _, _, _, _, .nil, s => s
  | _, _, _, _, .cons h r, s => .cons h (r.append s)
theorem RepA.take : ∀ {vs : List V} {ds : List D} (n : Nat), RepA g H A vs ds → RepA g H A (vs.take n) (ds.take n)
  | _, _, 0, _ => .nil
  | _, _, _ + 1, .nil => .nil
  | _, _, n + 1, .cons h r => .cons h (r.take n)
theorem RepA.drop : ∀ {vs : List V} {ds : List D} (n : Nat), RepA g H A vs ds → RepA g H A (vs.drop n) (ds.drop n)
  | _, _, 0, r => r
  | _, _, _ + 1, .nil => .nil
  | _, _, n + 1, .cons _ r => r.drop n
theorem RepA.reverse {vs : List V} {ds : List D} (r : RepA g H A vs ds) : RepA g H A vs.reverse ds.reverse := by
  induction vs generalizing ds with
  | nil => cases r; exact .nil
  | cons v vs ih =>
    cases r with
    | cons h r =>
      rw [List.reverse_cons, List.reverse_cons]
      exact (ih r).append (.cons h .nil)
theorem RepA.set : ∀ {vs : List V} {ds : List D} {v : V} {d : D} (i : Nat), RepA g H A vs ds → Rep g H A v d → RepA g H A (vs.set i v) (ds.set i d)
  | _, _, _, _, _, .nil, _ => .nil
  | _, _, _, _, 0, .cons _ r, h => .cons h r
  | _, _, _, _, i + 1, .cons q r, h => .cons q (r.set i h)
theorem RepA.eraseIdx : ∀ {vs : List V} {ds : List D} (i : Nat), RepA g H A vs ds → RepA g H A (vs.eraseIdx i) (ds.eraseIdx i)
  | _, _, _, .nil => .nil
  | _, _, 0, .cons _ r => r
  | _, _, i + 1, .cons q r => .cons q (r.eraseIdx i)
theorem RepA.dropLast {vs : List V} {ds : List D} (r : RepA g H A vs ds) : RepA g H A vs.dropLast ds.dropLast := by
  rw [List.dropLast_eq_take, List.dropLast_eq_take, r.length]
  exact r.take _
theorem RepA.ints : ∀ {vs : List V} {ns : List Int}, RepA g H A vs (ns.map D.int) → vs = ns.map V.int
  | _, [], .nil => rfl
  | _, n :: ns, .cons h r => by
    cases h
    rw [r.ints] <;> rfl
theorem RepA.strs : ∀ {vs : List V} {ns : List (List Nat)}, RepA g H A vs (ns.map D.str) → vs = ns.map fun l => V.str (S l)
  | _, [], .nil => rfl
  | _, n :: ns, .cons h r => by
    cases h
    rw [r.strs] <;> rfl
/-- a new tuple -/
theorem out_tup {vs : List V} {ds : List D} {p : Addr} (hA : ∀ a, A a → ∃ u, H a = some u) (r : RepA g H A vs ds) (hp : H p = none) : Out .im g H A (upd H p (.tup vs)) (.ref p) (.tup ds) := by
  have s : Same H (upd H p (.tup vs)) := fun b o e => by rw [upd_ne (ne_of_none e hp)]; exact e
  refine ⟨s, .tup ⟨upd_same, fun q => ?_⟩ (r.kp (Same.kp s fun _ q => q))⟩
  obtain ⟨u, e⟩ := hA p q
  rw [hp] at e; cases e
/-- a new list -/
theorem out_lst {k : Kd} {vs : List V} {ds : List D} {p : Addr} (hk : k ≠ .ln) (hA : ∀ a, A a → ∃ u, H a = some u) (r : RepA g H A vs ds) (hp : H p = none) : Out k g H A (upd H p (.lst vs)) (.ref p) (.lst ds) := by
  have s : Same H (upd H p (.lst vs)) := fun b o e => by rw [upd_ne (ne_of_none e hp)]; exact e
  have np : ¬ A p := fun q => by
    obtain ⟨u, e⟩ := hA p q
    rw [hp] at e; cases e
  cases k with
  | ln => exact absurd rfl hk
  | im => exact ⟨s, .lst upd_same np (r.kp (Same.kp s fun _ q => q))⟩
  | fr => exact ⟨s, p, rfl, hp, .lst upd_same (r.kp fun a o e n => ⟨s a o e, fun q => q.elim n (ne_of_none e hp)⟩)⟩
theorem out_flat {z : D} (r : ∀ H A, Rep g H A v z) : Out .im g H A H v z := ⟨Same.refl H, r _ _⟩

/-! ### operations of two values -/
def Op2 (k : Kd) (g : Gc) (r : R2) (o : D → D → Option D) : Prop := ∀ (H : Hp) (A : Addr → Prop) (x y : V) (d e z : D) (Q : VK), (∀ a, A a → ∃ u, H a = some u) → LRep g H A x d → LRep g H A y e → o d e = some z →
  (∀ v H', Out k g H A H' v z → Q v H') → r x y H Q
def r2or (r s : R2) : R2 := fun x y H Q => r x y H Q ∨ s x y H Q
theorem OpR.or' {X : Cx} {f : Value → Value → Sem Value} {r s : R2} (h : OpR X f r) (k : OpR X f s) : OpR X f (r2or r s) := by
  intro pins st σ H x y v u Q I rx ry q
  rcases q with q | q
  · exact h pins st σ H x y v u Q I rx ry q
  · exact k pins st σ H x y v u Q I rx ry q
def o2or (o p : D → D → Option D) : D → D → Option D := fun d e => match o d e with
  | some z => some z
  | none => p d e
theorem Op2.or {k : Kd} {r s : R2} {o p : D → D → Option D} (h : Op2 k g r o) (h' : Op2 k g s p) : Op2 k g (r2or r s) (o2or o p) := fun H A x y d e z Q hA rx ry ho q => by
  unfold o2or at ho
  split at ho
  · rename_i z' e'
    cases ho
    exact .inl (h H A x y d e _ Q hA rx ry e' q)
  · exact .inr (h' H A x y d e z Q hA rx ry ho q)

def oAdd : D → D → Option D
  | .int i, .int j => some (.int (i + j))
  | .str a, .str b => if a.length + b.length ≤ 16777216 then some (.str (a ++ b)) else none
  | .lst a, .lst b => if a.length + b.length ≤ 16777216 then some (.lst (a ++ b)) else none
  | .tup a, .tup b => if a ≠ [] ∧ b ≠ [] ∧ a.length + b.length ≤ 16777216 then some (.tup (a ++ b)) else none
  | _, _ => none
def rAddAll (K : PySem.W.Frag) : R2 := r2or (rI0 fun i j => .int (i + j)) (r2or (fun x y H Q => ∃ i j, x = .str i ∧ y = .str j ∧ i.length + j.length ≤ sizeLine ∧ Q (.str (i ++ j)) H) (r2or rCat (rCatT K)))
theorem op_addAll {X : Cx} : OpR X (binaryOp .Add) (rAddAll X.K) := OpR.or' op_add (OpR.or' op_add_str (OpR.or' op_cat op_catT))
theorem RepA.nil_iff {vs : List V} {ds : List D} (r : RepA g H A vs ds) : vs = [] ↔ ds = [] := by
  cases r <;> simp
theorem o2_add {k : Kd} (hk : k = .im) : Op2 k g (rAddAll g.K) oAdd := fun H A x y d e z Q hA rx ry ho q => by
  subst hk
  unfold oAdd at ho
  split at ho
  · cases ho
    rw [rx.int, ry.int]
    exact .inl ⟨_, _, rfl, rfl, q _ _ (out_flat fun _ _ => .int _)⟩
  · split at ho
    · rename_i hz
      cases ho
      rw [rx.str, ry.str]
      refine .inr (.inl ⟨_, _, rfl, rfl, by rw [S_len, S_len]; exact hz, ?_⟩)
      rw [S_add]
      exact q _ _ (out_flat fun _ _ => .str _)
    · cases ho
  · split at ho
    · rename_i hz
      cases ho
      obtain ⟨a, vs, rfl, ha, ra⟩ := rx.lst
      obtain ⟨b, ws, rfl, hb, rb⟩ := ry.lst
      exact .inr (.inr (.inl ⟨a, b, vs, ws, rfl, rfl, ha, hb, by rw [ra.length, rb.length]; exact hz, fun p hp => q _ _ (out_lst (by decide) hA (ra.append rb) hp)⟩))
    · cases ho
  · split at ho
    · rename_i hz
      cases ho
      obtain ⟨a, vs, rfl, ha, ra⟩ := rx.tup
      obtain ⟨b, ws, rfl, hb, rb⟩ := ry.tup
      refine .inr (.inr (.inr ⟨a, b, vs, ws, rfl, rfl, ha.sq, hb.sq, fun z => hz.1 (ra.nil_iff.mp z), by rw [ra.length, rb.length]; exact hz.2.2, fun z => absurd (rb.nil_iff.mp z) hz.2.1, fun _ p hp => q _ _ (out_tup hA (ra.append rb) hp)⟩))
    · cases ho
  · cases ho
/-- lists alone; a new list -/
def oCat : D → D → Option D
  | .lst a, .lst b => if a.length + b.length ≤ 16777216 then some (.lst (a ++ b)) else none
  | _, _ => none
theorem o2_cat : Op2 .fr g rCat oCat := fun H A x y d e z Q hA rx ry ho q => by
  unfold oCat at ho
  split at ho
  · split at ho
    · rename_i hz
      cases ho
      obtain ⟨a, vs, rfl, ha, ra⟩ := rx.lst
      obtain ⟨b, ws, rfl, hb, rb⟩ := ry.lst
      exact ⟨a, b, vs, ws, rfl, rfl, ha, hb, by rw [ra.length, rb.length]; exact hz, fun p hp => q _ _ (out_lst (by decide) hA (ra.append rb) hp)⟩
    · cases ho
  · cases ho
/-- two ints -/
def oI (c : Int → Int → Bool) (f : Int → Int → D) : D → D → Option D
  | .int i, .int j => if c i j = true then some (f i j) else none
  | _, _ => none
theorem o2_I {C : Int → Int → Prop} {c : Int → Int → Bool} {f : Int → Int → D} {h : Int → Int → V} (hc : ∀ i j, c i j = true → C i j) (hf : ∀ i j H A, Rep g H A (h i j) (f i j)) : Op2 .im g (rI C h) (oI c f) := fun H A x y d e z Q hA rx ry ho q => by
  unfold oI at ho
  split at ho
  · split at ho
    · rename_i hz
      cases ho
      rw [rx.int, ry.int]
      exact ⟨_, _, rfl, rfl, hc _ _ hz, q _ _ (out_flat fun _ _ => hf _ _ _ _)⟩
    · cases ho
  · cases ho
theorem o2_I0 {f : Int → Int → D} {h : Int → Int → V} (hf : ∀ i j H A, Rep g H A (h i j) (f i j)) : Op2 .im g (rI0 h) (oI (fun _ _ => true) f) := fun H A x y d e z Q hA rx ry ho q => by
  unfold oI at ho
  split at ho
  · split at ho
    · rename_i hz
      cases ho
      rw [rx.int, ry.int]
      exact ⟨_, _, rfl, rfl, q _ _ (out_flat fun _ _ => hf _ _ _ _)⟩
    · cases ho
  · cases ho
def oSub : D → D → Option D := oI (fun _ _ => true) fun i j => .int (i - j)
theorem o2_sub : Op2 .im g (rI0 fun i j => .int (i - j)) oSub := o2_I0 fun _ _ _ _ => .int _
def oMul : D → D → Option D := oI (fun i j => decide (i.natAbs.log2 + j.natAbs.log2 < 1000000)) fun i j => .int (i * j)
theorem o2_mul : Op2 .im g (rI CMulW fun i j => .int (i * j)) oMul := o2_I (fun i j h => show i.natAbs.log2 + j.natAbs.log2 < 1000000 from of_decide_eq_true h) fun _ _ _ _ => .int _
def oDiv : D → D → Option D := oI (fun _ j => decide (0 < j ∧ j.natAbs.log2 < 9000)) fun i j => .int (i / j)
theorem o2_div : Op2 .im g (rI CDivW fun i j => .int (i / j)) oDiv := o2_I (fun i j h => show 0 < j ∧ j.natAbs.log2 < 9000 from of_decide_eq_true h) fun _ _ _ _ => .int _
def oMod : D → D → Option D := oI (fun _ j => decide (0 < j)) fun i j => .int (i % j)
theorem o2_mod : Op2 .im g (rI (fun _ j => 0 < j) fun i j => .int (i % j)) oMod := o2_I (fun i j h => of_decide_eq_true h) fun _ _ _ _ => .int _
def oPow : D → D → Option D := oI (fun i j => decide (0 ≤ j ∧ j ≤ 1000000 ∧ i.natAbs < 2 ^ 64)) fun i j => .int (i ^ j.toNat)
theorem o2_pow : Op2 .im g (rI CPow fun i j => .int (i ^ j.toNat)) oPow := o2_I (fun i j h => show 0 ≤ j ∧ j ≤ 1000000 ∧ i.natAbs < 2 ^ 64 from of_decide_eq_true h) fun _ _ _ _ => .int _
end

section
variable {X : Cx} {W : WX} {k1 k2 kr : Kd} {m1 m2 : Bool} {a b : Expr} {fa fb : M D} {r : R2} {o : D → D → Option D} {pos : Pos}
def op2 (o : D → D → Option D) (fa fb : M D) : M D := andThen fa fun x => andThen fb fun y => lift (o x y)
theorem Rel.avTh' {g : Gc} {γ : G} {τ : PS0} {σ : L2.St} {H : Hp} (R : Rel g γ τ σ H) : ∀ a, Av γ τ σ a → Th H a := fun _ h => R.avTh h
theorem Rel.avT {g : Gc} {γ : G} {τ : PS0} {σ : L2.St} {H : Hp} (R : Rel g γ τ σ H) : ∀ a, Av γ τ σ a → ∃ u, H a = some u := fun _ h => R.avThere h
theorem tE_op2 (hr : Op2 kr X.g r o) (hk : k1 ≠ .ln ∨ m2 = false) (hkr : kr ≠ .ln) (σ : L2.St) (H : Hp) (Q : VK) (h : tE X.g W kr (m1 || m2) (op2 o fa fb) σ H Q) : tOp r (tE X.g W k1 m1 fa) (tE X.g W k2 m2 fb) σ H Q := by
  obtain ⟨γ, τ, R, h⟩ := h
  unfold op2 at h
  rw [fit_bind] at h
  refine tE_bin (Kc := fun x y H2 => r x y H2 Q) hk R (h.mono (fun d τ1 h => ?_) fun _ _ q => q)
  rw [fit_bind] at h
  refine h.mono (fun e τ2 h x y H2 s2 R2 kp vx vy => ?_) fun _ _ q => q
  obtain ⟨z, ez, h⟩ := fit_lift.mp h
  refine hr H2 (Av γ τ2 σ) x y d e z Q R2.avT vx.l vy.l ez fun v H' o => h v H' (fun q => (s2 q).trans o.1) (PostE.of_out R2 kp hkr o)
theorem je_op {op : Operator} (ho : OpR X (binaryOp op) r) (hr : Op2 kr X.g r o) (ha : JE X W k1 m1 a fa) (hb : JE X W k2 m2 b fb) (hk : k1 ≠ .ln ∨ m2 = false := by first | exact .inr rfl | exact .inl (by decide)) (hkr : kr ≠ .ln := by decide) :
    JE X W kr (m1 || m2) (.BinOp a op b pos) (op2 o fa fb) := (pe_op ho ha hb).weak (tE_op2 hr hk hkr)
theorem je_cmp {op : CmpOp} (ho : OpR X (compareOp op) r) (hr : Op2 kr X.g r o) (ha : JE X W k1 m1 a fa) (hb : JE X W k2 m2 b fb) (hm : behindInMarks op b = false := by first | exact nomark _ | rfl) (hk : k1 ≠ .ln ∨ m2 = false := by first | exact .inr rfl | exact .inl (by decide)) (hkr : kr ≠ .ln := by decide) :
    JE X W kr (m1 || m2) (.Compare a [op] [b] pos) (op2 o fa fb) := (pe_cmpR ho ha hb hm).weak (tE_op2 hr hk hkr)
/-- a truth value -/
def asB : D → Option Bool
  | .bl b => some b
  | _ => none
def tst (f : M D) : M Bool := andThen f fun d => lift (asB d)
theorem jt_cmp {op : CmpOp} (ho : OpR X (compareOp op) r) (hr : Op2 kr X.g r o) (ha : JE X W k1 m1 a fa) (hb : JE X W k2 m2 b fb) (hm : behindInMarks op b = false := by first | exact nomark _ | rfl) (hk : k1 ≠ .ln ∨ m2 = false := by first | exact .inr rfl | exact .inl (by decide)) (hkr : kr ≠ .ln := by decide) :
    JT X W (m1 || m2) (.Compare a [op] [b] pos) (tst (op2 o fa fb)) := (pt_cmpR ho ha hb hm).weak fun σ H Q h => by
  refine tE_op2 hr hk hkr σ H _ ?_
  obtain ⟨γ, τ, R, h⟩ := h
  unfold tst at h
  rw [fit_bind] at h
  refine ⟨γ, τ, R, h.mono (fun d τ' h v H' s P => ?_) fun _ _ q => q⟩
  obtain ⟨c, ec, h⟩ := fit_lift.mp h
  obtain ⟨R', kp, vr⟩ := P.val
  cases d with
  | bl q =>
    cases ec
    exact ⟨_, vr.l.bl, h H' s R' kp⟩
  | _ => cases ec
theorem jt_val (ha : JE X W k1 m1 a fa) (he : ∀ whole, isTrue a X.env whole = (do let v ← whole; standAt a.pos; holding [v] (truthy v)) := by intro _; rfl) : JT X W m1 a (tst fa) := (pt_val ha he).weak fun σ H Q h => by
  obtain ⟨γ, τ, R, h⟩ := h
  unfold tst at h
  rw [fit_bind] at h
  refine ⟨γ, τ, R, h.mono (fun d τ' h v H' s P => ?_) fun _ _ q => q⟩
  obtain ⟨c, ec, h⟩ := fit_lift.mp h
  obtain ⟨R', kp, vr⟩ := P.val
  cases d with
  | bl q =>
    cases ec
    exact ⟨_, vr.l.bl, h H' s R' kp⟩
  | _ => cases ec
end
end PL

namespace PL
open PySem PySem.Spec PyProof.Rows L2

/-! ### equality -/
mutual
def toPy : D → PyData
  | .non => .none
  | .bl b => .bool b
  | .int i => .int i
  | .str x => .str (S x)
  | .lst xs => .list (toPyA xs)
  | .tup xs => .tuple (toPyA xs)
  | _ => .none
def toPyA : List D → List PyData
  | [] => []
  | x :: xs => toPy x :: toPyA xs
end
mutual
/-- told apart by what it holds: no dict, no error within, not too deep -/
def pl (n : Nat) : D → Bool
  | .non => true
  | .bl _ => true
  | .int _ => true
  | .str x => x.all fun c => decide (c < 1114112)
  | .lst xs => match n with
    | 0 => false
    | n + 1 => plA n xs
  | .tup xs => match n with
    | 0 => false
    | n + 1 => plA n xs
  | _ => false
def plA (n : Nat) : List D → Bool
  | [] => true
  | x :: xs => pl n x && plA n xs
end
mutual
def eqD : D → D → Bool
  | .non, .non => true
  | .bl a, .bl b => a == b
  | .bl a, .int j => (if a then 1 else 0) == j
  | .int i, .bl b => i == (if b then 1 else 0)
  | .int i, .int j => i == j
  | .str x, .str y => x == y
  | .lst xs, .lst ys => eqDA xs ys
  | .tup xs, .tup ys => eqDA xs ys
  | _, _ => false
def eqDA : List D → List D → Bool
  | [], [] => true
  | x :: xs, y :: ys => eqD x y && eqDA xs ys
  | _, _ => false
end
theorem plA_all (n : Nat) : ∀ xs : List D, plA n xs = xs.all (pl n)
  | [] => rfl
  | x :: xs => by
    unfold plA
    rw [List.all_cons, plA_all n xs]
theorem toPyA_map : ∀ xs : List D, toPyA xs = xs.map toPy
  | [] => rfl
  | x :: xs => by
    unfold toPyA
    rw [List.map_cons, toPyA_map xs]
mutual
theorem pl_lay : ∀ (n : Nat) (d : D), pl n d = true → PyData.canLay0 (toPy d) = true ∧ (toPy d).depth ≤ n
  | n, .non, _ => ⟨rfl, Nat.zero_le _⟩
  | n, .bl _, _ => ⟨rfl, Nat.zero_le _⟩
  | n, .int _, _ => ⟨rfl, Nat.zero_le _⟩
  | n, .str x, h => by
    refine ⟨?_, Nat.zero_le _⟩
    unfold pl at h
    show (S x).cps.all (fun c => decide (c < 0x110000)) = true
    rw [← Array.all_toList]
    exact h
  | 0, .lst xs, h => by unfold pl at h; cases h
  | n + 1, .lst xs, h => by
    unfold pl at h
    obtain ⟨a, b⟩ := plA_lay n xs h
    exact ⟨a, Nat.succ_le_succ b⟩
  | 0, .tup xs, h => by unfold pl at h; cases h
  | n + 1, .tup xs, h => by
    unfold pl at h
    obtain ⟨a, b⟩ := plA_lay n xs h
    exact ⟨a, Nat.succ_le_succ b⟩
  | n, .dK _, h => by unfold pl at h; cases h
  | n, .dT _, h => by unfold pl at h; cases h
  | n, .exc _, h => by unfold pl at h; cases h
  | n, .mt _, h => by unfold pl at h; cases h
  | n, .fk _, h => by unfold pl at h; cases h
  | n, .ft _, h => by unfold pl at h; cases h
  | n, .fz _, h => by unfold pl at h; cases h
theorem plA_lay : ∀ (n : Nat) (xs : List D), plA n xs = true → PyData.canLayAll0 (toPyA xs) = true ∧ PyData.depthAll (toPyA xs) ≤ n
  | n, [], _ => ⟨rfl, Nat.zero_le _⟩
  | n, x :: xs, h => by
    unfold plA at h
    rw [Bool.and_eq_true] at h
    obtain ⟨a, b⟩ := pl_lay n x h.1
    obtain ⟨c, e⟩ := plA_lay n xs h.2
    refine ⟨?_, ?_⟩
    · show (PyData.canLay0 (toPy x) && PyData.canLayAll0 (toPyA xs)) = true
      rw [a, c]; rfl
    · show max (toPy x).depth (PyData.depthAll (toPyA xs)) ≤ n
      omega
end
theorem pl_shaped {n : Nat} {d : D} (hn : n ≤ 64) (h : pl n d = true) : SeqAt.shaped (toPy d) = true := by
  obtain ⟨a, b⟩ := pl_lay n d h
  unfold SeqAt.shaped
  rw [a, decide_eq_true (Nat.le_trans b hn)]
  rfl
theorem S_beq (x y : List Nat) : (S x == S y) = (x == y) := by
  rw [Bool.eq_iff_iff]
  simp only [beq_iff_eq]
  exact ⟨S_inj, fun h => h ▸ rfl⟩
mutual
theorem eqD_py : ∀ (n : Nat) (d e : D), pl n d = true → pl n e = true → PyData.eqv (toPy d) (toPy e) = eqD d e
  | n, .non, e, _, h => by cases e <;> first | rfl | (unfold pl at h; cases h)
  | n, .bl _, e, _, h => by cases e <;> first | rfl | (unfold pl at h; cases h)
  | n, .int _, e, _, h => by cases e <;> first | rfl | (unfold pl at h; cases h)
  | n, .str x, e, _, h => by
    cases e <;> first | rfl | (unfold pl at h; cases h; done) | skip
    exact S_beq _ _
  | n, .lst xs, e, h1, h => by
    cases e <;> first | rfl | (unfold pl at h; cases h; done) | skip
    rename_i ys
    cases n with
    | zero => unfold pl at h; cases h
    | succ n =>
      unfold pl at h h1
      exact eqDA_py n xs ys h1 h
  | n, .tup xs, e, h1, h => by
    cases e <;> first | rfl | (unfold pl at h; cases h; done) | skip
    rename_i ys
    cases n with
    | zero => unfold pl at h; cases h
    | succ n =>
      unfold pl at h h1
      exact eqDA_py n xs ys h1 h
  | n, .dK _, e, h, _ => by unfold pl at h; cases h
  | n, .dT _, e, h, _ => by unfold pl at h; cases h
  | n, .exc _, e, h, _ => by unfold pl at h; cases h
  | n, .mt _, e, h, _ => by unfold pl at h; cases h
  | n, .fk _, e, h, _ => by unfold pl at h; cases h
  | n, .ft _, e, h, _ => by unfold pl at h; cases h
  | n, .fz _, e, h, _ => by unfold pl at h; cases h
theorem eqDA_py : ∀ (n : Nat) (xs ys : List D), plA n xs = true → plA n ys = true → PyData.eqvAll (toPyA xs) (toPyA ys) = eqDA xs ys
  | n, [], [], _, _ => rfl
  | n, [], _ :: _, _, _ => rfl
  | n, _ :: _, [], _, _ => rfl
  | n, x :: xs, y :: ys, h1, h2 => by
    unfold plA at h1 h2
    rw [Bool.and_eq_true] at h1 h2
    show (PyData.eqv (toPy x) (toPy y) && PyData.eqvAll (toPyA xs) (toPyA ys)) = (eqD x y && eqDA xs ys)
    rw [eqD_py n x y h1.1 h2.1, eqDA_py n xs ys h1.2 h2.2]
end
section
variable {g : Gc} {H H' : Hp} {A : Addr → Prop} {v x y : V} {d : D} {a : Addr}
mutual
theorem Rep.dp {n : Nat} : ∀ {d : D} {v : V}, Rep g H A v d → pl n d = true → Dp g.K H v (toPy d)
  | _, _, .non, _ => .non
  | _, _, .bl b, _ => .bl b
  | _, _, .int i, _ => .int i
  | _, _, .str x, _ => .str (S x)
  | _, _, .lst h _ r, p => by
    cases n with
    | zero => unfold pl at p; cases p
    | succ n =>
      unfold pl at p
      exact .lst (.inl (.inl h)) (r.dp p)
  | _, _, .tup h r, p => by
    cases n with
    | zero => unfold pl at p; cases p
    | succ n =>
      unfold pl at p
      exact .tup h.sq (r.dp p)
  | _, _, .fz _ _, p => by unfold pl at p; cases p
  | _, _, .dK _ _ _ _, p => by unfold pl at p; cases p
  | _, _, .dT _ _ _ _, p => by unfold pl at p; cases p
  | _, _, .exc _ _ _, p => by unfold pl at p; cases p
  | _, _, .mt _ _, p => by unfold pl at p; cases p
  | _, _, .fk _ _ _ _, p => by unfold pl at p; cases p
  | _, _, .ft _ _ _ _, p => by unfold pl at p; cases p
theorem RepA.dp {n : Nat} : ∀ {ds : List D} {vs : List V}, RepA g H A vs ds → plA n ds = true → DpAll g.K H vs (toPyA ds)
  | _, _, .nil, _ => .nil
  | _, _, .cons h r, p => by
    unfold plA at p
    rw [Bool.and_eq_true] at p
    exact .cons (h.dp p.1) (r.dp p.2)
end
theorem LRep.dp {n : Nat} (h : LRep g H A v d) (p : pl n d = true) : Dp g.K H v (toPy d) := by
  rcases h with h | ⟨a, rfl, c⟩
  · exact h.dp p
  · cases c with
    | lst h r =>
      cases n with
      | zero => unfold pl at p; cases p
      | succ n =>
        unfold pl at p
        exact .lst (.inl (.inl h)) (r.dp p)
    | dK _ _ _ => unfold pl at p; cases p
    | dT _ _ _ => unfold pl at p; cases p

/-- scalars that == tells apart at once -/
def scD : D → D → Bool
  | .non, .non => true | .non, .int _ => true | .int _, .non => true | .non, .bl _ => true | .bl _, .non => true | .non, .str _ => true | .str _, .non => true
  | .int _, .int _ => true | .bl _, .bl _ => true | .str _, .str _ => true
  | .int _, .str _ => true | .str _, .int _ => true | .bl _, .str _ => true | .str _, .bl _ => true
  | _, _ => false
def oEq : D → D → Option D := fun d e => if scD d e || (pl 60 d && pl 60 e) then some (.bl (eqD d e)) else none
def oNe : D → D → Option D := fun d e => if scD d e || (pl 60 d && pl 60 e) then some (.bl (!eqD d e)) else none
theorem sc_eq {x y : V} {d e : D} (rx : LRep g H A x d) (ry : LRep g H A y e) (h : scD d e = true) : scal x y = true ∧ decide (x = y) = eqD d e := by
  cases d <;> cases e <;> first
    | exact (Bool.false_ne_true h).elim
    | (first | rw [rx.non] | rw [rx.int] | rw [rx.bl] | rw [rx.str]) <;> (first | rw [ry.non] | rw [ry.int] | rw [ry.bl] | rw [ry.str]) <;> first
      | (refine ⟨rfl, ?_⟩
         unfold eqD
         first
           | (simp; done)
           | (rw [Bool.eq_iff_iff]; simp; done)
           | (rw [← S_beq, Bool.eq_iff_iff]; simp; done))
def rEqAll (K : PySem.W.Frag) : R2 := r2or rEq (rEqD K)
def rNeAll (K : PySem.W.Frag) : R2 := r2or rNe (rNeD K)
theorem op_eqAll {X : Cx} (hu : X.A.units + 64 < cLine) : OpR X (compareOp .Eq) (rEqAll X.K) := OpR.or' op_eq (op_eqD hu)
theorem op_neAll {X : Cx} (hu : X.A.units + 64 < cLine) : OpR X (compareOp .NotEq) (rNeAll X.K) := OpR.or' op_ne (op_neD hu)
theorem o2_eq : Op2 .im g (rEqAll g.K) oEq := fun H A x y d e z Q hA rx ry ho q => by
  unfold oEq at ho
  split at ho
  · rename_i hz
    cases ho
    rw [Bool.or_eq_true, Bool.and_eq_true] at hz
    rcases hz with hz | ⟨h1, h2⟩
    · obtain ⟨s, e⟩ := sc_eq rx ry hz
      exact .inl ⟨s, by rw [e]; exact q _ _ (out_flat fun _ _ => .bl _)⟩
    · refine .inr ⟨_, _, rx.dp h1, ry.dp h2, pl_shaped (by decide) h1, pl_shaped (by decide) h2, ?_⟩
      rw [eqD_py 60 d e h1 h2]
      exact q _ _ (out_flat fun _ _ => .bl _)
  · cases ho
theorem o2_ne : Op2 .im g (rNeAll g.K) oNe := fun H A x y d e z Q hA rx ry ho q => by
  unfold oNe at ho
  split at ho
  · rename_i hz
    cases ho
    rw [Bool.or_eq_true, Bool.and_eq_true] at hz
    rcases hz with hz | ⟨h1, h2⟩
    · obtain ⟨s, e⟩ := sc_eq rx ry hz
      exact .inl ⟨s, by rw [e]; exact q _ _ (out_flat fun _ _ => .bl _)⟩
    · refine .inr ⟨_, _, rx.dp h1, ry.dp h2, pl_shaped (by decide) h1, pl_shaped (by decide) h2, ?_⟩
      rw [eqD_py 60 d e h1 h2]
      exact q _ _ (out_flat fun _ _ => .bl _)
  · cases ho

/-! ### order -/
/-- ints, or texts -/
def oCmp (f : Int → Int → Bool) (s : List Nat → List Nat → Bool) : D → D → Option D
  | .int i, .int j => some (.bl (f i j))
  | .str a, .str b => some (.bl (s a b))
  | _, _ => none
def rCmp (f : Int → Int → Bool) (s : List Nat → List Nat → Bool) : R2 := r2or (rI0 fun i j => .bl (f i j)) (fun x y H Q => ∃ i j, x = .str i ∧ y = .str j ∧ Q (.bl (s i.cps.toList j.cps.toList)) H)
theorem o2_cmp {f : Int → Int → Bool} {s : List Nat → List Nat → Bool} : Op2 .im g (rCmp f s) (oCmp f s) := fun H A x y d e z Q hA rx ry ho q => by
  unfold oCmp at ho
  split at ho
  · cases ho
    rw [rx.int, ry.int]
    exact .inl ⟨_, _, rfl, rfl, q _ _ (out_flat fun _ _ => .bl _)⟩
  · cases ho
    rw [rx.str, ry.str]
    exact .inr ⟨_, _, rfl, rfl, q _ _ (out_flat fun _ _ => .bl _)⟩
  · cases ho
def oLt : D → D → Option D := oCmp (fun i j => decide (i < j)) fun a b => decide (a < b)
def oLe : D → D → Option D := oCmp (fun i j => decide (i ≤ j)) fun a b => !decide (b < a)
def oGt : D → D → Option D := oCmp (fun i j => decide (j < i)) fun a b => decide (b < a)
def oGe : D → D → Option D := oCmp (fun i j => decide (j ≤ i)) fun a b => !decide (a < b)
theorem op_ltA {X : Cx} : OpR X (compareOp .Lt) (rCmp (fun i j => decide (i < j)) fun a b => decide (a < b)) := OpR.or' op_lt op_lt_str
theorem op_leA {X : Cx} : OpR X (compareOp .LtE) (rCmp (fun i j => decide (i ≤ j)) fun a b => !decide (b < a)) := OpR.or' op_le op_le_str
theorem op_gtA {X : Cx} : OpR X (compareOp .Gt) (rCmp (fun i j => decide (j < i)) fun a b => decide (b < a)) := OpR.or' op_gt op_gt_str
theorem op_geA {X : Cx} : OpR X (compareOp .GtE) (rCmp (fun i j => decide (j ≤ i)) fun a b => !decide (a < b)) := OpR.or' op_ge op_ge_str
theorem o2_lt : Op2 .im g (rCmp (fun i j => decide (i < j)) fun a b => decide (a < b)) oLt := o2_cmp
theorem o2_le : Op2 .im g (rCmp (fun i j => decide (i ≤ j)) fun a b => !decide (b < a)) oLe := o2_cmp
theorem o2_gt : Op2 .im g (rCmp (fun i j => decide (j < i)) fun a b => decide (b < a)) oGt := o2_cmp
theorem o2_ge : Op2 .im g (rCmp (fun i j => decide (j ≤ i)) fun a b => !decide (a < b)) oGe := o2_cmp
/-! ### is None -/
def oIsN : D → D → Option D
  | .non, .non => some (.bl true)
  | _, .non => some (.bl false)
  | _, _ => none
def oNotN : D → D → Option D
  | .non, .non => some (.bl false)
  | _, .non => some (.bl true)
  | _, _ => none
theorem lrep_non {v : V} {d : D} (r : LRep g H A v d) : decide (v = V.non) = (match d with | .non => true | _ => false) := by
  rcases r with r | ⟨a, e, c⟩
  · cases r <;> simp
  · subst e
    cases c <;> simp
theorem o2_isN : Op2 .im g (fun x y H Q => y = .non ∧ Q (.bl (decide (x = .non))) H) oIsN := fun H A x y d e z Q hA rx ry ho q => by
  have hx := lrep_non rx
  cases e <;> first | (cases d <;> cases ho; done) | skip
  refine ⟨ry.non, ?_⟩
  rw [hx]
  cases d <;> (cases ho; exact q _ _ (out_flat fun _ _ => .bl _))
theorem o2_notN : Op2 .im g (fun x y H Q => y = .non ∧ Q (.bl (!decide (x = .non))) H) oNotN := fun H A x y d e z Q hA rx ry ho q => by
  have hx := lrep_non rx
  cases e <;> first | (cases d <;> cases ho; done) | skip
  refine ⟨ry.non, ?_⟩
  rw [hx]
  cases d <;> (cases ho; exact q _ _ (out_flat fun _ _ => .bl _))

/-! ### in -/
def flD : D → Bool
  | .non => true | .bl _ => true | .int _ => true | .str _ => true
  | _ => false
def inD (x : D) (xs : List D) : Bool := xs.any fun y => eqD y x
def oIn (neg : Bool) : D → D → Option D
  | d, .lst xs => if (flD d && xs.all flD) || (pl 60 d && pl 60 (.lst xs)) then some (.bl (if neg then !inD d xs else inD d xs)) else none
  | d, .tup xs => if flD d && xs.all flD then some (.bl (if neg then !inD d xs else inD d xs)) else none
  | d, .mt xs => if flD d && xs.all flD then some (.bl (if neg then !inD d xs else inD d xs)) else none
  | .str [c], .str z => some (.bl (if neg then !decide (c ∈ z) else decide (c ∈ z)))
  | .str a, .str z => some (.bl (if neg then !(!(Builtin.Str.occurrences (S z) (S a) 0 z.length 1).isEmpty) else !(Builtin.Str.occurrences (S z) (S a) 0 z.length 1).isEmpty))
  | _, _ => none
theorem flV {v : V} {d : D} (r : Rep g H A v d) : flatV v = flD d := by
  cases r <;> rfl
theorem flVA : ∀ {vs : List V} {ds : List D}, RepA g H A vs ds → vs.all flatV = ds.all flD
  | _, _, .nil => rfl
  | _, _, .cons h r => by rw [List.all_cons, List.all_cons, flV h, flVA r]
theorem flV_l {v : V} {d : D} (r : LRep g H A v d) (h : flD d = true) : flatV v = true := by
  rcases r with r | ⟨a, e, c⟩
  · rw [flV r]; exact h
  · cases c <;> cases h
theorem eqV_fl {v w : V} {d e : D} (r : Rep g H A v d) (q : LRep g H A w e) (h : flD d = true) (h' : flD e = true) : eqV v w = eqD d e := by
  cases r <;> first
    | exact (Bool.false_ne_true h).elim
    | (cases e <;> first
        | exact (Bool.false_ne_true h').elim
        | ((first | rw [q.non] | rw [q.int] | rw [q.bl] | rw [q.str]) <;> first | rfl | exact S_beq _ _))
theorem inV_fl {w : V} {e : D} (q : LRep g H A w e) (h' : flD e = true) : ∀ {vs : List V} {ds : List D}, RepA g H A vs ds → ds.all flD = true → inV w vs = inD e ds
  | _, _, .nil, _ => rfl
  | _, _, .cons h r, p => by
    rw [List.all_cons, Bool.and_eq_true] at p
    unfold inV inD
    rw [List.any_cons, List.any_cons, eqV_fl h q p.1 h']
    exact congrArg _ (inV_fl q h' r p.2)
theorem any_py {e : D} : ∀ {ds : List D}, pl 60 e = true → plA 60 ds = true → (toPyA ds).any (fun z => PyData.eqv z (toPy e)) = inD e ds
  | [], _, _ => rfl
  | d :: ds, h, p => by
    unfold plA at p
    rw [Bool.and_eq_true] at p
    unfold inD toPyA
    rw [List.any_cons, List.any_cons, eqD_py 60 d e p.1 h]
    exact congrArg _ (any_py h p.2)
def rInAll (K : PySem.W.Frag) : R2 := r2or (rIn K false) (r2or (rInD K) (r2or (fun x y H Q => ∃ (c : Nat) (z : Str), x = .str ⟨#[c]⟩ ∧ y = .str z ∧ Q (.bl (decide (c ∈ z.cps.toList))) H) (fun x y H Q => ∃ i j, x = .str i ∧ y = .str j ∧ Q (.bl (!(Builtin.Str.occurrences j i 0 j.length 1).isEmpty)) H)))
def rNotInAll (K : PySem.W.Frag) : R2 := r2or (rIn K true) (r2or (rNotInD K) (r2or (fun x y H Q => ∃ (c : Nat) (z : Str), x = .str ⟨#[c]⟩ ∧ y = .str z ∧ Q (.bl (!decide (c ∈ z.cps.toList))) H) (fun x y H Q => ∃ i j, x = .str i ∧ y = .str j ∧ Q (.bl (!(!(Builtin.Str.occurrences j i 0 j.length 1).isEmpty))) H)))
theorem op_inAll {X : Cx} (hu : X.A.units + 65 < cLine) : OpR X (compareOp .In) (rInAll X.K) := OpR.or' op_in_seq (OpR.or' (op_inD hu) (OpR.or' op_in_sign op_in_str))
theorem op_notInAll {X : Cx} (hu : X.A.units + 65 < cLine) : OpR X (compareOp .NotIn) (rNotInAll X.K) := OpR.or' op_notIn_seq (OpR.or' (op_notInD hu) (OpR.or' op_notIn_sign op_notIn_str))
theorem pl_lst {xs : List D} (h : pl 60 (.lst xs) = true) : plA 59 xs = true := by unfold pl at h; exact h
mutual
theorem pl_up : ∀ (n : Nat) (d : D), pl n d = true → pl (n + 1) d = true
  | n, .non, h => h
  | n, .bl _, h => h
  | n, .int _, h => h
  | n, .str x, h => by unfold pl at h ⊢; exact h
  | 0, .lst xs, h => by unfold pl at h; cases h
  | n + 1, .lst xs, h => by
    unfold pl at h ⊢
    exact plA_up n xs h
  | 0, .tup xs, h => by unfold pl at h; cases h
  | n + 1, .tup xs, h => by
    unfold pl at h ⊢
    exact plA_up n xs h
  | n, .dK _, h => by unfold pl at h; cases h
  | n, .dT _, h => by unfold pl at h; cases h
  | n, .exc _, h => by unfold pl at h; cases h
  | n, .mt _, h => by unfold pl at h; cases h
  | n, .fk _, h => by unfold pl at h; cases h
  | n, .ft _, h => by unfold pl at h; cases h
  | n, .fz _, h => by unfold pl at h; cases h
theorem plA_up : ∀ (n : Nat) (xs : List D), plA n xs = true → plA (n + 1) xs = true
  | n, [], _ => by unfold plA; rfl
  | n, x :: xs, h => by
    unfold plA at h ⊢
    rw [Bool.and_eq_true] at h ⊢
    exact ⟨pl_up n x h.1, plA_up n xs h.2⟩
end
theorem o2_in : Op2 .im g (rInAll g.K) (oIn false) := fun H A x y d e z Q hA rx ry ho q => by
  unfold oIn at ho
  split at ho
  · split at ho
    · rename_i hz
      cases ho
      rw [Bool.or_eq_true, Bool.and_eq_true, Bool.and_eq_true] at hz
      rcases hz with ⟨h1, h2⟩ | ⟨h1, h2⟩
      · obtain ⟨a, vs, rfl, ha, ra⟩ := ry.lst
        refine .inl ⟨a, vs, rfl, .inl (.inl (.inl ha)), flV_l rx h1, (flVA ra).trans h2, ?_⟩
        rw [inV_fl rx h1 ra h2]
        exact q _ _ (out_flat fun _ _ => .bl _)
      · refine .inr (.inl ⟨_, _, rx.dp h1, ry.dp h2, pl_shaped (by decide) h1, pl_shaped (by decide) h2, ?_⟩)
        rw [any_py h1 (plA_up _ _ (pl_lst h2))]
        exact q _ _ (out_flat fun _ _ => .bl _)
    · cases ho
  · split at ho
    · rename_i hz
      cases ho
      rw [Bool.and_eq_true] at hz
      obtain ⟨a, vs, rfl, ha, ra⟩ := ry.tup
      refine .inl ⟨a, vs, rfl, .inr ha.sq, flV_l rx hz.1, (flVA ra).trans hz.2, ?_⟩
      rw [inV_fl rx hz.1 ra hz.2]
      exact q _ _ (out_flat fun _ _ => .bl _)
    · cases ho
  · split at ho
    · rename_i hz
      cases ho
      rw [Bool.and_eq_true] at hz
      obtain ⟨a, vs, rfl, ha, ra⟩ := ry.mt
      refine .inl ⟨a, vs, rfl, .inr (sqT_up ha), flV_l rx hz.1, (flVA ra).trans hz.2, ?_⟩
      rw [inV_fl rx hz.1 ra hz.2]
      exact q _ _ (out_flat fun _ _ => .bl _)
    · cases ho
  · cases ho
    rw [rx.str, ry.str]
    exact .inr (.inr (.inl ⟨_, _, rfl, rfl, q _ _ (out_flat fun _ _ => .bl _)⟩))
  · cases ho
    rw [rx.str, ry.str]
    refine .inr (.inr (.inr ⟨_, _, rfl, rfl, ?_⟩))
    rw [S_len]
    exact q _ _ (out_flat fun _ _ => .bl _)
  · cases ho
theorem o2_notIn : Op2 .im g (rNotInAll g.K) (oIn true) := fun H A x y d e z Q hA rx ry ho q => by
  unfold oIn at ho
  split at ho
  · split at ho
    · rename_i hz
      cases ho
      rw [Bool.or_eq_true, Bool.and_eq_true, Bool.and_eq_true] at hz
      rcases hz with ⟨h1, h2⟩ | ⟨h1, h2⟩
      · obtain ⟨a, vs, rfl, ha, ra⟩ := ry.lst
        refine .inl ⟨a, vs, rfl, .inl (.inl (.inl ha)), flV_l rx h1, (flVA ra).trans h2, ?_⟩
        rw [inV_fl rx h1 ra h2]
        exact q _ _ (out_flat fun _ _ => .bl _)
      · refine .inr (.inl ⟨_, _, rx.dp h1, ry.dp h2, pl_shaped (by decide) h1, pl_shaped (by decide) h2, ?_⟩)
        rw [any_py h1 (plA_up _ _ (pl_lst h2))]
        exact q _ _ (out_flat fun _ _ => .bl _)
    · cases ho
  · split at ho
    · rename_i hz
      cases ho
      rw [Bool.and_eq_true] at hz
      obtain ⟨a, vs, rfl, ha, ra⟩ := ry.tup
      refine .inl ⟨a, vs, rfl, .inr ha.sq, flV_l rx hz.1, (flVA ra).trans hz.2, ?_⟩
      rw [inV_fl rx hz.1 ra hz.2]
      exact q _ _ (out_flat fun _ _ => .bl _)
    · cases ho
  · split at ho
    · rename_i hz
      cases ho
      rw [Bool.and_eq_true] at hz
      obtain ⟨a, vs, rfl, ha, ra⟩ := ry.mt
      refine .inl ⟨a, vs, rfl, .inr (sqT_up ha), flV_l rx hz.1, (flVA ra).trans hz.2, ?_⟩
      rw [inV_fl rx hz.1 ra hz.2]
      exact q _ _ (out_flat fun _ _ => .bl _)
    · cases ho
  · cases ho
    rw [rx.str, ry.str]
    exact .inr (.inr (.inl ⟨_, _, rfl, rfl, q _ _ (out_flat fun _ _ => .bl _)⟩))
  · cases ho
    rw [rx.str, ry.str]
    refine .inr (.inr (.inr ⟨_, _, rfl, rfl, ?_⟩))
    rw [S_len]
    exact q _ _ (out_flat fun _ _ => .bl _)
  · cases ho
end
end PL

namespace PL
open PySem PySem.Spec PyProof.Rows L2

section
variable {X : Cx} {W : WX} {g : Gc} {γ : G} {τ τ' τ1 τ2 : PS0} {σ σ' : L2.St} {H H' H1 H2 : Hp} {p : Addr} {v : V} {d : D} {k k1 k2 k3 kr : Kd} {m m1 m2 m3 : Bool} {e e1 e2 a b c : Expr} {es rest : List Expr} {f fa fb fc : M D} {t u : M Bool} {fs : M (List D)} {pos : Pos} {r r' : R2} {o o' : D → D → Option D}

/-! ### and, or, not, if else -/
def notM (t : M Bool) : M Bool := andThen t fun b => ret (!b)
def andM (t u : M Bool) : M Bool := andThen t fun b => if b = true then u else ret false
def orM (t u : M Bool) : M Bool := andThen t fun b => if b = true then ret true else u
theorem jt_not (h : JT X W m a t) : JT X W m (.UnaryOp .Not a pos) (notM t) := (pt_not h).weak fun σ H Q ⟨γ, τ, R, h⟩ => by
  unfold notM at h
  rw [fit_bind] at h
  exact ⟨γ, τ, R, h⟩
theorem JT.mt (h : JT X W m e t) : JT X W true e t := h.weak fun σ H Q ⟨γ, τ, R, q⟩ => ⟨γ, τ, R, q.mono (fun b τ' z H' _ R' k => z H' (fun z => nomatch z) R' k) fun _ _ z => z⟩
theorem JW.mt (h : JW X W m e t) : JW X W true e t := h.weak fun σ H Q ⟨γ, τ, R, q⟩ => ⟨γ, τ, R, q.mono (fun b τ' z H' _ R' k => z H' (fun z => nomatch z) R' k) fun _ _ z => z⟩
theorem tT_seq {Kc : Bool → Hp → Prop} (R : Rel g γ τ σ H) (h : Fit (t τ) (fun b τ1 => ∀ H1, (m1 = false → Same H H1) → Rel g γ τ1 σ H1 → Kp (Own τ σ) H (Own τ1 σ) H1 → Kc b H1) (XW g W γ τ σ H)) : tT g W m1 t σ H Kc := ⟨γ, τ, R, h⟩
/-- the second part of a run, in its own right -/
theorem tT_go {Q : Bool → Hp → Prop} (R1 : Rel g γ τ1 σ H1) (s1 : m1 = false → Same H H1) (kp : Kp (Own τ σ) H (Own τ1 σ) H1)
    (h : Fit (u τ1) (fun b τ' => ∀ H', ((m1 || m2) = false → Same H H') → Rel g γ τ' σ H' → Kp (Own τ σ) H (Own τ' σ) H' → Q b H') (XW g W γ τ σ H)) : tT g W m2 u σ H1 Q :=
  ⟨γ, τ1, R1, h.mono (fun b τ' q H' s R' k => q H' (or_same s1 s) R' (kp.trans k)) fun _ _ q => q.pre kp⟩
theorem tE_go {Q : VK} (R1 : Rel g γ τ1 σ H1) (s1 : m1 = false → Same H H1) (kp : Kp (Own τ σ) H (Own τ1 σ) H1)
    (h : Fit (f τ1) (fun d τ' => ∀ v H', ((m1 || m2) = false → Same H H') → PostE k g γ τ σ H τ' σ H' v d → Q v H') (XW g W γ τ σ H)) : tE g W k m2 f σ H1 Q :=
  ⟨γ, τ1, R1, h.mono (fun d τ' q v H' s P => q v H' (or_same s1 s) (P.pre' kp)) fun _ _ q => q.pre kp⟩
theorem Same.of_or (s1 : m1 = false → Same H H1) : (m1 || m2) = false → Same H H1 := fun z => s1 (by rw [Bool.or_eq_false_iff] at z; exact z.1)
theorem jw_and1 (h : JT X W m a t) : JW X W m (.BoolOp .And [a] pos) t := pw_and1 h
theorem jw_or1 (h : JT X W m a t) : JW X W m (.BoolOp .Or [a] pos) t := pw_or1 h
theorem jw_and (h : JT X W m1 a t) (h2 : JW X W m2 (.BoolOp .And (b :: rest) pos) u) : JW X W (m1 || m2) (.BoolOp .And (a :: b :: rest) pos) (andM t u) := (pw_and h h2).weak fun σ H Q ⟨γ, τ, R, h⟩ => by
  unfold andM at h
  rw [fit_bind] at h
  refine ⟨γ, τ, R, h.mono (fun b τ1 h H1 s1 R1 kp => ?_) fun _ _ q => q⟩
  cases b with
  | true => exact tT_go R1 s1 kp h
  | false => exact h H1 (Same.of_or s1) R1 kp
theorem jw_or (h : JT X W m1 a t) (h2 : JW X W m2 (.BoolOp .Or (b :: rest) pos) u) : JW X W (m1 || m2) (.BoolOp .Or (a :: b :: rest) pos) (orM t u) := (pw_or h h2).weak fun σ H Q ⟨γ, τ, R, h⟩ => by
  unfold orM at h
  rw [fit_bind] at h
  refine ⟨γ, τ, R, h.mono (fun b τ1 h H1 s1 R1 kp => ?_) fun _ _ q => q⟩
  cases b with
  | false => exact tT_go R1 s1 kp h
  | true => exact h H1 (Same.of_or s1) R1 kp
theorem jt_w (h : JW X W m e t) : JT X W m e t := PW.pt h
/-- as values -/
def notE (f : M D) : M D := andThen (tst f) fun b => ret (.bl (!b))
def andE (f h : M D) : M D := andThen (tst f) fun b => if b = true then h else ret (.bl false)
def orE (f h : M D) : M D := andThen (tst f) fun b => if b = true then ret (.bl true) else h
theorem tst_fit {p : Bool → PS0 → Prop} {q : Str → PS0 → Prop} : Fit (tst f τ) p q ↔ Fit (f τ) (fun d τ' => ∃ b, asB d = some b ∧ p b τ') q := by
  unfold tst
  rw [fit_bind]
  cases f τ with
  | ok d τ' => exact fit_lift
  | exc n τ' => exact Iff.rfl
  | stuck => exact Iff.rfl
theorem asB_v {d : D} {b : Bool} {A : Addr → Prop} {v : V} (h : asB d = some b) (r : LRep g H A v d) : v = .bl b := by
  cases d with
  | bl q => cases h; exact r.bl
  | _ => cases h
theorem je_not (h : JE X W k m a f) : JE X W .im m (.UnaryOp .Not a pos) (notE f) := (pe_not h).weak fun σ H Q ⟨γ, τ, R, h⟩ => by
  unfold notE at h
  rw [fit_bind, tst_fit] at h
  refine ⟨γ, τ, R, h.mono (fun d τ1 ⟨b, eb, h⟩ v H1 s P => ?_) fun _ _ q => q⟩
  obtain ⟨R1, kp, vr⟩ := P.val
  exact ⟨b, asB_v eb vr.l, h _ H1 s ⟨R1, kp, .bl _⟩⟩
theorem je_one {op : BoolOp} (h : JE X W k m a f) : JE X W k m (.BoolOp op [a] pos) f := pe_one h
theorem je_and (h : JE X W k1 m1 a fa) (h2 : JE X W .im m2 (.BoolOp .And (b :: rest) pos) fb) : JE X W .im (m1 || m2) (.BoolOp .And (a :: b :: rest) pos) (andE fa fb) := (pe_and h h2).weak fun σ H Q ⟨γ, τ, R, h⟩ => by
  unfold andE at h
  rw [fit_bind, tst_fit] at h
  refine ⟨γ, τ, R, h.mono (fun d τ1 ⟨b, eb, h⟩ v H1 s P => ?_) fun _ _ q => q⟩
  obtain ⟨R1, kp, vr⟩ := P.val
  refine ⟨b, asB_v eb vr.l, ?_⟩
  cases b with
  | true => exact tE_go R1 s kp h
  | false => exact h _ H1 (Same.of_or s) ⟨R1, kp, .bl _⟩
theorem je_or (h : JE X W k1 m1 a fa) (h2 : JE X W .im m2 (.BoolOp .Or (b :: rest) pos) fb) : JE X W .im (m1 || m2) (.BoolOp .Or (a :: b :: rest) pos) (orE fa fb) := (pe_or h h2).weak fun σ H Q ⟨γ, τ, R, h⟩ => by
  unfold orE at h
  rw [fit_bind, tst_fit] at h
  refine ⟨γ, τ, R, h.mono (fun d τ1 ⟨b, eb, h⟩ v H1 s P => ?_) fun _ _ q => q⟩
  obtain ⟨R1, kp, vr⟩ := P.val
  refine ⟨b, asB_v eb vr.l, ?_⟩
  cases b with
  | false => exact tE_go R1 s kp h
  | true => exact h _ H1 (Same.of_or s) ⟨R1, kp, .bl _⟩
def iteE (t : M Bool) (fa fb : M D) : M D := andThen t fun b => if b = true then fa else fb
theorem je_if (h : JT X W m1 c t) (ha : JE X W k m2 a fa) (hb : JE X W k m2 b fb) : JE X W k (m1 || m2) (.IfExp c a b pos) (iteE t fa fb) := (pe_ifExp h ha hb).weak fun σ H Q ⟨γ, τ, R, h⟩ => by
  unfold iteE at h
  rw [fit_bind] at h
  refine ⟨γ, τ, R, h.mono (fun b τ1 h H1 s1 R1 kp => ?_) fun _ _ q => q⟩
  cases b with
  | true => exact tE_go R1 s1 kp h
  | false => exact tE_go R1 s1 kp h

/-! ### a op b op c -/
def chn (o o' : D → D → Option D) (fa fb fc : M D) : M D := andThen fa fun x => andThen fb fun y => andThen (lift ((o x y).bind asB)) fun k => if k = true then andThen fc fun z => lift (o' y z) else ret (.bl false)
theorem tE_chn (hr : Op2 .im X.g r o) (hr' : Op2 .im X.g r' o') (h1 : k1 ≠ .ln ∨ m2 = false) (h2 : k2 ≠ .ln ∨ m3 = false) (σ : L2.St) (H : Hp) (Q : VK) (h : tE X.g W .im ((m1 || m2) || m3) (chn o o' fa fb fc) σ H Q) : tChain r r' (tE X.g W k1 m1 fa) (tE X.g W k2 m2 fb) (tE X.g W k3 m3 fc) σ H Q := by
  obtain ⟨γ, τ, R, h⟩ := h
  unfold chn at h
  rw [fit_bind] at h
  refine tE_bin (Kc := fun x y H2 => r x y H2 fun z H3 => ∃ k, z = .bl k ∧ (if k = true then tE X.g W k3 m3 fc σ H3 fun w' H4 => r' y w' H4 Q else Q (.bl false) H3)) h1 R (h.mono (fun d τ1 h => ?_) fun _ _ q => q)
  rw [fit_bind] at h
  refine h.mono (fun e τ2 h x y H2 s2 R2 kp vx vy => ?_) fun _ _ q => q
  rw [fit_bind, fit_lift] at h
  obtain ⟨b, eb, h⟩ := h
  cases ez : o d e with
  | none => rw [ez] at eb; cases eb
  | some z =>
    rw [ez] at eb
    have eb : asB z = some b := eb
    refine hr H2 (Av γ τ2 σ) x y d e z _ R2.avT vx.l vy.l ez fun v H3 ou => ?_
    have P3 := PostE.of_out (kr := .im) R2 (Kp.refl (H := H2)) (by decide) ou
    have s3 : (m1 || m2) = false → Same H H3 := fun q => (s2 q).trans ou.1
    have kp3 : Kp (Own τ σ) H (Own τ2 σ) H3 := kp.trans P3.2.1
    refine ⟨b, asB_v eb (.inl P3.2.2), ?_⟩
    cases b with
    | false => exact h _ H3 (Same.of_or s3) ⟨P3.1, kp3, .bl _⟩
    | true =>
      have h : Fit (andThen fc (fun z => lift (o' e z)) τ2) _ _ := h
      rw [fit_bind] at h
      refine ⟨γ, τ2, P3.1, h.mono (fun w τ4 h w' H4 s4 P4 => ?_) fun _ _ q => q.pre kp3⟩
      obtain ⟨z4, ez4, h⟩ := fit_lift.mp h
      obtain ⟨R4, kp4, vr4⟩ := P4.val
      have vy3 : VRep k2 X.g H3 (Av γ τ2 σ) y e := carry (k1 := k2) (m2 := false) (.inr rfl) vy (fun _ => ou.1) P3.2.1
      have vy4 := carry (k1 := k2) h2 vy3 s4 kp4
      exact hr' H4 (Av γ τ4 σ) y w' e w z4 _ R4.avT vy4.l vr4.l ez4 fun v5 H5 ou5 => h v5 H5 (fun q => (or_same s3 s4 q).trans ou5.1) (PostE.of_out R4 (kp3.trans kp4) (by decide) ou5)
theorem je_chain {op op' : CmpOp} (ho : OpR X (compareOp op) r) (hr : Op2 .im X.g r o) (ho' : OpR X (compareOp op') r') (hr' : Op2 .im X.g r' o') (ha : JE X W k1 m1 a fa) (hb : JE X W k2 m2 b fb) (hc : JE X W k3 m3 c fc)
    (h1 : k1 ≠ .ln ∨ m2 = false := by first | exact .inr rfl | exact .inl (by decide)) (h2 : k2 ≠ .ln ∨ m3 = false := by first | exact .inr rfl | exact .inl (by decide)) (hm : lastMarks [op, op'] [b, c] = false := by with_unfolding_all rfl) :
    JE X W .im ((m1 || m2) || m3) (.Compare a [op, op'] [b, c] pos) (chn o o' fa fb fc) := (pe_chain ho ho' ha hb hc hm).weak (tE_chn hr hr' h1 h2)
theorem jt_chain {op op' : CmpOp} (ho : OpR X (compareOp op) r) (hr : Op2 .im X.g r o) (ho' : OpR X (compareOp op') r') (hr' : Op2 .im X.g r' o') (ha : JE X W k1 m1 a fa) (hb : JE X W k2 m2 b fb) (hc : JE X W k3 m3 c fc)
    (h1 : k1 ≠ .ln ∨ m2 = false := by first | exact .inr rfl | exact .inl (by decide)) (h2 : k2 ≠ .ln ∨ m3 = false := by first | exact .inr rfl | exact .inl (by decide)) (hm : lastMarks [op, op'] [b, c] = false := by with_unfolding_all rfl) :
    JT X W ((m1 || m2) || m3) (.Compare a [op, op'] [b, c] pos) (tst (chn o o' fa fb fc)) := (pt_chain ho ho' ha hb hc hm).weak fun σ H Q h => by
  refine tE_chn hr hr' h1 h2 σ H _ ?_
  obtain ⟨γ, τ, R, h⟩ := h
  rw [tst_fit] at h
  refine ⟨γ, τ, R, h.mono (fun d τ' ⟨b, eb, h⟩ v H' s P => ?_) fun _ _ q => q⟩
  exact ⟨b, asB_v eb (.inl P.2.2), h H' s P.1 P.2.1⟩

/-! ### argument lists, displays -/
def argN : M (List D) := ret []
def argC (f : M D) (fs : M (List D)) : M (List D) := andThen f fun d => andThen fs fun ds => ret (d :: ds)
theorem ja_nil : JA X W false [] argN := pa_nil.weak fun σ H Q ⟨γ, τ, R, h⟩ => h [] H (fun _ => Same.refl H) R Kp.refl .nil
theorem ja_cons (h : JE X W .im m1 e f) (hs : JA X W m2 es fs) (hst : starEach (e :: es) X.env = (false, eval e X.env) :: starEach es X.env := by rfl) : JA X W (m1 || m2) (e :: es) (argC f fs) := (pa_cons h hs hst).weak fun σ H Q ⟨γ, τ, R, h⟩ => by
  unfold argC at h
  rw [fit_bind] at h
  refine ⟨γ, τ, R, h.mono (fun d τ1 h v H1 s1 P1 => ?_) fun _ _ q => q⟩
  obtain ⟨R1, kp1, r1⟩ := P1
  rw [fit_bind] at h
  refine ⟨γ, τ1, R1, h.mono (fun ds τ2 h vs H2 s2 R2 kp2 rs => ?_) fun _ _ q => q.pre kp1⟩
  exact h (v :: vs) H2 (or_same s1 s2) R2 (kp1.trans kp2) (.cons (r1.kp kp2.av) rs)
/-- (a, b, ..), [a, b, ..] -/
def tupE (fs : M (List D)) : M D := andThen fs fun ds => lift (if ds.length ≤ 16777216 then some (.tup ds) else none)
def lstE (fs : M (List D)) : M D := andThen fs fun ds => lift (if ds.length ≤ 16777216 then some (.lst ds) else none)
theorem je_tup {x1} (h : JA X W m es fs) : JE X W .im m (.Tuple es x1 pos) (tupE fs) := (pe_tup h).weak fun σ H Q ⟨γ, τ, R, h⟩ => by
  unfold tupE at h
  rw [fit_bind] at h
  refine ⟨γ, τ, R, h.mono (fun ds τ1 h vs H1 s1 R1 kp1 rs => ?_) fun _ _ q => q⟩
  obtain ⟨z, ez, h⟩ := fit_lift.mp h
  split at ez
  · rename_i hz
    cases ez
    refine ⟨by rw [rs.length]; exact hz, fun p hp => ?_⟩
    have ou := out_tup R1.avT rs hp
    exact h _ _ (fun q => (s1 q).trans ou.1) (PostE.of_out R1 kp1 (by decide) ou)
  · cases ez
theorem je_lst (h : JA X W m es fs) : JE X W .fr m (.List es pos) (lstE fs) := (pe_lst h).weak fun σ H Q ⟨γ, τ, R, h⟩ => by
  unfold lstE at h
  rw [fit_bind] at h
  refine ⟨γ, τ, R, h.mono (fun ds τ1 h vs H1 s1 R1 kp1 rs => ?_) fun _ _ q => q⟩
  obtain ⟨z, ez, h⟩ := fit_lift.mp h
  split at ez
  · rename_i hz
    cases ez
    refine ⟨by rw [rs.length]; exact hz, fun p hp => ?_⟩
    have ou := out_lst (k := .fr) (by decide) R1.avT rs hp
    exact h _ _ (fun q => (s1 q).trans ou.1) (PostE.of_out R1 kp1 (by decide) ou)
  · cases ez
end
end PL

namespace PL
open PySem PySem.Spec PyProof.Rows L2

section
variable {X : Cx} {W : WX} {g : Gc} {γ : G} {τ τ' τ1 τ2 : PS0} {σ σ' : L2.St} {H H' H1 H2 : Hp} {A : Addr → Prop} {p : Addr} {v : V} {d : D} {k k1 k2 k3 kr : Kd} {m m1 m2 m3 : Bool} {e e1 e2 a b c : Expr} {es rest : List Expr} {f fa fb fc : M D} {t u : M Bool} {fs : M (List D)} {pos : Pos} {r r' : R2} {o o' : D → D → Option D}

/-! ### xs[i] -/
def r2o := r2or
theorem IxR.or' {r s : R2} (h : IxR X r) (k : IxR X s) : IxR X (r2or r s) := by
  intro value slice pins st σ H x y v u Q I rx ry q hs
  rcases q with q | q
  · exact h value slice pins st σ H x y v u Q I rx ry q hs
  · exact k value slice pins st σ H x y v u Q I rx ry q hs
def oIx : D → D → Option D
  | .lst xs, .int i => atI xs i
  | .tup xs, .int i => atI xs i
  | .fz xs, .int i => atI xs i
  | .mt xs, .int i => atI xs i
  | .str s, .int i => if s.length ≤ 16777216 then (atI s i).map fun c => .str [c] else none
  | _, _ => none
def rIxAll (K : PySem.W.Frag) : R2 := r2or (rIxL K) (r2or (rIxT K) rIxS)
theorem ix_all : IxR X (rIxAll X.K) := IxR.or' ix_list (IxR.or' ix_tup ix_str)
theorem RepA.at {vs : List V} {ds : List D} {i : Int} {d : D} (r : RepA g H A vs ds) (h : atI ds i = some d) : ∃ v, atI vs i = some v ∧ Rep g H A v d := by
  unfold atI at h ⊢
  rw [r.length]
  cases e : ixN ds.length i with
  | none => rw [e] at h; cases h
  | some j =>
    rw [e] at h
    exact r.get h
theorem o2_ix : Op2 .im g (rIxAll g.K) oIx := fun H A x y d e z Q hA rx ry ho q => by
  unfold oIx at ho
  split at ho
  · obtain ⟨a, vs, rfl, ha, ra⟩ := rx.lst
    obtain ⟨v, hv, rv⟩ := ra.at ho
    rw [ry.int]
    exact .inl ⟨a, vs, _, v, rfl, rfl, .inl (.inl ha), hv, q v H ⟨Same.refl H, rv⟩⟩
  · obtain ⟨a, vs, rfl, ha, ra⟩ := rx.tup
    obtain ⟨v, hv, rv⟩ := ra.at ho
    rw [ry.int]
    exact .inr (.inl ⟨a, vs, _, v, rfl, rfl, ha.sq, hv, q v H ⟨Same.refl H, rv⟩⟩)
  · obtain ⟨a, vs, rfl, ha, ra⟩ := rx.fz
    obtain ⟨v, hv, rv⟩ := ra.at ho
    rw [ry.int]
    exact .inl ⟨a, vs, _, v, rfl, rfl, ha.sq, hv, q v H ⟨Same.refl H, rv⟩⟩
  · obtain ⟨a, vs, rfl, ha, ra⟩ := rx.mt
    obtain ⟨v, hv, rv⟩ := ra.at ho
    rw [ry.int]
    exact .inr (.inl ⟨a, vs, _, v, rfl, rfl, sqT_up ha, hv, q v H ⟨Same.refl H, rv⟩⟩)
  · split at ho
    · rename_i s i hz
      rw [rx.str, ry.int]
      cases hc : atI s i with
      | none => rw [hc] at ho; cases ho
      | some c =>
        rw [hc] at ho
        cases ho
        exact .inr (.inr ⟨S s, i, c, rfl, rfl, by rw [S_len]; exact hz, hc, q (.str ⟨#[c]⟩) H (out_flat fun _ _ => .str [c])⟩)
    · cases ho
  · cases ho
theorem je_ix (ha : JE X W k1 m1 a fa) (hb : JE X W k2 m2 b fb) (hk : k1 ≠ .ln ∨ m2 = false := by first | exact .inr rfl | exact .inl (by decide)) (hs : PlainIx b := by exact fun _ _ => rfl) : JE X W .im (m1 || m2) (.Subscript a b pos) (op2 oIx fa fb) :=
  (pe_ix ix_all ha hb hs).weak (tE_op2 o2_ix hk (by decide))

/-! ### a[lo:hi] -/
def cutD {α : Type} (xs : List α) (lo hi : Option Int) : List α := (xs.drop (HT.sIx xs.length 0 lo)).take (HT.sIx xs.length xs.length hi - HT.sIx xs.length 0 lo)
theorem RepA.cut {vs : List V} {ds : List D} (r : RepA g H A vs ds) (lo hi : Option Int) : RepA g H A (cutV vs lo hi) (cutD ds lo hi) := by
  unfold cutV cutD
  rw [r.length]
  exact (r.drop _).take _
abbrev MO := M (Option Int)
def tO (g : Gc) (W : WX) (m : Bool) (f : MO) : TO := fun σ H Q => ∃ γ τ, Rel g γ τ σ H ∧ Fit (f τ) (fun o τ' => ∀ H', (m = false → Same H H') → Rel g γ τ' σ H' → Kp (Own τ σ) H (Own τ' σ) H' → Q o H') (XW g W γ τ σ H)
abbrev JO (X : Cx) (W : WX) (m : Bool) (e : Option Expr) (f : MO) : Prop := PO X e (tO X.g W m f)
theorem PO.weak {X : Cx} {e : Option Expr} {t t' : TO} (h : PO X e t) (w : ∀ σ H Q, t' σ H Q → t σ H Q) : PO X e t' := ⟨fun pins s σ H Q I q => h.run pins s σ H Q I (w σ H Q q)⟩
def asI : D → Option Int
  | .int i => some i
  | _ => none
def noP : MO := ret none
def partM (f : M D) : MO := andThen f fun d => lift ((asI d).map some)
theorem jo_none : JO X W false none noP := PO.weak po_none fun σ H Q ⟨γ, τ, R, h⟩ => h H (fun _ => Same.refl H) R Kp.refl
theorem asI_v {d : D} {i : Int} {v : V} (h : asI d = some i) (r : LRep g H A v d) : v = .int i := by
  cases d with
  | int j => cases h; exact r.int
  | _ => cases h
theorem jo_some (h : JE X W k m e f) : JO X W m (some e) (partM f) := PO.weak (po_some h) fun σ H Q ⟨γ, τ, R, h⟩ => by
  unfold partM at h
  rw [fit_bind] at h
  refine ⟨γ, τ, R, h.mono (fun d τ1 h v H1 s P => ?_) fun _ _ q => q⟩
  obtain ⟨o, eo, h⟩ := fit_lift.mp h
  obtain ⟨R1, kp, vr⟩ := P.val
  cases ei : asI d with
  | none => rw [ei] at eo; cases eo
  | some i =>
    rw [ei] at eo
    cases eo
    exact ⟨i, asI_v ei vr.l, h H1 s R1 kp⟩
def Sl (k : Kd) (g : Gc) (r : V → Option Int → Option Int → Hp → VK → Prop) (o : D → Option Int → Option Int → Option D) : Prop := ∀ (H : Hp) (A : Addr → Prop) (x : V) (d z : D) (lo hi : Option Int) (Q : VK), (∀ a, A a → ∃ u, H a = some u) → LRep g H A x d → o d lo hi = some z →
  (∀ v H', Out k g H A H' v z → Q v H') → r x lo hi H Q
def sl3 (o : D → Option Int → Option Int → Option D) (fa : M D) (fl fh : MO) : M D := andThen fa fun x => andThen fl fun lo => andThen fh fun hi => lift (o x lo hi)
theorem je_sl {rs : V → Option Int → Option Int → Hp → VK → Prop} {os : D → Option Int → Option Int → Option D} {lo hi : Option Expr} {fl fh : MO} {p2 : Pos} (hr : SlR X rs) (ho : Sl kr X.g rs os) (ha : JE X W k1 m1 a fa) (hl : JO X W m2 lo fl) (hh : JO X W m3 hi fh)
    (hk : k1 ≠ .ln ∨ (m2 || m3) = false := by first | exact .inr rfl | exact .inl (by decide)) (hkr : kr ≠ .ln := by decide) : JE X W kr ((m1 || m2) || m3) (.Subscript a (.Slice lo hi none p2) pos) (sl3 os fa fl fh) :=
  (pe_slice hr ha hl hh).weak fun σ H Q ⟨γ, τ, R, h⟩ => by
    unfold sl3 at h
    rw [fit_bind] at h
    refine ⟨γ, τ, R, h.mono (fun d τ1 h x H1 s1 P1 => ?_) fun _ _ q => q⟩
    obtain ⟨R1, kp1, v1⟩ := P1.val
    rw [fit_bind] at h
    refine ⟨γ, τ1, R1, h.mono (fun l τ2 h H2 s2 R2 kp2 => ?_) fun _ _ q => q.pre kp1⟩
    rw [fit_bind] at h
    refine ⟨γ, τ2, R2, h.mono (fun u τ3 h H3 s3 R3 kp3 => ?_) fun _ _ q => q.pre (kp1.trans kp2)⟩
    obtain ⟨z, ez, h⟩ := fit_lift.mp h
    have v3 := carry (k1 := k1) (m2 := m2 || m3) hk v1 (fun q => or_same s2 s3 q) (kp2.trans kp3)
    exact ho H3 _ x d z l u _ R3.avT v3.l ez fun v H' ou => h v H' (fun q => (or_same (or_same s1 s2) s3 q).trans ou.1) (PostE.of_out R3 ((kp1.trans kp2).trans kp3) hkr ou)
/-- a new list of a list -/
def oSlL : D → Option Int → Option Int → Option D
  | .lst xs, lo, hi => some (.lst (cutD xs lo hi))
  | .fz xs, lo, hi => some (.lst (cutD xs lo hi))
  | _, _, _ => none
theorem sl_lstD {k : Kd} (hk : k ≠ .ln) : Sl k g (rSlL g.K) oSlL := fun H A x d z lo hi Q hA rx ho q => by
  unfold oSlL at ho
  split at ho
  · cases ho
    obtain ⟨a, vs, rfl, ha, ra⟩ := rx.lst
    exact ⟨a, vs, rfl, .inl (.inl ha), fun p hp => q _ _ (out_lst hk hA (ra.cut lo hi) hp)⟩
  · cases ho
    obtain ⟨a, vs, rfl, ha, ra⟩ := rx.fz
    exact ⟨a, vs, rfl, ha.sq, fun p hp => q _ _ (out_lst hk hA (ra.cut lo hi) hp)⟩
  · cases ho
theorem S_cut (s : List Nat) (lo hi : Option Int) : cutS (S s) lo hi = S (cutD s lo hi) := by
  unfold cutS cutD
  rw [S_len, S_cps] <;> rfl
/-- a text, a list, a tuple -/
def oSl : D → Option Int → Option Int → Option D
  | .str s, lo, hi => if s.length ≤ 16777216 then some (.str (cutD s lo hi)) else none
  | .lst xs, lo, hi => some (.lst (cutD xs lo hi))
  | .fz xs, lo, hi => some (.lst (cutD xs lo hi))
  | .tup xs, lo, hi => some (.tup (cutD xs lo hi))
  | _, _, _ => none
def rSlAll (K : PySem.W.Frag) : V → Option Int → Option Int → Hp → VK → Prop := fun x lo hi H Q => rSlL K x lo hi H Q ∨ (rSlS x lo hi H Q ∨ rSlA K x lo hi H Q)
theorem sl_all : SlR X (rSlAll X.K) := SlR.or sl_list (SlR.or sl_str sl_tupA)
theorem sl_D : Sl .im g (rSlAll g.K) oSl := fun H A x d z lo hi Q hA rx ho q => by
  unfold oSl at ho
  split at ho
  · split at ho
    · rename_i hz
      cases ho
      rw [rx.str]
      refine .inr (.inl ⟨_, rfl, by rw [S_len]; exact hz, ?_⟩)
      rw [S_cut]
      exact q _ _ (out_flat fun _ _ => .str _)
    · cases ho
  · cases ho
    obtain ⟨a, vs, rfl, ha, ra⟩ := rx.lst
    exact .inl ⟨a, vs, rfl, .inl (.inl ha), fun p hp => q _ _ (out_lst (by decide) hA (ra.cut lo hi) hp)⟩
  · cases ho
    obtain ⟨a, vs, rfl, ha, ra⟩ := rx.fz
    exact .inl ⟨a, vs, rfl, ha.sq, fun p hp => q _ _ (out_lst (by decide) hA (ra.cut lo hi) hp)⟩
  · rename_i xs
    cases ho
    obtain ⟨a, vs, rfl, ha, ra⟩ := rx.tup
    refine .inr (.inr ⟨a, vs, rfl, ha.sq, fun hw => ?_, fun _ p hp => q _ _ (out_tup hA (ra.cut lo hi) hp)⟩)
    refine q _ _ ⟨Same.refl H, .tup ha ?_⟩
    have e : cutD xs lo hi = xs := by
      unfold cutD
      rw [← ra.length, hw.1, hw.2, List.drop_zero, Nat.sub_zero, ra.length, List.take_length]
    rw [e]
    exact ra
  · cases ho

/-! ### a[::-1] -/
theorem rev_idx (z : Str) : (Builtin.Str.strSliceIndices none none (-1) z.length).filterMap (z.cps[·]?) = z.cps.toList.reverse := by
  show (sliceRange ((z.cps.size : Int) - 1) (-1) (-1)).filterMap (z.cps[·]?) = _
  rw [PySem.W.krv_sliceRange, PySem.W.krv_range, List.filterMap_reverse, PySem.W.krv_all]
def tRevS (te : TE) : TE := fun σ H Q => te σ H fun x H1 => ∃ z, x = .str z ∧ z.length ≤ sizeLine ∧ Q (.str ⟨z.cps.toList.reverse.toArray⟩) H1
theorem pe_revS {e : Expr} {te : TE} {k : Nat} {p1 p2 p3 pos : Pos} (he : PE X e te) : PE X (.Subscript e (.Slice none none (some (.UnaryOp .USub (.Constant (.int 1) k p1) p2)) p3) pos) (tRevS te) := by
  refine ⟨fun pins s σ H Q I h => ?_⟩
  refine Subscript_ (thn (he.run pins s σ H _ I h) fun v s1 ⟨x, H1, I1, r1, q1⟩ => ?_)
  obtain ⟨z, ex, hx, q⟩ := q1
  subst ex
  obtain ⟨t, rfl⟩ := r1
  have hst : PO X (some (.UnaryOp .USub (.Constant (.int 1) k p1) p2)) (tPart (tUn (rU fun i => .int (-i)) (tC (.int 1)))) := po_some (pe_un un_neg pe_int)
  refine wpAny_Slice (thn (po_none.run pins s1 σ H1 (fun o H2 => o = none ∧ H2 = H1) I1 ⟨rfl, rfl⟩) fun vl s2 ⟨l, H2, I2, pl, el, e2⟩ => ?_)
  subst el e2
  refine thn (po_none.run pins s2 σ H2 (fun o H3 => o = none ∧ H3 = H2) I2 ⟨rfl, rfl⟩) fun vu s3 ⟨u, H3, I3, pu, eu, e3⟩ => ?_
  subst eu e3
  refine thn (hst.run pins s3 σ H3 (fun o H4 => o = some (-1) ∧ H4 = H3) I3 ⟨1, rfl, -1, rfl, rfl, rfl⟩) fun vs s4 ⟨o, H4, I4, ps, eo, e4⟩ => ?_
  subst eo e4
  have I5 : Inv X pins σ H4 { s4 with heap := s4.heap.push { cls := .type "slice", data := .fields #[vl, vu, vs] } } := I4.kept (t' := s4.toks) fun b ob q => Heap.get?_push_of_some _ q
  obtain ⟨l0, e1, e1'⟩ := IsPart.raw pl
  obtain ⟨u0, e2, e2'⟩ := IsPart.raw pu
  obtain ⟨o0, e3, e3'⟩ := IsPart.raw ps
  cases l0 with
  | some q => cases e1'
  | none =>
  cases u0 with
  | some q => cases e2'
  | none =>
  cases o0 with
  | none => cases e3'
  | some q =>
  obtain ⟨qi, qt⟩ := q
  cases e3'
  subst e1 e2 e3
  show wpAny (model X.prog X.w) X.A (subscriptTail e (.Slice none none (some (.UnaryOp .USub (.Constant (.int 1) k p1) p2)) p3) (.str z t) (.ref s4.heap.objs.size)) (EP X pins σ Q) X.xe _
  refine tail_any (ops := [.str z t, .ref s4.heap.objs.size]) (typeIs_str _ _ _) (F.slot_str_getitem.lookup) ?_ (by with_unfolding_all rfl)
  refine wpAny_getItem_str_slice (l := none) (u := none) (st := some (-1, qt)) ⟨_, Heap.get?_push_size _ rfl, rfl, rfl⟩ rfl ?_
  have hl : (⟨z.cps.toList.reverse.toArray⟩ : Str).length ≤ sizeLine := by
    show z.cps.toList.reverse.toArray.size ≤ sizeLine
    rw [List.size_toArray, List.length_reverse, Array.length_toList]
    exact hx
  show Made.post (Made.str ⟨((Builtin.Str.strSliceIndices none none (-1) z.length).filterMap (z.cps[·]?)).toArray⟩) (EP X pins σ Q) _
  rw [rev_idx]
  exact ⟨hl, .str _, H4, I5.tok _, ⟨_, rfl⟩, q⟩
theorem PE.or {e : Expr} {t t' : TE} (h : PE X e t) (h' : PE X e t') : PE X e (fun σ H Q => t σ H Q ∨ t' σ H Q) := ⟨fun pins s σ H Q I q => q.elim (h.run pins s σ H Q I) (h'.run pins s σ H Q I)⟩
def oRev : D → Option D
  | .str s => if s.length ≤ 16777216 then some (.str s.reverse) else none
  | .lst xs => some (.lst xs.reverse)
  | .fz xs => some (.lst xs.reverse)
  | _ => none
def op1 (o : D → Option D) (f : M D) : M D := andThen f fun x => lift (o x)
theorem je_rev {kk : Nat} {p1 p2 p3 pos : Pos} (h : JE X W k m e f) : JE X W .im m (.Subscript e (.Slice none none (some (.UnaryOp .USub (.Constant (.int 1) kk p1) p2)) p3) pos) (op1 oRev f) := (PE.or (pe_revL h) (pe_revS h)).weak fun σ H Q ⟨γ, τ, R, q⟩ => by
  unfold op1 at q
  rw [fit_bind] at q
  cases ef : f τ with
  | stuck => rw [ef] at q; exact q.elim
  | exc n τ' =>
    rw [ef] at q
    exact .inl ⟨γ, τ, R, by rw [ef]; exact q⟩
  | ok d τ1 =>
    rw [ef] at q
    obtain ⟨z, ez, q⟩ := fit_lift.mp q
    unfold oRev at ez
    split at ez
    · split at ez
      · rename_i s hz
        cases ez
        refine .inr ⟨γ, τ, R, ?_⟩
        rw [ef]
        intro v H1 s1 P1
        obtain ⟨R1, kp1, v1⟩ := P1.val
        refine ⟨_, v1.l.str, by rw [S_len]; exact hz, q _ H1 s1 ⟨R1, kp1, ?_⟩⟩
        exact .str _
      · cases ez
    · cases ez
      refine .inl ⟨γ, τ, R, ?_⟩
      rw [ef]
      intro v H1 s1 P1
      obtain ⟨R1, kp1, v1⟩ := P1.val
      obtain ⟨a, vs, rfl, ha, ra⟩ := v1.l.lst
      refine ⟨a, vs, rfl, .inl (.inl ha), fun p hp => ?_⟩
      have ou := out_lst (k := .im) (by decide) R1.avT ra.reverse hp
      exact q _ _ (fun z => (s1 z).trans ou.1) (PostE.of_out R1 kp1 (by decide) ou)
    · cases ez
      refine .inl ⟨γ, τ, R, ?_⟩
      rw [ef]
      intro v H1 s1 P1
      obtain ⟨R1, kp1, v1⟩ := P1.val
      obtain ⟨a, vs, rfl, ha, ra⟩ := v1.l.fz
      refine ⟨a, vs, rfl, ha.sq, fun p hp => ?_⟩
      have ou := out_lst (k := .im) (by decide) R1.avT ra.reverse hp
      exact q _ _ (fun z => (s1 z).trans ou.1) (PostE.of_out R1 kp1 (by decide) ou)
    · cases ez
def oRevL : D → Option D
  | .lst xs => some (.lst xs.reverse)
  | _ => none
theorem je_revL {kk : Nat} {p1 p2 p3 pos : Pos} (h : JE X W k m e f) : JE X W .fr m (.Subscript e (.Slice none none (some (.UnaryOp .USub (.Constant (.int 1) kk p1) p2)) p3) pos) (op1 oRevL f) := (pe_revL h).weak fun σ H Q ⟨γ, τ, R, q⟩ => by
  unfold op1 at q
  rw [fit_bind] at q
  refine ⟨γ, τ, R, q.mono (fun d τ1 q v H1 s1 P1 => ?_) fun _ _ q => q⟩
  obtain ⟨z, ez, q⟩ := fit_lift.mp q
  unfold oRevL at ez
  split at ez
  · cases ez
    obtain ⟨R1, kp1, v1⟩ := P1.val
    obtain ⟨a, vs, rfl, ha, ra⟩ := v1.l.lst
    refine ⟨a, vs, rfl, .inl (.inl ha), fun p hp => ?_⟩
    have ou := out_lst (k := .fr) (by decide) R1.avT ra.reverse hp
    exact q _ _ (fun z => (s1 z).trans ou.1) (PostE.of_out R1 kp1 (by decide) ou)
  · cases ez

/-! ### calls of built-in functions -/
def Fn1 (k : Kd) (g : Gc) (r : List V → Hp → VK → Prop) (o : D → Option D) : Prop := ∀ (H : Hp) (A : Addr → Prop) (x : V) (d z : D) (Q : VK), (∀ a, A a → ∃ u, H a = some u) → LRep g H A x d → o d = some z → (∀ v H', Out k g H A H' v z → Q v H') → r [x] H Q
def Fn2 (k : Kd) (g : Gc) (r : List V → Hp → VK → Prop) (o : D → D → Option D) : Prop := ∀ (H : Hp) (A : Addr → Prop) (x y : V) (d e z : D) (Q : VK), (∀ a, A a → ∃ u, H a = some u) → LRep g H A x d → LRep g H A y e → o d e = some z → (∀ v H', Out k g H A H' v z → Q v H') → r [x, y] H Q
theorem tE_fn1 {rf : List V → Hp → VK → Prop} {of : D → Option D} (hr : Fn1 kr X.g rf of) (hkr : kr ≠ .ln) (σ : L2.St) (H : Hp) (Q : VK) (h : tE X.g W kr m (op1 of f) σ H Q) : tCB rf (tCons (tE X.g W k m f) tNil) σ H Q := by
  obtain ⟨γ, τ, R, h⟩ := h
  unfold op1 at h
  rw [fit_bind] at h
  refine ⟨γ, τ, R, h.mono (fun d τ1 h v H1 s1 P1 => ?_) fun _ _ q => q⟩
  obtain ⟨z, ez, h⟩ := fit_lift.mp h
  obtain ⟨R1, kp1, v1⟩ := P1.val
  exact hr H1 (Av γ τ1 σ) v d z Q R1.avT v1.l ez fun v' H' o => h v' H' (fun q => (s1 q).trans o.1) (PostE.of_out R1 kp1 hkr o)
theorem tE_fn2 {rf : List V → Hp → VK → Prop} (hr : Fn2 kr X.g rf o) (hk : k1 ≠ .ln ∨ m2 = false) (hkr : kr ≠ .ln) (σ : L2.St) (H : Hp) (Q : VK) (h : tE X.g W kr (m1 || m2) (op2 o fa fb) σ H Q) : tCB rf (tCons (tE X.g W k1 m1 fa) (tCons (tE X.g W k2 m2 fb) tNil)) σ H Q := by
  obtain ⟨γ, τ, R, h⟩ := h
  unfold op2 at h
  rw [fit_bind] at h
  refine tE_bin (Kc := fun x y H2 => rf [x, y] H2 Q) hk R (h.mono (fun d τ1 h => ?_) fun _ _ q => q)
  rw [fit_bind] at h
  refine h.mono (fun e τ2 h x y H2 s2 R2 kp vx vy => ?_) fun _ _ q => q
  obtain ⟨z, ez, h⟩ := fit_lift.mp h
  exact hr H2 (Av γ τ2 σ) x y d e z Q R2.avT vx.l vy.l ez fun v H' o => h v H' (fun q => (s2 q).trans o.1) (PostE.of_out R2 kp hkr o)
theorem je_b1 {rf : List V → Hp → VK → Prop} {of : D → Option D} {id : String} {x : Str} {p : Pos} (hc : CallR X (.builtin id) rf) (hr : Fn1 kr X.g rf of) (hg : Gl X x) (hm : X.mg x = none) (hv : bootBuiltins x = some (.builtin id)) (ha : JE X W k m a fa) (hkr : kr ≠ .ln := by decide)
    (hn : x ≠ "__name__" := by decide) (hdb : (x == ("__debug__" : Str)) = false := by decide) (he : starEach [a] X.env = (false, eval a X.env) :: starEach [] X.env := by rfl) : JE X W kr m (.Call (.Name x p) [a] [] pos) (op1 of fa) :=
  (pe_callB hc hg hm hv (pa_cons ha pa_nil he) hn hdb he (by rfl)).weak (tE_fn1 hr hkr)
theorem je_t1 {rf : List V → Hp → VK → Prop} {of : D → Option D} {T : String} {x : Str} {p : Pos} (hc : CallR X (.type T) rf) (hr : Fn1 kr X.g rf of) (hg : Gl X x) (hm : X.mg x = none) (hv : bootBuiltins x = some (.type T)) (ha : JE X W k m a fa) (hkr : kr ≠ .ln := by decide)
    (hn : x ≠ "__name__" := by decide) (hdb : (x == ("__debug__" : Str)) = false := by decide) (he : starEach [a] X.env = (false, eval a X.env) :: starEach [] X.env := by rfl) : JE X W kr m (.Call (.Name x p) [a] [] pos) (op1 of fa) :=
  (pe_callTy hc hg hm hv (pa_cons ha pa_nil he) hn hdb he (by rfl)).weak (tE_fn1 hr hkr)
theorem je_b2 {rf : List V → Hp → VK → Prop} {id : String} {x : Str} {p : Pos} (hc : CallR X (.builtin id) rf) (hr : Fn2 kr X.g rf o) (hg : Gl X x) (hm : X.mg x = none) (hv : bootBuiltins x = some (.builtin id)) (ha : JE X W k1 m1 a fa) (hb : JE X W k2 m2 b fb)
    (hk : k1 ≠ .ln ∨ m2 = false := by first | exact .inr rfl | exact .inl (by decide)) (hkr : kr ≠ .ln := by decide)
    (hn : x ≠ "__name__" := by decide) (hdb : (x == ("__debug__" : Str)) = false := by decide) (he : starEach [a, b] X.env = (false, eval a X.env) :: starEach [b] X.env := by rfl) (he2 : starEach [b] X.env = (false, eval b X.env) :: starEach [] X.env := by rfl)
    (hpl : (backTo pos (starEach [b] X.env)).any (·.1) = false := by rfl) : JE X W kr (m1 || m2) (.Call (.Name x p) [a, b] [] pos) (op2 o fa fb) :=
  (pe_callB hc hg hm hv (pa_cons ha (pa_cons hb pa_nil he2) he) hn hdb he hpl).weak (tE_fn2 hr hk hkr)
/-- len -/
def oLen : D → Option D
  | .lst xs => some (.int xs.length)
  | .fz xs => some (.int xs.length)
  | .tup xs => some (.int xs.length)
  | .str s => if s.length ≤ 16777216 then some (.int s.length) else none
  | .dK kvs => some (.int kvs.length)
  | _ => none
def cror (r s : List V → Hp → VK → Prop) : List V → Hp → VK → Prop := fun xs H Q => r xs H Q ∨ s xs H Q
theorem CallR.or' {f : Value} {r s : List V → Hp → VK → Prop} (h : CallR X f r) (k : CallR X f s) : CallR X f (cror r s) := by
  intro pins st σ H xs us Q I rx q
  rcases q with q | q
  · exact h pins st σ H xs us Q I rx q
  · exact k pins st σ H xs us Q I rx q
def rLen (K : PySem.W.Frag) : List V → Hp → VK → Prop := cror (fun xs H Q => ∃ x n, xs = [x] ∧ LenV K x H n ∧ Q (.int n) H) (fun xs H Q => ∃ a kvs, xs = [V.ref a] ∧ H a = some (.dK kvs) ∧ Q (.int kvs.length) H)
theorem call_lenA : CallR X (.builtin "len") (rLen X.K) := CallR.or' call_len call_lenD
theorem fn_len : Fn1 .im g (rLen g.K) oLen := fun H A x d z Q hA rx ho q => by
  unfold oLen at ho
  split at ho
  · cases ho
    obtain ⟨a, vs, rfl, ha, ra⟩ := rx.lst
    rw [← ra.length] at q
    exact .inl ⟨_, vs.length, rfl, .inl ⟨vs, .inl (.inl ha), rfl⟩, q _ _ (out_flat fun _ _ => .int _)⟩
  · cases ho
    obtain ⟨a, vs, rfl, ha, ra⟩ := rx.fz
    rw [← ra.length] at q
    exact .inl ⟨_, vs.length, rfl, .inl ⟨vs, ha.sq, rfl⟩, q _ _ (out_flat fun _ _ => .int _)⟩
  · cases ho
    obtain ⟨a, vs, rfl, ha, ra⟩ := rx.tup
    rw [← ra.length] at q
    exact .inl ⟨_, vs.length, rfl, .inr ⟨vs, ha.sq, rfl⟩, q _ _ (out_flat fun _ _ => .int _)⟩
  · split at ho
    · rename_i s hz
      cases ho
      rw [rx.str]
      exact .inl ⟨_, s.length, rfl, ⟨by rw [S_len]; exact hz, (S_len s).symm⟩, q _ _ (out_flat fun _ _ => .int _)⟩
    · cases ho
  · rename_i es
    cases ho
    obtain ⟨a, kvs, rfl, ha, ek, ra⟩ := rx.dK
    have e : kvs.length = es.length := by simpa using congrArg List.length ek
    rw [← e] at q
    exact .inr ⟨a, kvs, rfl, ha, q _ _ (out_flat fun _ _ => .int _)⟩
  · cases ho
/-- list(x), tuple(x) -/
def oList : D → Option D
  | .lst xs => some (.lst xs)
  | .fz xs => some (.lst xs)
  | .tup xs => some (.lst xs)
  | _ => none
theorem fn_list {k : Kd} (hk : k ≠ .ln) : Fn1 k g (fun xs H Q => ∃ p ys, xs = [.ref p] ∧ (SqL g.K H p ys ∨ SqT g.K H p ys) ∧ ∀ l, H l = none → Q (.ref l) (upd H l (.lst ys))) oList := fun H A x d z Q hA rx ho q => by
  unfold oList at ho
  split at ho
  · cases ho
    obtain ⟨a, vs, rfl, ha, ra⟩ := rx.lst
    exact ⟨a, vs, rfl, .inl (.inl (.inl ha)), fun p hp => q _ _ (out_lst hk hA ra hp)⟩
  · cases ho
    obtain ⟨a, vs, rfl, ha, ra⟩ := rx.fz
    exact ⟨a, vs, rfl, .inl (ha.sq), fun p hp => q _ _ (out_lst hk hA ra hp)⟩
  · cases ho
    obtain ⟨a, vs, rfl, ha, ra⟩ := rx.tup
    exact ⟨a, vs, rfl, .inr ha.sq, fun p hp => q _ _ (out_lst hk hA ra hp)⟩
  · cases ho
def oTuple : D → Option D
  | .lst xs => some (.tup xs)
  | .fz xs => some (.tup xs)
  | .tup xs => some (.tup xs)
  | _ => none
theorem fn_tuple : Fn1 .im g (fun xs H Q => ∃ p ys, xs = [.ref p] ∧ ((SqL g.K H p ys ∧ ∀ l, H l = none → Q (.ref l) (upd H l (.tup ys))) ∨ (SqT g.K H p ys ∧ Q (.ref p) H))) oTuple := fun H A x d z Q hA rx ho q => by
  unfold oTuple at ho
  split at ho
  · cases ho
    obtain ⟨a, vs, rfl, ha, ra⟩ := rx.lst
    exact ⟨a, vs, rfl, .inl ⟨.inl (.inl ha), fun p hp => q _ _ (out_tup hA ra hp)⟩⟩
  · cases ho
    obtain ⟨a, vs, rfl, ha, ra⟩ := rx.fz
    exact ⟨a, vs, rfl, .inl ⟨ha.sq, fun p hp => q _ _ (out_tup hA ra hp)⟩⟩
  · cases ho
    obtain ⟨a, vs, rfl, ha, ra⟩ := rx.tup
    exact ⟨a, vs, rfl, .inr ⟨ha.sq, q _ _ ⟨Same.refl H, .tup ha ra⟩⟩⟩
  · cases ho
/-- int(x) -/
def intOf (s : List Nat) : Option Int := if s.length ≤ 640 then PySem.intText? (S s) else none
def oInt : D → Option D
  | .int i => some (.int i)
  | .bl b => some (.int (if b then 1 else 0))
  | .str s => (intOf s).map .int
  | _ => none
def rInt : List V → Hp → VK → Prop := cror (fun xs H Q => (∃ i, xs = [.int i] ∧ Q (.int i) H) ∨ ∃ k, xs = [.bl k] ∧ Q (.int (if k then 1 else 0)) H) (fun xs H Q => ∃ a n, xs = [.str a] ∧ PySem.intText? a = some n ∧ a.length ≤ 640 ∧ Q (.int n) H)
theorem call_intA : CallR X (.type "int") rInt := CallR.or' call_int1 call_int_str
theorem fn_int : Fn1 .im g rInt oInt := fun H A x d z Q hA rx ho q => by
  unfold oInt at ho
  split at ho
  · cases ho
    rw [rx.int]
    exact .inl (.inl ⟨_, rfl, q _ _ (out_flat fun _ _ => .int _)⟩)
  · cases ho
    rw [rx.bl]
    exact .inl (.inr ⟨_, rfl, q _ _ (out_flat fun _ _ => .int _)⟩)
  · rename_i s
    unfold intOf at ho
    split at ho
    · rename_i hz
      cases e : PySem.intText? (S s) with
      | none => rw [e] at ho; cases ho
      | some n =>
        rw [e] at ho
        cases ho
        rw [rx.str]
        exact .inr ⟨_, n, rfl, e, by rw [S_len]; exact hz, q _ _ (out_flat fun _ _ => .int _)⟩
    · cases ho
  · cases ho
/-- str(x) -/
theorem rep_strV (x : Str) : Rep g H A (.str x) (.str x.cps.toList) := by
  have := Rep.str (g := g) (H := H) (Av := A) x.cps.toList
  rw [S_of] at this
  exact this
def strOf (i : Int) : List Nat := (toString i : Str).cps.toList
def oStr : D → Option D
  | .int i => if i.natAbs.log2 < 1920 then some (.str (strOf i)) else none
  | _ => none
theorem fn_str : Fn1 .im g (fun xs H Q => ∃ i, xs = [.int i] ∧ i.natAbs.log2 < 1920 ∧ Q (.str (toString i)) H) oStr := fun H A x d z Q hA rx ho q => by
  unfold oStr at ho
  split at ho
  · split at ho
    · rename_i i hz
      cases ho
      rw [rx.int]
      exact ⟨_, rfl, hz, q _ _ (out_flat fun _ _ => rep_strV _)⟩
    · cases ho
  · cases ho
/-- max(i, j), min(i, j) -/
def oMax : D → D → Option D := oI (fun _ _ => true) fun i j => .int (if j > i then j else i)
def oMin : D → D → Option D := oI (fun _ _ => true) fun i j => .int (if j < i then j else i)
theorem fn_max : Fn2 .im g (fun xs H Q => ∃ i j, xs = [.int i, .int j] ∧ Q (.int (if j > i then j else i)) H) oMax := fun H A x y d e z Q hA rx ry ho q => by
  unfold oMax oI at ho
  split at ho
  · split at ho
    · cases ho
      rw [rx.int, ry.int]
      exact ⟨_, _, rfl, q _ _ (out_flat fun _ _ => .int _)⟩
    · cases ho
  · cases ho
theorem fn_min : Fn2 .im g (fun xs H Q => ∃ i j, xs = [.int i, .int j] ∧ Q (.int (if j < i then j else i)) H) oMin := fun H A x y d e z Q hA rx ry ho q => by
  unfold oMin oI at ho
  split at ho
  · split at ho
    · cases ho
      rw [rx.int, ry.int]
      exact ⟨_, _, rfl, q _ _ (out_flat fun _ _ => .int _)⟩
    · cases ho
  · cases ho
/-- ord(c) -/
def oOrd : D → Option D
  | .str [c] => some (.int c)
  | _ => none
theorem fn_ord : Fn1 .im g (fun xs H Q => ∃ x, xs = [.str x] ∧ x.length = 1 ∧ Q (.int (x.cps.getD 0 0 : Nat)) H) oOrd := fun H A x d z Q hA rx ho q => by
  unfold oOrd at ho
  split at ho
  · cases ho
    rw [rx.str]
    exact ⟨_, rfl, rfl, q _ _ (out_flat fun _ _ => .int _)⟩
  · cases ho
/-- isinstance(x, T), T a built-in type -/
def tyN : D → Option String
  | .non => some "NoneType" | .bl _ => some "bool" | .int _ => some "int" | .str _ => some "str" | .lst _ => some "list" | .fz _ => some "list" | .tup _ => some "tuple" | .dK _ => some "dict" | .dT _ => some "dict"
  | _ => none
theorem tyN_ok {x : V} {t : String} (r : LRep g H A x d) (h : tyN d = some t) : TyX g.K H x (.type t) := by
  unfold tyN at h
  split at h
  · cases h; rw [r.non]; exact .base .non
  · cases h; rw [r.bl]; exact .base (.bl _)
  · cases h; rw [r.int]; exact .base (.int _)
  · cases h; rw [r.str]; exact .base (.str _)
  · cases h; obtain ⟨a, vs, rfl, ha, _⟩ := r.lst; exact .base (.lst ha)
  · cases h
    obtain ⟨a, vs, rfl, ha, _⟩ := r.fz
    rcases ha with ⟨ob, ha, _⟩ | ha
    · exact .base (.frz ha)
    · rcases ha with (ha | ⟨_, ha⟩) | ⟨ob, its, n, hk, hc, _⟩
      · cases ha
      · cases ha
      · exact .kList hk hc
  · cases h
    obtain ⟨a, vs, rfl, ha, _⟩ := r.tup
    exact .base (.tup ha.1)
  · cases h; obtain ⟨a, vs, rfl, ha, _⟩ := r.dK; exact .base (.dK ha)
  · cases h; obtain ⟨a, vs, rfl, ha, _⟩ := r.dT; exact .base (.dT ha)
  · cases h
def isTy (T t : String) : Bool := t == T || (t == "bool" && T == "int")
def allTy : List String := ["NoneType", "bool", "int", "str", "list", "tuple", "dict"]
def oIsi (T : String) : D → Option D := fun d => (tyN d).map fun t => .bl (isTy T t)
theorem tyN_mem {d : D} {t : String} (h : tyN d = some t) : t ∈ allTy := by
  cases d <;> first | (cases h; done) | (cases h; decide)
theorem je_isi {T : String} {x y : Str} {p p2 : Pos} (hT : ∀ t ∈ allTy, kitB t T = some (isTy T t)) (hg : Gl X x) (hm : X.mg x = none) (hv : bootBuiltins x = some (.builtin "isinstance")) (hg2 : Gl X y) (hm2 : X.mg y = none) (hv2 : bootBuiltins y = some (.type T)) (ha : JE X W k m a fa)
    (hn : x ≠ "__name__" := by decide) (hdb : (x == ("__debug__" : Str)) = false := by decide) (hn2 : y ≠ "__name__" := by decide) (hdb2 : (y == ("__debug__" : Str)) = false := by decide) (he : starEach [a, .Name y p2] X.env = (false, eval a X.env) :: starEach [.Name y p2] X.env := by rfl)
    (he2 : starEach [.Name y p2] X.env = (false, eval (.Name y p2) X.env) :: starEach [] X.env := by rfl) (hpl : (backTo pos (starEach [.Name y p2] X.env)).any (·.1) = false := by rfl) : JE X W .im m (.Call (.Name x p) [a, .Name y p2] [] pos) (op1 (oIsi T) fa) :=
  (pe_callB call_isi hg hm hv (pa_cons ha (pa_cons (pe_bltn (v := .ty T) hg2 hm2 hv2 rfl hn2 hdb2) pa_nil he2) he) hn hdb he hpl).weak fun σ H Q ⟨γ, τ, R, h⟩ => by
    unfold op1 at h
    rw [fit_bind] at h
    refine ⟨γ, τ, R, h.mono (fun d τ1 h v H1 s1 P1 => ?_) fun _ _ q => q⟩
    obtain ⟨z, ez, h⟩ := fit_lift.mp h
    obtain ⟨R1, kp1, v1⟩ := P1.val
    unfold oIsi at ez
    cases et : tyN d with
    | none => rw [et] at ez; cases ez
    | some t =>
      rw [et] at ez
      cases ez
      exact ⟨v, .ty T, .type t, .type T, isTy T t, rfl, .ty T, tyN_ok v1.l et, kit_ty (hT t (tyN_mem et)), h _ H1 s1 ⟨R1, kp1, .bl _⟩⟩
theorem isi_str : ∀ t ∈ allTy, kitB t "str" = some (isTy "str" t) := by decide +kernel
theorem isi_int : ∀ t ∈ allTy, kitB t "int" = some (isTy "int" t) := by decide +kernel
theorem isi_bool : ∀ t ∈ allTy, kitB t "bool" = some (isTy "bool" t) := by decide +kernel
theorem isi_list : ∀ t ∈ allTy, kitB t "list" = some (isTy "list" t) := by decide +kernel
theorem isi_tuple : ∀ t ∈ allTy, kitB t "tuple" = some (isTy "tuple" t) := by decide +kernel
theorem isi_dict : ∀ t ∈ allTy, kitB t "dict" = some (isTy "dict" t) := by decide +kernel
end
end PL

namespace PL
open PySem PySem.Spec PyProof.Rows L2

section
variable {X : Cx} {W : WX} {g : Gc} {γ : G} {τ τ' τ1 τ2 : PS0} {σ σ' : L2.St} {H H' H1 H2 : Hp} {A : Addr → Prop} {p : Addr} {v : V} {d : D} {k k1 k2 k3 kr : Kd} {m m1 m2 m3 : Bool} {e e1 e2 a b c : Expr} {es rest : List Expr} {f fa fb fc : M D} {t u : M Bool} {fs : M (List D)} {pos : Pos} {r r' : R2} {o o' : D → D → Option D}

/-! ### methods of values -/
/-- texts in a list -/
def strsOf : List D → Option (List (List Nat))
  | [] => some []
  | .str s :: r => (strsOf r).map (s :: ·)
  | _ => none
theorem strsOf_eq : ∀ {xs : List D} {ss : List (List Nat)}, strsOf xs = some ss → xs = ss.map D.str
  | [], ss, h => by cases h; rfl
  | .str s :: r, ss, h => by
    unfold strsOf at h
    cases e : strsOf r with
    | none => rw [e] at h; cases h
    | some q =>
      rw [e] at h
      cases h
      rw [List.map_cons, ← strsOf_eq e]
  | .non :: _, _, h | .bl _ :: _, _, h | .int _ :: _, _, h | .lst _ :: _, _, h | .tup _ :: _, _, h | .dK _ :: _, _, h | .dT _ :: _, _, h | .exc _ :: _, _, h | .fz _ :: _, _, h => by unfold strsOf at h; cases h
theorem strsOf_map : ∀ ss : List (List Nat), strsOf (ss.map D.str) = some ss
  | [] => rfl
  | s :: r => by
    rw [List.map_cons]
    unfold strsOf
    rw [strsOf_map r]
    rfl
def joinD (sep : List Nat) : List (List Nat) → List Nat
  | [] => []
  | q :: r => r.foldl (fun acc q => acc ++ sep ++ q) q
theorem join_S (sep : List Nat) : ∀ ss : List (List Nat), Txt.join (S sep) (ss.map S) = S (joinD sep ss)
  | [] => rfl
  | q :: r => by
    show (⟨(r.map S).foldl (fun acc p => acc ++ (S sep).cps ++ p.cps) (S q).cps⟩ : Str) = S (r.foldl (fun acc q => acc ++ sep ++ q) q)
    have h : ∀ (r : List (List Nat)) (q : List Nat), (r.map S).foldl (fun acc p => acc ++ (S sep).cps ++ p.cps) q.toArray = (r.foldl (fun acc q => acc ++ sep ++ q) q).toArray := by
      intro r
      induction r with
      | nil => intro q; rfl
      | cons x r ih =>
        intro q
        rw [List.map_cons, List.foldl_cons, List.foldl_cons, ← ih]
        congr 1
        simp [S]
    show (⟨_⟩ : Str) = ⟨_⟩
    rw [← h r q] <;> rfl
def oJoin : D → D → Option D
  | .str sep, .lst xs => match strsOf xs with
    | some ss => if (ss.map List.length).sum + ss.length * sep.length ≤ 16777216 then some (.str (joinD sep ss)) else none
    | none => none
  | _, _ => none
def tM1r (r : V → List V → Hp → VK → Prop) : R2 := fun x y H Q => (∃ a, x = .str a) ∧ r x [y] H Q
/-- a method of a text with one argument -/
theorem tE_sm1 {rm : V → List V → Hp → VK → Prop} (hr : Op2 kr X.g (tM1r rm) o) (hk : k1 ≠ .ln ∨ m2 = false) (hkr : kr ≠ .ln) (σ : L2.St) (H : Hp) (Q : VK)
    (q : tE X.g W kr (m1 || m2) (andThen fa fun x => andThen (lift (match x with | .str s => some (D.str s) | _ => none)) fun x => andThen fb fun y => lift (o x y)) σ H Q) : tM1 rm (tE X.g W k1 m1 fa) (tE X.g W k2 m2 fb) σ H Q := by
  obtain ⟨γ, τ, R, h⟩ := q
  rw [fit_bind] at h
  refine ⟨γ, τ, R, h.mono (fun d τ1 h x H1 s1 P1 => ?_) fun _ _ q => q⟩
  obtain ⟨R1, kp1, v1⟩ := P1.val
  rw [fit_bind, fit_lift] at h
  obtain ⟨d', ed, h⟩ := h
  split at ed
  · rename_i s
    cases ed
    refine ⟨⟨_, v1.l.str⟩, ?_⟩
    rw [fit_bind] at h
    refine ⟨γ, τ1, R1, h.mono (fun e τ2 h y H2 s2 P2 => ?_) fun _ _ q => q.pre kp1⟩
    obtain ⟨R2, kp2, v2⟩ := P2.val
    obtain ⟨z, ez, h⟩ := fit_lift.mp h
    have v1' := carry (k1 := k1) hk v1 s2 kp2
    exact (hr H2 (Av γ τ2 σ) x y _ e z Q R2.avT v1'.l v2.l ez fun v' H' ou => h v' H' (fun q => (or_same s1 s2 q).trans ou.1) (PostE.of_out R2 (kp1.trans kp2) hkr ou)).2
  · cases ed
theorem je_sm1 {id : String} {name : Str} {apos : Pos} {rm : V → List V → Hp → VK → Prop} (slot : PySem.Slot "str" name id) (ty : typeOf (.builtin id) = pure (.type "method_descriptor")) (rule : MtR X id rm) (hr : Op2 kr X.g (tM1r rm) o) (hs0 : ∀ d e z, o d e = some z → ∃ s, d = .str s) (ha : JE X W k1 m1 a fa) (hb : JE X W k2 m2 b fb)
    (hk : k1 ≠ .ln ∨ m2 = false := by first | exact .inr rfl | exact .inl (by decide)) (hkr : kr ≠ .ln := by decide)
    (hs : starEach [b] X.env = [(false, eval b X.env)] := by rfl) (hbase : attributeBase a name X.env (eval a X.env) = eval a X.env := by rfl) (hline : (apos.endLine == pos.line) = true := by rfl) :
    JE X W kr (m1 || m2) (.Call (.Attribute a name apos) [b] [] pos) (andThen fa fun x => andThen (lift (match x with | .str s => some (D.str s) | _ => none)) fun x => andThen fb fun y => lift (o x y)) := (pe_m1 slot ty rule ha hb hs hbase hline).weak (tE_sm1 hr hk hkr)
def strM (fa fb : M D) (o : D → D → Option D) : M D := andThen fa fun x => andThen (lift (match x with | .str s => some (D.str s) | _ => none)) fun x => andThen fb fun y => lift (o x y)
theorem RepA.strs' {vs : List V} {ss : List (List Nat)} (r : RepA g H A vs (ss.map D.str)) : vs = (ss.map S).map V.str := by
  rw [r.strs, List.map_map]
  rfl
theorem o2_join : Op2 .im g (tM1r fun x xs H Q => ∃ a p, ∃ ys : List Str, x = .str a ∧ xs = [.ref p] ∧ (SqL g.K H p (ys.map V.str) ∨ SqT g.K H p (ys.map V.str)) ∧ (ys.map (·.length)).sum + ys.length * a.length ≤ 16777216 ∧ Q (.str (Txt.join a ys)) H) oJoin := fun H A x y d e z Q hA rx ry ho q => by
  unfold oJoin at ho
  split at ho
  · rename_i sep xs
    split at ho
    · rename_i ss es
      split at ho
      · rename_i hz
        cases ho
        have ex := strsOf_eq es
        subst ex
        obtain ⟨a, vs, rfl, ha, ra⟩ := ry.lst
        have ev := ra.strs'
        subst ev
        rw [rx.str]
        refine ⟨⟨_, rfl⟩, S sep, a, ss.map S, rfl, rfl, .inl (.inl (.inl ha)), ?_, ?_⟩
        · rw [List.map_map, List.length_map, S_len]
          have e1 : (ss.map ((fun x : Str => x.length) ∘ S)) = ss.map List.length := List.map_congr_left fun l _ => S_len l
          rw [e1]
          exact hz
        · rw [join_S]
          exact q _ _ (out_flat fun _ _ => .str _)
      · cases ho
    · cases ho
  · cases ho
theorem je_join {apos : Pos} (ha : JE X W k1 m1 a fa) (hb : JE X W k2 m2 b fb) (hk : k1 ≠ .ln ∨ m2 = false := by first | exact .inr rfl | exact .inl (by decide))
    (hs : starEach [b] X.env = [(false, eval b X.env)] := by rfl) (hbase : attributeBase a "join" X.env (eval a X.env) = eval a X.env := by rfl) (hline : (apos.endLine == pos.line) = true := by rfl) :
    JE X W .im (m1 || m2) (.Call (.Attribute a "join" apos) [b] [] pos) (strM fa fb oJoin) :=
  je_sm1 F.slot_str_join F.type_str_join mt_join o2_join (fun d e z h => by cases d <;> first | exact ⟨_, rfl⟩ | (unfold oJoin at h; cases h)) ha hb hk (by decide) hs hbase hline

/-! ### what one owns is changed: x.append(e) .. -/
/-- what a method makes of the contents and the arguments: what it gives, the new contents -/
abbrev OMt := D → List D → Option (D × D)
def MtO (g : Gc) (T : String) (r : V → List V → Hp → VK → Prop) (o : OMt) : Prop := ∀ (H : Hp) (A : Addr → Prop) (a : Addr) (c : D) (vs : List V) (ds : List D) (z c' : D) (Q : VK), A a → Cont g H A a c → RepA g H A vs ds → o c ds = some (z, c') →
  (∀ v H', (∀ b u, b ≠ a → H b = some u → H' b = some u) → Cont g H' A a c' → Rep g H' A v z → Q v H') → r (.ref a) vs H Q
/-- the contents of a slot of one's own -/
def ownC (τ : PS0) (i : Nat) : Option D := match τ[i]? with
  | some (.ow d) => some d
  | some (.mu d) => some d
  | _ => none
def putC (τ : PS0) (i : Nat) (d : D) : PS0 := match τ[i]? with
  | some s => τ.set i (s.put d)
  | none => τ
def tyOk (T : String) : D → Bool
  | .lst _ => T == "list"
  | .dK _ => T == "dict"
  | .dT _ => T == "dict"
  | _ => false
def mutM (T : String) (i : Nat) (fs : M (List D)) (o : OMt) : M D := andThen (fun τ => match ownC τ i with
    | some c => if tyOk T c = true then .ok () τ else .stuck
    | none => .stuck) fun _ => andThen fs fun ds τ => match ownC τ i with
  | some c => match o c ds with
    | some (z, c') => .ok z (putC τ i c')
    | none => .stuck
  | none => .stuck
theorem Rel.ownC {i : Nat} {c : D} (R : Rel g γ τ σ H) (h : PL.ownC τ i = some c) : ∃ a s, τ[i]? = some s ∧ s.isOwn = true ∧ σ[i]? = some (some (.ref a)) ∧ Cont g H (Av γ τ σ) a c := by
  unfold PL.ownC at h
  split at h
  · rename_i d e
    cases h
    obtain ⟨a, e1, c⟩ := R.ow i _ e
    exact ⟨a, _, e, rfl, e1, c⟩
  · rename_i d e
    cases h
    obtain ⟨e1, c⟩ := R.mu i _ e
    exact ⟨_, _, e, rfl, e1, c⟩
  · cases h
theorem tyV_own {T : String} {c : D} {a : Addr} (h : tyOk T c = true) (ct : Cont g H A a c) : tyV g.K T (.ref a) H := by
  cases ct with
  | lst h1 r =>
    have e : T = "list" := by unfold tyOk at h; simpa using h
    exact .inl ⟨e, _, .inl (.inl h1)⟩
  | dK h1 _ r =>
    have e : T = "dict" := by unfold tyOk at h; simpa using h
    exact .inr (.inr (.inl ⟨e, .inl ⟨_, h1⟩⟩))
  | dT h1 _ r =>
    have e : T = "dict" := by unfold tyOk at h; simpa using h
    exact .inr (.inr (.inl ⟨e, .inr ⟨_, h1⟩⟩))
/-- behind a method on slot i -/
theorem put_post {i : Nat} {s : Slot} {a : Addr} {c' z : D} {v : V} (R : Rel g γ τ1 σ H1) (kp : Kp (Own τ σ) H (Own τ1 σ) H1) (hs : τ1[i]? = some s) (ho : s.isOwn = true) (hi : σ[i]? = some (some (.ref a)))
    (k0 : ∀ b u, b ≠ a → H1 b = some u → H' b = some u) (c : Cont g H' (Av γ τ1 σ) a c') (r : Rep g H' (Av γ τ1 σ) v z) : PostE .im g γ τ σ H (putC τ1 i c') σ H' v z := by
  have oa : OwnAt τ1 σ i a := ⟨⟨s, hs, ho⟩, hi⟩
  obtain ⟨R', k'⟩ := R.put hs oa k0 c
  unfold putC
  rw [hs]
  exact ⟨R', kp.trans k', r.kp (Kp.less fun b q => q.elim .inl fun z => .inr ((own_put hs).mp z))⟩
theorem tE_mut {T : String} {i : Nat} {rm : V → List V → Hp → VK → Prop} {om : OMt} (hm : MtO X.g T rm om) {ts : L2.St → Hp → (List V → Hp → Prop) → Prop}
    (hts : ∀ (σ : L2.St) (H1 : Hp) (K : List V → Hp → Prop), tA X.g W m fs σ H1 K → ts σ H1 K)
    (σ : L2.St) (H : Hp) (Q : VK) (h : tE X.g W .im true (mutM T i fs om) σ H Q) : tVar i σ H fun x H1 => tyV X.K T x H1 ∧ ts σ H1 fun xs H2 => rm x xs H2 Q := by
  obtain ⟨γ, τ, R, h⟩ := h
  unfold mutM at h
  rw [fit_bind] at h
  cases e0 : ownC τ i with
  | none => rw [e0] at h; exact h.elim
  | some c0 =>
    rw [e0] at h
    cases et : tyOk T c0 with
    | false =>
      simp only [et, Bool.false_eq_true, if_false] at h
      exact h.elim
    | true =>
      simp only [et, if_true] at h
      obtain ⟨a, s, hs, ho, hi, ct⟩ := R.ownC e0
      refine ⟨.ref a, hi, tyV_own et ct, hts σ H _ ?_⟩
      have h : Fit (andThen fs _ τ) _ _ := h
      rw [fit_bind] at h
      refine ⟨γ, τ, R, h.mono (fun ds τ1 h vs H1 s1 R1 kp1 rs => ?_) fun _ _ q => q⟩
      cases e1 : ownC τ1 i with
      | none => rw [e1] at h; exact h.elim
      | some c1 =>
        rw [e1] at h
        cases eo : om c1 ds with
        | none =>
          simp only [eo] at h
          exact h.elim
        | some zc =>
          obtain ⟨z, c'⟩ := zc
          simp only [eo] at h
          obtain ⟨a', s', hs', ho', hi', ct'⟩ := R1.ownC e1
          have ea : a' = a := by rw [hi] at hi'; cases hi'; rfl
          subst ea
          exact hm H1 (Av γ τ1 σ) a' c1 vs ds z c' Q (.inr ⟨i, ⟨s', hs', ho'⟩, hi'⟩) ct' rs eo fun v H2 k0 c2 r2 => h v H2 (fun z => nomatch z) (put_post R1 kp1 hs' ho' hi' k0 c2 r2)
/-- x.m(e, ..), x a name that owns -/
theorem je_mut {T id : String} {name x : Str} {apos px : Pos} {rm : V → List V → Hp → VK → Prop} {om : OMt} (i : Nat) (pa : PlainAttrs T) (slot : PySem.Slot T name id) (hty : typeOf (.builtin id) = pure (.type "method_descriptor")) (hm : MtR X id rm) (hr : MtO X.g T rm om) (ha : JA X W m (e :: es) fs)
    (hN : X.N[i]? = some x := by rfl) (hv : Vis X.env.scope x := by first | exact Or.inl rfl | exact Or.inr (Or.inl rfl) | exact Or.inr (Or.inr rfl)) (hd : (x == ("__debug__" : Str)) = false := by decide) (hcd : (x == ("__classdict__" : Str)) = false := by decide)
    (hbase : attributeBase (.Name x px) name X.env (eval (.Name x px) X.env) = eval (.Name x px) X.env := by rfl)
    (hfew : ((backTo pos (starEach (e :: es) X.env)).all (fun x => !x.1) && (backToKw pos (keywordEach [] X.env)).all (fun x => x.1.isSome)
      && decide ((e :: es).length + ([] : List Keyword).length + (if ([] : List Keyword).isEmpty then 0 else 1) < 30)) = true := by rfl)
    (hline : (apos.endLine == pos.line) = true := by rfl) (hs : starEach (e :: es) X.env = (false, eval e X.env) :: starEach es X.env := by rfl) (hplain : (backTo pos (starEach es X.env)).any (·.1) = false := by rfl) :
    JE X W .im true (.Call (.Attribute (.Name x px) name apos) (e :: es) [] pos) (mutM T i fs om) :=
  (pe_bm pa slot hty hm (pe_var hN hv hd hcd) ha hbase hfew hline hs hplain).weak (tE_mut hr fun _ _ _ h => h)
theorem je_mut0 {T id : String} {name x : Str} {apos px : Pos} {rm : V → List V → Hp → VK → Prop} {om : OMt} (i : Nat) (pa : PlainAttrs T) (slot : PySem.Slot T name id) (hty : typeOf (.builtin id) = pure (.type "method_descriptor")) (hm : MtR X id rm) (hr : MtO X.g T rm om)
    (hN : X.N[i]? = some x := by rfl) (hv : Vis X.env.scope x := by first | exact Or.inl rfl | exact Or.inr (Or.inl rfl) | exact Or.inr (Or.inr rfl)) (hd : (x == ("__debug__" : Str)) = false := by decide) (hcd : (x == ("__classdict__" : Str)) = false := by decide)
    (hbase : attributeBase (.Name x px) name X.env (eval (.Name x px) X.env) = eval (.Name x px) X.env := by rfl) (hline : (apos.endLine == pos.line) = true := by rfl) :
    JE X W .im true (.Call (.Attribute (.Name x px) name apos) [] [] pos) (mutM T i argN om) :=
  (pe_bm0 pa slot hty hm (pe_var hN hv hd hcd) hbase hline).weak fun σ H Q h => by
    obtain ⟨v, e, ty, q⟩ := tE_mut (m := false) (ts := tA X.g W false argN) hr (fun _ _ _ h => h) σ H Q h
    obtain ⟨γ, τ, R, q⟩ := q
    exact ⟨v, e, ty, q [] H (fun _ => Same.refl H) R Kp.refl .nil⟩
theorem upd_put {H : Hp} {A : Addr → Prop} {a : Addr} {o : HO} (hA : A a) {vs : List V} {ds : List D} (r : RepA g H A vs ds) : RepA g (upd H a o) A vs ds :=
  r.kp fun b u e n => ⟨by rw [upd_ne (fun z => by rw [z] at n; exact n hA)]; exact e, n⟩
theorem upd_put1 {H : Hp} {A : Addr → Prop} {a : Addr} {o : HO} (hA : A a) {v : V} {d : D} (r : Rep g H A v d) : Rep g (upd H a o) A v d :=
  r.kp fun b u e n => ⟨by rw [upd_ne (fun z => by rw [z] at n; exact n hA)]; exact e, n⟩
theorem upd_keep {H : Hp} {a : Addr} {o : HO} : ∀ b u, b ≠ a → H b = some u → upd H a o b = some u := fun b u hb e => by rw [upd_ne hb]; exact e
def oAppend : OMt
  | .lst xs, [y] => if xs.length < 16777216 then some (.non, .lst (xs ++ [y])) else none
  | _, _ => none
theorem mo_append : MtO g "list" rAppend oAppend := fun H A a c vs ds z c' Q hA ct rs ho q => by
  unfold oAppend at ho
  split at ho
  · split at ho
    · rename_i xs y hz
      cases ho
      cases ct with
      | lst h r =>
        cases rs with
        | cons ry rt =>
          cases rt
          exact ⟨a, _, _, rfl, rfl, h, by rw [r.length]; exact hz, q _ _ upd_keep (.lst upd_same (upd_put hA (r.append (.cons ry .nil)))) .non⟩
    · cases ho
  · cases ho
def oExtend : OMt
  | .lst xs, [.lst ys] => if xs.length + ys.length ≤ 16777216 then some (.non, .lst (xs ++ ys)) else none
  | _, _ => none
theorem mo_extend : MtO g "list" rExtend oExtend := fun H A a c vs ds z c' Q hA ct rs ho q => by
  unfold oExtend at ho
  split at ho
  · split at ho
    · rename_i xs ys hz
      cases ho
      cases ct with
      | lst h r =>
        cases rs with
        | cons ry rt =>
          cases rt
          obtain ⟨b, ws, rfl, hb, rb⟩ := LRep.lst (.inl ry)
          exact ⟨a, b, _, _, rfl, rfl, h, hb, by rw [r.length, rb.length]; exact hz, q _ _ upd_keep (.lst upd_same (upd_put hA (r.append rb))) .non⟩
    · cases ho
  · cases ho
def oPop : OMt
  | .lst xs, [] => (xs[xs.length - 1]?).map fun y => (y, .lst xs.dropLast)
  | _, _ => none
theorem mo_pop : MtO g "list" rPop oPop := fun H A a c vs ds z c' Q hA ct rs ho q => by
  unfold oPop at ho
  split at ho
  · rename_i xs
    cases e : xs[xs.length - 1]? with
    | none => rw [e] at ho; cases ho
    | some y =>
      rw [e] at ho
      cases ho
      cases ct with
      | lst h r =>
        cases rs
        obtain ⟨v, hv, rv⟩ := r.get e
        rw [← r.length] at hv
        exact ⟨a, _, v, rfl, rfl, h, hv, q _ _ upd_keep (.lst upd_same (upd_put hA r.dropLast)) (upd_put1 hA rv)⟩
  · cases ho
def oPopAt : OMt
  | .lst xs, [.int i] => if -(2 ^ 63) ≤ i ∧ i < 2 ^ 63 then (seqIndex? i xs.length).bind fun k => (xs[k]?).map fun y => (y, .lst (xs.eraseIdx k)) else none
  | _, _ => none
theorem mo_popAt : MtO g "list" rPopAt oPopAt := fun H A a c vs ds z c' Q hA ct rs ho q => by
  unfold oPopAt at ho
  split at ho
  · rename_i xs i
    split at ho
    · rename_i hz
      cases ek : seqIndex? i xs.length with
      | none => rw [ek] at ho; cases ho
      | some kk =>
        rw [ek] at ho
        cases e : xs[kk]? with
        | none => simp only [Option.bind_some, e] at ho; cases ho
        | some y =>
          simp only [Option.bind_some, e] at ho
          cases ho
          cases ct with
          | lst h r =>
            cases rs with
            | cons ry rt =>
              cases rt
              obtain ⟨v, hv, rv⟩ := r.get e
              rw [LRep.int (.inl ry)]
              exact ⟨a, _, i, kk, v, rfl, rfl, h, hz.1, hz.2, by rw [r.length]; exact ek, hv, q _ _ upd_keep (.lst upd_same (upd_put hA (r.eraseIdx kk))) (upd_put1 hA rv)⟩
    · cases ho
  · cases ho
def oInsert : OMt
  | .lst xs, [.int i, y] => if xs.length < 16777216 ∧ 0 ≤ i ∧ i < 2 ^ 63 then some (.non, .lst (xs.take i.toNat ++ [y] ++ xs.drop i.toNat)) else none
  | _, _ => none
theorem mo_insert : MtO g "list" (fun x vs H Q => ∃ (l : Addr) (xs : List V) (i : Int) (y : V), x = .ref l ∧ vs = [.int i, y] ∧ H l = some (.lst xs) ∧ xs.length < sizeLine ∧ 0 ≤ i ∧ i < 2 ^ 63 ∧
    Q .non (upd H l (.lst (xs.take i.toNat ++ [y] ++ xs.drop i.toNat)))) oInsert := fun H A a c vs ds z c' Q hA ct rs ho q => by
  unfold oInsert at ho
  split at ho
  · split at ho
    · rename_i xs i y hz
      cases ho
      cases ct with
      | lst h r =>
        cases rs with
        | cons ri rt =>
          cases rt with
          | cons ry rt =>
            cases rt
            rw [LRep.int (.inl ri)]
            exact ⟨a, _, i, _, rfl, rfl, h, by rw [r.length]; exact hz.1, hz.2.1, hz.2.2, q _ _ upd_keep (.lst upd_same (upd_put hA (((r.take _).append (.cons ry .nil)).append (r.drop _)))) .non⟩
    · cases ho
  · cases ho
def oClear : OMt
  | .lst _, [] => some (.non, .lst [])
  | _, _ => none
theorem mo_clear : MtO g "list" rClear oClear := fun H A a c vs ds z c' Q hA ct rs ho q => by
  unfold oClear at ho
  split at ho
  · cases ho
    cases ct with
    | lst h r =>
      cases rs
      exact ⟨a, _, rfl, rfl, h, q _ _ upd_keep (.lst upd_same .nil) .non⟩
  · cases ho
def oReverse : OMt
  | .lst xs, [] => some (.non, .lst xs.reverse)
  | _, _ => none
theorem mo_reverse : MtO g "list" rReverse oReverse := fun H A a c vs ds z c' Q hA ct rs ho q => by
  unfold oReverse at ho
  split at ho
  · cases ho
    cases ct with
    | lst h r =>
      cases rs
      exact ⟨a, _, rfl, rfl, h, q _ _ upd_keep (.lst upd_same (upd_put hA r.reverse)) .non⟩
  · cases ho
end
end PL

namespace PL
open PySem PySem.Spec PyProof.Rows L2

/-! ### what a def makes of its arguments: what it gives, what the first one holds behind -/
inductive DR where
  | ret (d o : D) | exc (n : Str) (o : D) | stuck
def spF (g : Gc) (n : Nat) (rk : Kd) (mf : List D → DR) : Sp := fun vs H Q E => vs.length = n ∧ ∃ (A : Addr → Prop) (ds : List D), (∀ a, A a → Th H a) ∧ RepA g H A vs ds ∧ match mf ds with
  | .ret d _ => ∀ v H', Out rk g H A H' v d → Q v H'
  | .exc nm _ => ∀ H', Same H H' → ∀ c, g.mg nm = some (.ref c) → E (.ref c) none H'
  | .stuck => False
def OutU (k : Kd) (g : Gc) (H : Hp) (A : Addr → Prop) (a : Addr) (H' : Hp) (v : V) (d o : D) : Prop := (∀ b u, b ≠ a → H b = some u → H' b = some u) ∧ match k with
  | .fr => ∃ p, v = .ref p ∧ H p = none ∧ Cont g H' (fun b => A b ∨ b = p) p d ∧ Cont g H' (fun b => A b ∨ b = p) a o
  | _ => Rep g H' A v d ∧ Cont g H' A a o
def spU (g : Gc) (n : Nat) (rk : Kd) (mf : List D → DR) : Sp := fun vs H Q E => vs.length = n ∧ ∃ (A : Addr → Prop) (a : Addr) (ws : List V) (c : D) (ds : List D), vs = .ref a :: ws ∧ A a ∧ (∀ a, A a → Th H a) ∧ Cont g H A a c ∧ RepA g H A ws ds ∧ match mf (c :: ds) with
  | .ret d o => ∀ v H', OutU rk g H A a H' v d o → Q v H'
  | .exc nm o => ∀ H', (∀ b u, b ≠ a → H b = some u → H' b = some u) → Cont g H' A a o → ∀ c, g.mg nm = some (.ref c) → E (.ref c) none H'
  | .stuck => False

section
variable {X : Cx} {W : WX} {g : Gc} {γ : G} {τ τ' τ1 τ2 : PS0} {σ σ' : L2.St} {H H' H1 H2 : Hp} {A : Addr → Prop} {p : Addr} {v : V} {d : D} {k k1 k2 k3 kr : Kd} {m m1 m2 m3 : Bool} {e e1 e2 a b c : Expr} {es rest : List Expr} {f fa fb fc : M D} {t u : M Bool} {fs : M (List D)} {pos : Pos} {r r' : R2} {o o' : D → D → Option D}

/-! ### a def of the text, called -/
def LenOk (fs : M (List D)) (n : Nat) : Prop := ∀ τ ds τ', fs τ = .ok ds τ' → ds.length = n
def callF (mf : List D → DR) (fs : M (List D)) : M D := andThen fs fun ds τ => match mf ds with
  | .ret d _ => .ok d τ
  | .exc n _ => .exc n τ
  | .stuck => .stuck
theorem spF_post {n : Nat} {mf : List D → DR} {vs : List V} {ds : List D} {Q : VK} (hn : ds.length = n) (hkr : kr ≠ .ln) (R1 : Rel g γ τ1 σ H1) (kp : Kp (Own τ σ) H (Own τ1 σ) H1) (s : m = false → Same H H1) (rs : RepA g H1 (Av γ τ1 σ) vs ds)
    (h : Fit (match mf ds with | .ret d _ => Res.ok d τ1 | .exc n _ => .exc n τ1 | .stuck => .stuck) (fun d τ' => ∀ v H', (m = false → Same H H') → PostE kr g γ τ σ H τ' σ H' v d → Q v H') (XW g W γ τ σ H)) : spF g n kr mf vs H1 Q (WE W σ) := by
  refine ⟨rs.length.trans hn, Av γ τ1 σ, ds, R1.avTh', rs, ?_⟩
  cases e : mf ds with
  | stuck => rw [e] at h; exact h.elim
  | ret d o =>
    rw [e] at h
    exact fun v H' ou => h v H' (fun z => (s z).trans ou.1) (PostE.of_out R1 kp hkr ou)
  | exc nm o =>
    rw [e] at h
    exact fun H' sm c hc => h H' (R1.same sm) (kp.trans (Same.kp sm fun _ q => q)) c hc
theorem je_call {n : Nat} {mf : List D → DR} {kk : Nat} {fa : Addr} {fd : FuncData} {ps : List Str} {x : Str} {p : Pos} (hn : LenOk fs n) (F : FnOk X.prog X.w X.K X.mg X.base (L2.CX X.prog X.w) kk fa fd ps (spF X.g n kr mf)) (hr : Room kk X.A) (hm : X.mg x = some (.ref fa)) (hk : PySem.W.keepIn X.K (.ref fa) = true)
    (hb : Binds X.K fd ps []) (tk : Takes X W) (ha : JA X W m (e :: es) fs) (hg : Gl X x := by rfl) (hkr : kr ≠ .ln := by decide) (hdb : (x == ("__debug__" : Str)) = false := by decide) (he : starEach (e :: es) X.env = (false, eval e X.env) :: starEach es X.env := by rfl)
    (hpl : (backTo pos (starEach es X.env)).any (·.1) = false := by rfl) : JE X W kr m (.Call (.Name x p) (e :: es) [] pos) (callF mf fs) :=
  (pe_callS F hr hg hm hk hb (fun σ => passAt tk σ) ha hdb he hpl).weak fun σ H Q ⟨γ, τ, R, h⟩ => by
    unfold callF at h
    rw [fit_bind] at h
    refine ⟨γ, τ, R, ?_⟩
    cases ef : fs τ with
    | stuck => rw [ef] at h; exact h.elim
    | exc nm τ1 => rw [ef] at h; exact h
    | ok ds τ1 =>
      rw [ef] at h
      exact fun vs H1 s1 R1 kp1 rs => spF_post (hn _ _ _ ef) hkr R1 kp1 s1 rs h
theorem je_call0 {mf : List D → DR} {kk : Nat} {fa : Addr} {fd : FuncData} {ps : List Str} {x : Str} {p : Pos} (F : FnOk X.prog X.w X.K X.mg X.base (L2.CX X.prog X.w) kk fa fd ps (spF X.g 0 kr mf)) (hr : Room kk X.A) (hm : X.mg x = some (.ref fa)) (hk : PySem.W.keepIn X.K (.ref fa) = true)
    (hb : Binds X.K fd ps []) (hg : Gl X x := by rfl) (hkr : kr ≠ .ln := by decide) (hdb : (x == ("__debug__" : Str)) = false := by decide) : JE X W kr false (.Call (.Name x p) [] [] pos) (fun τ => match mf [] with | .ret d _ => .ok d τ | _ => .stuck) :=
  (pe_call0 F hr hg hm hk hb .nil passL hdb).weak fun σ H Q ⟨γ, τ, R, h⟩ => by
    refine ⟨rfl, Av γ τ σ, [], R.avTh', .nil, ?_⟩
    cases e : mf [] with
    | stuck => simp only [e] at h; exact h.elim
    | exc nm o => simp only [e] at h; exact h.elim
    | ret d o =>
      simp only [e] at h
      exact fun v H' ou => h v H' (fun _ => ou.1) (PostE.of_out R Kp.refl hkr ou)
/-- a P-object is written -/
theorem Rel.updP {o : HO} (R : Rel g γ τ σ H) (hp : γ.P p) (nt : ∀ vs, o ≠ .tup vs := by intro _ z; exact nomatch z) : Rel g γ τ σ (upd H p o) := by
  have k : Kp (Av γ τ σ) H (Av γ τ σ) (upd H p o) := fun b u e n => ⟨by rw [upd_ne (fun z => n (.inl (by rw [z]; exact hp)))]; exact e, n⟩
  have nO := (R.pal p hp).2
  have nO : ∀ {b}, Own τ σ b → b ≠ p := fun h z => (R.pal p hp).2 (z ▸ h)
  refine ⟨R.len, fun i d h => let ⟨v, e, r⟩ := R.im i d h; ⟨v, e, r.kp k⟩, fun i d h => let ⟨b, e, c⟩ := R.ow i d h; ⟨b, e, c.mono k (upd_ne (nO ⟨i, ⟨_, h, rfl⟩, e⟩))⟩, fun i d h => let ⟨e, c⟩ := R.mu i d h; ⟨e, c.mono k (upd_ne (nO ⟨i, ⟨_, h, rfl⟩, e⟩))⟩, R.inj, fun a h => ?_⟩
  by_cases ha : a = p
  · exact ⟨⟨o, by rw [ha, upd_same], nt⟩, (R.pal a h).2⟩
  · exact ⟨(R.pal a h).1.up fun u e => by rw [upd_ne ha]; exact e, (R.pal a h).2⟩
def callU (i : Nat) (mf : List D → DR) (fs : M (List D)) : M D := andThen fs fun ds τ => match ownC τ i with
  | some c => match mf (c :: ds) with
    | .ret d o => .ok d (putC τ i o)
    | .exc n o => .exc n (putC τ i o)
    | .stuck => .stuck
  | none => .stuck
theorem spU_post {n : Nat} {mf : List D → DR} {vs : List V} {ds : List D} {Q : VK} {i : Nat} {a : Addr} (hi : σ[i]? = some (some (.ref a))) (hn : ds.length + 1 = n) (hkr : kr ≠ .ln) (R1 : Rel g γ τ1 σ H1) (kp : Kp (Own τ σ) H (Own τ1 σ) H1) (rs : RepA g H1 (Av γ τ1 σ) vs ds)
    (h : Fit (match ownC τ1 i with | some c => (match mf (c :: ds) with | .ret d o => Res.ok d (putC τ1 i o) | .exc n o => .exc n (putC τ1 i o) | .stuck => .stuck) | none => .stuck) (fun d τ' => ∀ v H', (true = false → Same H H') → PostE kr g γ τ σ H τ' σ H' v d → Q v H') (XW g W γ τ σ H)) :
    spU g n kr mf (.ref a :: vs) H1 Q (WE W σ) := by
  refine ⟨by rw [List.length_cons, rs.length]; exact hn, ?_⟩
  cases e1 : ownC τ1 i with
  | none => rw [e1] at h; exact h.elim
  | some c =>
    rw [e1] at h
    obtain ⟨a', s, hs, ho, hi', ct⟩ := R1.ownC e1
    have ea : a' = a := by rw [hi] at hi'; cases hi'; rfl
    subst ea
    have oa : OwnAt τ1 σ i a' := ⟨⟨s, hs, ho⟩, hi'⟩
    have eput : ∀ o, putC τ1 i o = τ1.set i (s.put o) := fun o => by unfold putC; rw [hs]
    have av_put : ∀ {o b}, Av γ (τ1.set i (s.put o)) σ b → Av γ τ1 σ b := fun q => q.elim .inl fun z => .inr ((own_put hs).mp z)
    refine ⟨Av γ τ1 σ, a', vs, c, ds, rfl, .inr ⟨i, oa⟩, R1.avTh', ct, rs, ?_⟩
    cases e : mf (c :: ds) with
    | stuck => simp only [e] at h; exact h.elim
    | ret d o =>
      simp only [e] at h
      rw [eput] at h
      intro v H' ou
      obtain ⟨k0, ou⟩ := ou
      refine h v H' (fun z => nomatch z) ?_
      cases kr with
      | ln => exact absurd rfl hkr
      | im =>
        obtain ⟨r', c'⟩ := ou
        obtain ⟨R', k'⟩ := R1.put hs oa k0 c'
        exact ⟨R', kp.trans k', r'.kp (Kp.less fun b q => av_put q)⟩
      | fr =>
        obtain ⟨q, rfl, nq, cq, co⟩ := ou
        obtain ⟨u, eu, nu⟩ := cq.th
        have R2 := R1.newS (H' := upd H1 q u) nq (fun b w e => by rw [upd_ne (ne_of_none e nq)]; exact e) ⟨u, upd_same, nu⟩
        have nq' : q ≠ a' := (ne_of_none (ct.there.choose_spec) nq).symm
        have av_with : ∀ {b}, Av (γ.with q) τ1 σ b → Av γ τ1 σ b ∨ b = q := fun z => z.elim (fun y => y.elim (fun x => .inl (.inl x)) .inr) fun x => .inl (.inr x)
        have co' : Cont g H' (Av (γ.with q) τ1 σ) a' o := co.mono (Kp.less fun b z => av_with z) rfl
        obtain ⟨R3, k3⟩ := R2.put (H' := H') hs oa (fun b w hb e => by
          by_cases hq : b = q
          · subst hq; rw [upd_same] at e; cases e; exact eu
          · rw [upd_ne hq] at e; exact k0 b w hb e) co'
        refine ⟨q, rfl, R3, fun z => ?_, kp.trans fun b w e n => ?_, cq.mono (Kp.less fun b z => ?_) rfl⟩
        · obtain ⟨w, ew⟩ := (R1.pal q z).1.ex
          rw [nq] at ew; cases ew
        · have hb : b ≠ a' := fun z => n (z ▸ ⟨i, oa⟩)
          exact ⟨k0 b w hb e, fun z => z.elim (fun y => n ((own_put hs).mp y)) (ne_of_none e nq)⟩
        · exact av_with (z.elim .inl fun y => .inr ((own_put hs).mp y))
    | exc nm o =>
      simp only [e] at h
      rw [eput] at h
      intro H' k0 c' cc hc
      obtain ⟨R', k'⟩ := R1.put hs oa k0 c'
      exact h H' R' (kp.trans k') cc hc
theorem je_callU {n : Nat} {mf : List D → DR} {kk : Nat} {fa : Addr} {fd : FuncData} {ps : List Str} {x y : Str} {p py : Pos} (i : Nat) (hn : LenOk fs (n - 1)) (hn0 : 0 < n) (F : FnOk X.prog X.w X.K X.mg X.base (L2.CX X.prog X.w) kk fa fd ps (spU X.g n kr mf)) (hr : Room kk X.A) (hm : X.mg x = some (.ref fa)) (hk : PySem.W.keepIn X.K (.ref fa) = true)
    (hb : Binds X.K fd ps []) (tk : Takes X W) (ha : JA X W m es fs) (hN : X.N[i]? = some y := by rfl) (hv : Vis X.env.scope y := by first | exact Or.inl rfl | exact Or.inr (Or.inl rfl) | exact Or.inr (Or.inr rfl)) (hg : Gl X x := by rfl) (hkr : kr ≠ .ln := by decide) (hdy : (y == ("__debug__" : Str)) = false := by decide) (hcd : (y == ("__classdict__" : Str)) = false := by decide) (hdb : (x == ("__debug__" : Str)) = false := by decide)
    (he : starEach (.Name y py :: es) X.env = (false, eval (.Name y py) X.env) :: starEach es X.env := by rfl) (hpl : (backTo pos (starEach es X.env)).any (·.1) = false := by rfl) : JE X W kr true (.Call (.Name x p) (.Name y py :: es) [] pos) (andThen (fun τ => match ownC τ i with | some _ => .ok () τ | none => .stuck) fun _ => callU i mf fs) :=
  (pe_callS F hr hg hm hk hb (fun σ => passAt tk σ) (pa_cons (pe_var hN hv hdy hcd) ha he) hdb he hpl).weak fun σ H Q ⟨γ, τ, R, h⟩ => by
    rw [fit_bind] at h
    cases e0 : ownC τ i with
    | none => simp only [e0] at h; exact h.elim
    | some c0 =>
      simp only [e0] at h
      obtain ⟨a, s, hs, ho, hi, ct⟩ := R.ownC e0
      refine ⟨.ref a, hi, γ, τ, R, ?_⟩
      have h : Fit (callU i mf fs τ) _ _ := h
      unfold callU at h
      rw [fit_bind] at h
      cases ef : fs τ with
      | stuck => rw [ef] at h; exact h.elim
      | exc nm τ1 => rw [ef] at h; exact h
      | ok ds τ1 =>
        rw [ef] at h
        exact fun vs H1 s1 R1 kp1 rs => spU_post hi (by rw [hn _ _ _ ef]; exact Nat.sub_add_cancel hn0) hkr R1 kp1 rs h
def useU (i : Nat) (mf : List D → DR) (fs : M (List D)) : M D := andThen (fun τ => match ownC τ i with | some _ => .ok () τ | none => .stuck) fun _ => callU i mf fs
theorem argN_len : LenOk argN 0 := fun _ _ _ e => by cases e; rfl
theorem argC_len {n : Nat} (h : LenOk fs n) : LenOk (argC f fs) (n + 1) := fun τ ds τ' e => by
  unfold argC andThen at e
  cases e1 : f τ with
  | stuck => rw [e1] at e; cases e
  | exc nm τ1 => rw [e1] at e; cases e
  | ok d τ1 =>
    rw [e1] at e
    cases e2 : fs τ1 with
    | stuck => simp only [e2] at e; cases e
    | exc nm τ2 => simp only [e2] at e; cases e
    | ok ds2 τ2 =>
      simp only [e2] at e
      cases e
      exact congrArg (· + 1) (h _ _ _ e2)
end
end PL

namespace PL
open PySem PySem.Spec PyProof.Rows L2

inductive SR where
  | nx (τ : PS0) | ret (d : D) (τ : PS0) | exc (n : Str) (τ : PS0) | stuck
abbrev SM := PS0 → SR
def FitS (x : SR) (p : PS0 → Prop) (r : D → PS0 → Prop) (q : Str → PS0 → Prop) : Prop := match x with
  | .nx τ => p τ
  | .ret d τ => r d τ
  | .exc n τ => q n τ
  | .stuck => False
theorem FitS.mono {x : SR} {p p' : PS0 → Prop} {r r' : D → PS0 → Prop} {q q' : Str → PS0 → Prop} (h : FitS x p r q) (hp : ∀ τ, p τ → p' τ) (hr : ∀ d τ, r d τ → r' d τ) (hq : ∀ n τ, q n τ → q' n τ) : FitS x p' r' q' := by
  cases x with
  | nx τ => exact hp τ h
  | ret d τ => exact hr d τ h
  | exc n τ => exact hq n τ h
  | stuck => exact h
def NS (g : Gc) (γ : G) (τ : PS0) (σ : L2.St) (H : Hp) (nx : L2.St → Hp → Prop) : PS0 → Prop := fun τ' => ∀ σ' H', Rel g γ τ' σ' H' → Kp (Own τ σ) H (Own τ' σ') H' → nx σ' H'
def RS (g : Gc) (rk : Kd) (γ : G) (τ : PS0) (σ : L2.St) (H : Hp) (rt : VK) : D → PS0 → Prop := fun d τ' => ∀ σ' v H', PostE rk g γ τ σ H τ' σ' H' v d → rt v H'
def XS (g : Gc) (W : WX) (γ : G) (τ : PS0) (σ : L2.St) (H : Hp) : Str → PS0 → Prop := fun n τ' => ∀ σ' H', Rel g γ τ' σ' H' → Kp (Own τ σ) H (Own τ' σ') H' → ∀ c, g.mg n = some (.ref c) → W (.ref c) none σ' H'
def tSt (g : Gc) (W : WX) (rk : Kd) (f : SM) : TS := fun Dn σ H => ∃ γ τ, Rel g γ τ σ H ∧ FitS (f τ) (NS g γ τ σ H Dn.nx) (RS g rk γ τ σ H Dn.rt) (XS g W γ τ σ H)
abbrev JS (X : Cx) (W : WX) (rk : Kd) (st : Stmt) (f : SM) : Prop := PS X st (tSt X.g W rk f)
abbrev JB (X : Cx) (W : WX) (rk : Kd) (st : List Stmt) (f : SM) : Prop := PSs X st (tSt X.g W rk f)

section
variable {X : Cx} {W : WX} {g : Gc} {γ : G} {τ τ' τ1 τ2 : PS0} {σ σ' σ1 : L2.St} {H H' H1 H2 : Hp} {A : Addr → Prop} {p : Addr} {v : V} {d : D} {k k1 k2 k3 kr rk : Kd} {m m1 m2 m3 : Bool} {e e1 e2 a b c : Expr} {es rest : List Expr} {f fa fb fc : M D} {t u : M Bool} {fs : M (List D)} {pos : Pos} {st : Stmt} {sts sts2 : List Stmt} {h h1 h2 : SM}
theorem NS.pre {nx : L2.St → Hp → Prop} (k : Kp (Own τ σ) H (Own τ1 σ1) H1) (h : NS g γ τ σ H nx τ') : NS g γ τ1 σ1 H1 nx τ' := fun σ' H' R k' => h σ' H' R (k.trans k')
theorem RS.pre {rt : VK} (k : Kp (Own τ σ) H (Own τ1 σ1) H1) (h : RS g rk γ τ σ H rt d τ') : RS g rk γ τ1 σ1 H1 rt d τ' := fun σ' v H' P => h σ' v H' (P.pre' k)
theorem XS.pre {n : Str} (k : Kp (Own τ σ) H (Own τ1 σ1) H1) (h : XS g W γ τ σ H n τ') : XS g W γ τ1 σ1 H1 n τ' := fun σ' H' R k' c hc => h σ' H' R (k.trans k') c hc
theorem XS.x {n : Str} (h : XS g W γ τ σ H n τ') : XW g W γ τ σ H n τ' := fun H' R k c hc => h σ H' R k c hc
/-- a run goes on from a later state -/
theorem tSt_go {Dn : Ends} (R1 : Rel g γ τ1 σ1 H1) (k : Kp (Own τ σ) H (Own τ1 σ1) H1) (q : FitS (f' τ1) (NS g γ τ σ H Dn.nx) (RS g rk γ τ σ H Dn.rt) (XS g W γ τ σ H)) : tSt g W rk f' Dn σ1 H1 :=
  ⟨γ, τ1, R1, q.mono (fun _ z => z.pre k) (fun _ _ z => z.pre k) fun _ _ z => z.pre k⟩

def skip : SM := fun τ => .nx τ
def seqS (x y : SM) : SM := fun τ => match x τ with
  | .nx τ' => y τ'
  | r => r
theorem fitS_seq {x y : SM} {p : PS0 → Prop} {r : D → PS0 → Prop} {q : Str → PS0 → Prop} : FitS (seqS x y τ) p r q ↔ FitS (x τ) (fun τ' => FitS (y τ') p r q) r q := by
  unfold seqS
  cases x τ <;> rfl
theorem jb_nil : JB X W rk [] skip := pss_nil.weak fun Dn σ H ⟨γ, τ, R, q⟩ => q σ H R Kp.refl
theorem jb_cons (h1' : JS X W rk st h1) (h2' : JB X W rk sts h2) : JB X W rk (st :: sts) (seqS h1 h2) := (pss_cons h1' h2').weak fun Dn σ H ⟨γ, τ, R, q⟩ => by
  rw [fitS_seq] at q
  exact ⟨γ, τ, R, q.mono (fun τ' z σ' H' R' k => tSt_go R' k z) (fun _ _ z => z) fun _ _ z => z⟩
theorem jb_one (h1' : JS X W rk st h) : JB X W rk [st] h := pss_one h1'
def ifS (t : M Bool) (x y : SM) : SM := fun τ => match t τ with
  | .ok b τ' => if b = true then x τ' else y τ'
  | .exc n τ' => .exc n τ'
  | .stuck => .stuck
theorem js_if (ht : JT X W m c t) (hx : JB X W rk sts h1) (hy : JB X W rk sts2 h2) : JS X W rk (.If c sts sts2 pos) (ifS t h1 h2) := (ps_if ht hx hy).weak fun Dn σ H ⟨γ, τ, R, q⟩ => by
  unfold ifS at q
  refine ⟨γ, τ, R, ?_⟩
  cases et : t τ with
  | stuck => rw [et] at q; exact q.elim
  | exc n τ' => rw [et] at q; exact XS.x q
  | ok b τ1 =>
    rw [et] at q
    intro H1 s1 R1 kp1
    cases b with
    | true => exact tSt_go R1 kp1 q
    | false => exact tSt_go R1 kp1 q
def exprS (f : M D) : SM := fun τ => match f τ with
  | .ok _ τ' => .nx τ'
  | .exc n τ' => .exc n τ'
  | .stuck => .stuck
theorem js_expr (he : JE X W k m e f) (hs : swapsWith e none pos.line X.env = pure false := by rfl) : JS X W rk (.Expr e pos) (exprS f) := (ps_expr he hs).weak fun Dn σ H ⟨γ, τ, R, q⟩ => by
  unfold exprS at q
  refine ⟨γ, τ, R, ?_⟩
  cases ef : f τ with
  | stuck => rw [ef] at q; exact q.elim
  | exc n τ' => rw [ef] at q; exact XS.x q
  | ok d τ1 =>
    rw [ef] at q
    intro v H1 s1 P1
    obtain ⟨R1, kp1, _⟩ := P1.val
    exact q σ H1 R1 kp1
theorem js_doc {x j pos pos'} : JS X W rk (.Expr (.Constant (.str x) j pos) pos') skip := ps_doc.weak fun Dn σ H ⟨γ, τ, R, q⟩ => q σ H R Kp.refl
theorem js_pass : JS X W rk (.Pass pos) skip := ps_pass.weak fun Dn σ H ⟨γ, τ, R, q⟩ => q σ H R Kp.refl
def retS (f : M D) : SM := fun τ => match f τ with
  | .ok d τ' => .ret d τ'
  | .exc n τ' => .exc n τ'
  | .stuck => .stuck
theorem js_ret (he : JE X W rk m e f) : JS X W rk (.Return (some e) pos) (retS f) := (ps_ret he).weak fun Dn σ H ⟨γ, τ, R, q⟩ => by
  unfold retS at q
  refine ⟨γ, τ, R, ?_⟩
  cases ef : f τ with
  | stuck => rw [ef] at q; exact q.elim
  | exc n τ' => rw [ef] at q; exact XS.x q
  | ok d τ1 =>
    rw [ef] at q
    exact fun v H1 s1 P1 => q σ v H1 P1
theorem js_retN : JS X W .im (.Return none pos) (fun τ => .ret .non τ) := ps_retN.weak fun Dn σ H ⟨γ, τ, R, q⟩ => q σ .non H ⟨R, Kp.refl, .non⟩
/-- code that is never come to -/
theorem js_never : JS X W rk st (fun _ => .stuck) := ps_never.weak fun Dn σ H ⟨γ, τ, R, q⟩ => q

/-! ### stores -/
def setS (i : Nat) (f : M D) : SM := fun τ => match f τ with
  | .ok d τ' => .nx (τ'.set i (.im d))
  | .exc n τ' => .exc n τ'
  | .stuck => .stuck
def ownS (i : Nat) (f : M D) : SM := fun τ => match f τ with
  | .ok d τ' => if i < τ'.length then .nx (τ'.set i (.ow d)) else .stuck
  | .exc n τ' => .exc n τ'
  | .stuck => .stuck
theorem asg_im {i : Nat} {Dn : Ends} {te : TE} (hte : ∀ σ H Q, tE X.g W .im m f σ H Q → te σ H Q) (σ : L2.St) (H : Hp) (q : tSt X.g W rk (setS i f) Dn σ H) : tAsg te (gName i) Dn σ H := by
  obtain ⟨γ, τ, R, q⟩ := q
  unfold setS at q
  refine hte σ H _ ⟨γ, τ, R, ?_⟩
  cases ef : f τ with
  | stuck => rw [ef] at q; exact q.elim
  | exc n τ' => rw [ef] at q; exact XS.x q
  | ok d τ1 =>
    rw [ef] at q
    intro v H1 s1 P1
    obtain ⟨R2, k2⟩ := P1.1.setIm i P1.2.2
    exact q _ H1 R2 (P1.2.1.trans k2)
theorem asg_ow {i : Nat} {Dn : Ends} {te : TE} (hte : ∀ σ H Q, tE X.g W .fr m f σ H Q → te σ H Q) (σ : L2.St) (H : Hp) (q : tSt X.g W rk (ownS i f) Dn σ H) : tAsg te (gName i) Dn σ H := by
  obtain ⟨γ, τ, R, q⟩ := q
  unfold ownS at q
  refine hte σ H _ ⟨γ, τ, R, ?_⟩
  cases ef : f τ with
  | stuck => rw [ef] at q; exact q.elim
  | exc n τ' => rw [ef] at q; exact XS.x q
  | ok d τ1 =>
    rw [ef] at q
    intro v H1 s1 P1
    obtain ⟨p, rfl, R1, np, kp, ct⟩ := P1
    by_cases hi : i < τ1.length
    · simp only [hi, if_true] at q
      obtain ⟨R2, k2⟩ := R1.setOw i hi np ct
      exact q _ H1 R2 (kp.trans k2)
    · simp only [hi, if_false] at q
      exact q.elim
theorem js_set (i : Nat) {x : Str} {pos' : Pos} (hN : X.N.Nodup) (he : JE X W .im m e f) (hi : X.N[i]? = some x := by rfl) (hx : Loc X.env.scope x := by first | exact .inl rfl | exact .inr rfl) (hs : swapsWith e (some (.Name x pos')) pos.line X.env = pure false := by rfl) (hf : X.fn x = true ∨ X.env.scope.names.lookup x = some .local := by first | exact .inl rfl | exact .inr rfl | assumption) :
    JS X W rk (.Assign [.Name x pos'] e pos) (setS i f) := (ps_set hN hi hx he hs hf).weak fun Dn σ H q => asg_im (fun _ _ _ q => q) σ H q
theorem js_own (i : Nat) {x : Str} {pos' : Pos} (hN : X.N.Nodup) (he : JE X W .fr m e f) (hi : X.N[i]? = some x := by rfl) (hx : Loc X.env.scope x := by first | exact .inl rfl | exact .inr rfl) (hs : swapsWith e (some (.Name x pos')) pos.line X.env = pure false := by rfl) (hf : X.fn x = true ∨ X.env.scope.names.lookup x = some .local := by first | exact .inl rfl | exact .inr rfl | assumption) :
    JS X W rk (.Assign [.Name x pos'] e pos) (ownS i f) := (ps_set hN hi hx he hs hf).weak fun Dn σ H q => asg_ow (fun _ _ _ q => q) σ H q
/-- x[i] = e, x a name that owns a list -/
def oSetIx : OMt
  | .lst xs, [.int i, y] => (ixN xs.length i).map fun j => (.non, .lst (xs.set j y))
  | _, _ => none
def stIx (i : Nat) (fv fi : M D) (o : OMt) : SM := fun τ => match fv τ with
  | .ok v τ1 => (match ownC τ1 i with
    | some _ => (match fi τ1 with
      | .ok j τ2 => (match ownC τ2 i with
        | some c => (match o c [j, v] with
          | some (_, c') => .nx (putC τ2 i c')
          | none => .stuck)
        | none => .stuck)
      | .exc n τ2 => .exc n τ2
      | .stuck => .stuck)
    | none => .stuck)
  | .exc n τ1 => .exc n τ1
  | .stuck => .stuck
theorem js_ix (i : Nat) {x : Str} {px p3 : Pos} {fv fi : M D} {ei ev : Expr} (hv' : JE X W .im m1 ev fv) (hi' : JE X W .im m2 ei fi) (hN : X.N[i]? = some x := by rfl) (hv : Vis X.env.scope x := by first | exact Or.inl rfl | exact Or.inr (Or.inl rfl) | exact Or.inr (Or.inr rfl)) (hd : (x == ("__debug__" : Str)) = false := by decide) (hcd : (x == ("__classdict__" : Str)) = false := by decide)
    (ha : ∀ v, assign (.Subscript (.Name x px) ei p3) X.env v = (do
      let ov ← holding [v] (eval (.Name x px) X.env)
      let iv ← holding [v, ov] (eval ei X.env)
      standAt p3
      holding [v, ov, iv] (setItem ov iv v)
      release [v, ov, iv] []) := by intro _; rfl)
    (hs : swapsWithSole [.Subscript (.Name x px) ei p3] ev pos.line X.env = pure false := by rfl) (hw : swappedStores [.Subscript (.Name x px) ei p3] ev X.env = pure none := by rfl)
    (h1 : (assignEach [.Subscript (.Name x px) ei p3] X.env).map (·.2) = [assign (.Subscript (.Name x px) ei p3) X.env] := by rfl) :
    JS X W rk (.Assign [.Subscript (.Name x px) ei p3] ev pos) (stIx i fv fi oSetIx) := (ps_asg hv' (pg_sub (pe_var hN hv hd hcd) hi' set_list ha) hs hw h1).weak fun Dn σ H ⟨γ, τ, R, q⟩ => by
  unfold stIx at q
  refine ⟨γ, τ, R, ?_⟩
  cases ef : fv τ with
  | stuck => rw [ef] at q; exact q.elim
  | exc n τ' => rw [ef] at q; exact XS.x q
  | ok d τ1 =>
    rw [ef] at q
    intro v H1 s1 P1
    obtain ⟨R1, kp1, r1⟩ := P1
    cases e1 : ownC τ1 i with
    | none => simp only [e1] at q; exact q.elim
    | some c1 =>
      simp only [e1] at q
      obtain ⟨a, s, hs, ho, hi, ct⟩ := R1.ownC e1
      refine ⟨.ref a, hi, γ, τ1, R1, ?_⟩
      cases ei' : fi τ1 with
      | stuck => simp only [ei'] at q; exact q.elim
      | exc n τ' => simp only [ei'] at q; exact (XS.x q).pre kp1
      | ok j τ2 =>
        simp only [ei'] at q
        intro iv H2 s2 P2
        obtain ⟨R2, kp2, r2⟩ := P2
        cases e2 : ownC τ2 i with
        | none => simp only [e2] at q; exact q.elim
        | some c2 =>
          simp only [e2] at q
          obtain ⟨a', s', hs', ho', hi'', ct'⟩ := R2.ownC e2
          have ea : a' = a := by rw [hi] at hi''; cases hi''; rfl
          subst ea
          cases eo : oSetIx c2 [j, d] with
          | none => simp only [eo] at q; exact q.elim
          | some zc =>
            obtain ⟨z, c'⟩ := zc
            simp only [eo] at q
            unfold oSetIx at eo
            split at eo
            · rename_i xs ii yy heq
              cases heq
              cases ek : ixN xs.length ii with
              | none => rw [ek] at eo; cases eo
              | some jj =>
                rw [ek] at eo
                cases eo
                cases ct' with
                | lst hl rl =>
                  rw [LRep.int (.inl r2)]
                  have oa : OwnAt τ2 σ i a' := ⟨⟨s', hs', ho'⟩, hi''⟩
                  have hA : Av γ τ2 σ a' := .inr ⟨i, oa⟩
                  refine ⟨a', _, ii, jj, rfl, rfl, hl, by rw [rl.length]; exact ek, ?_⟩
                  obtain ⟨R', k'⟩ := R2.put hs' oa upd_keep (Cont.lst upd_same (upd_put hA (rl.set jj (r1.kp kp2.av))))
                  unfold putC at q
                  rw [hs'] at q
                  exact q σ _ R' ((kp1.trans kp2).trans k')
            · cases eo

/-! ### targets -/
def tG (g : Gc) (h : D → PS0 → Option PS0) (ts : List Nat) : TG := fun v σ H Q => ∃ γ τ d τ', Rel g γ τ σ H ∧ Rep g H (Av γ τ σ) v d ∧ h d τ = some τ' ∧ ∀ σ', Rel g γ τ' σ' H → Kp (Own τ σ) H (Own τ' σ') H → (∀ j, j ∉ ts → σ'[j]? = σ[j]?) → σ'.length = σ.length → Q σ' H
def tGs (g : Gc) (h : List D → PS0 → Option PS0) (ts : List Nat) : TGs := fun vs σ H Q => ∃ γ τ ds τ', Rel g γ τ σ H ∧ RepA g H (Av γ τ σ) vs ds ∧ h ds τ = some τ' ∧ ∀ σ', Rel g γ τ' σ' H → Kp (Own τ σ) H (Own τ' σ') H → (∀ j, j ∉ ts → σ'[j]? = σ[j]?) → σ'.length = σ.length → Q σ' H
abbrev JG (X : Cx) (tg : Expr) (h : D → PS0 → Option PS0) (ts : List Nat) : Prop := PG X tg (tG X.g h ts)
abbrev JGs (X : Cx) (tgs : List Expr) (h : List D → PS0 → Option PS0) (ts : List Nat) : Prop := PGs X tgs (tGs X.g h ts)
theorem PG.weak {X : Cx} {e : Expr} {t t' : TG} (h : PG X e t) (w : ∀ v σ H Q, t' v σ H Q → t v σ H Q) : PG X e t' := ⟨fun pins s σ H v u Q I r q => h.run pins s σ H v u Q I r (w v σ H Q q)⟩
theorem PGs.weak {X : Cx} {e : List Expr} {t t' : TGs} (h : PGs X e t) (w : ∀ v σ H Q, t' v σ H Q → t v σ H Q) : PGs X e t' := ⟨fun pins s σ H v u Q I r q => h.run pins s σ H v u Q I r (w v σ H Q q)⟩
def tgN (i : Nat) : D → PS0 → Option PS0 := fun d τ => some (τ.set i (.im d))
def tgNil : List D → PS0 → Option PS0
  | [], τ => some τ
  | _, _ => none
def tgCons (h : D → PS0 → Option PS0) (hs : List D → PS0 → Option PS0) : List D → PS0 → Option PS0
  | d :: ds, τ => (h d τ).bind (hs ds)
  | [], _ => none
def tgT (n : Nat) (hs : List D → PS0 → Option PS0) : D → PS0 → Option PS0
  | .tup ds, τ => if ds.length = n then hs ds τ else none
  | _, _ => none
theorem jg_name (i : Nat) {x : Str} (hN : X.N.Nodup) (hi : X.N[i]? = some x := by rfl) (hx : Loc X.env.scope x := by first | exact .inl rfl | exact .inr rfl) (hf : X.fn x = true ∨ X.env.scope.names.lookup x = some .local := by first | exact .inl rfl | exact .inr rfl | assumption) : JG X (.Name x pos) (tgN i) [i] :=
  PG.weak (pg_name hN hi hx hf) fun v σ H Q ⟨γ, τ, d, τ', R, r, e, q⟩ => by
    cases e
    obtain ⟨R2, k2⟩ := R.setIm i r
    exact q _ R2 k2 (fun j hj => by rw [List.getElem?_set_ne (fun z => hj (by rw [z]; exact List.mem_singleton.mpr rfl))]) List.length_set
theorem jgs_nil : JGs X [] tgNil [] := PGs.weak pgs_nil fun vs σ H Q ⟨γ, τ, ds, τ', R, r, e, q⟩ => by
  cases r with
  | nil =>
    cases e
    exact ⟨rfl, q σ R Kp.refl (fun _ _ => rfl) rfl⟩
  | cons _ _ => cases e
theorem jgs_cons {h : D → PS0 → Option PS0} {hs : List D → PS0 → Option PS0} {ts ts2 : List Nat} (h1 : JG X e h ts) (h2 : JGs X es hs ts2) (hst : (assignEach (e :: es) X.env).map (·.2) = assign e X.env :: (assignEach es X.env).map (·.2) := by rfl) : JGs X (e :: es) (tgCons h hs) (ts ++ ts2) :=
  PGs.weak (pgs_cons h1 h2 hst) fun vs σ H Q ⟨γ, τ, ds, τ', R, r, e, q⟩ => by
    cases r with
    | nil => cases e
    | @cons v vs d ds r rs =>
      have e : (h d τ).bind (hs ds) = some τ' := e
      cases e1 : h d τ with
      | none => rw [e1] at e; cases e
      | some τ1 =>
        rw [e1] at e
        refine ⟨v, vs, rfl, γ, τ, d, τ1, R, r, e1, fun σ1 R1 k1 o1 l1 => ?_⟩
        refine ⟨γ, τ1, ds, τ', R1, rs.kp k1.av, e, fun σ2 R2 k2 o2 l2 => q σ2 R2 (k1.trans k2) (fun j hj => ?_) (l2.trans l1)⟩
        rw [List.mem_append] at hj
        rw [o2 j fun z => hj (.inr z), o1 j fun z => hj (.inl z)]
theorem jg_tup {hs : List D → PS0 → Option PS0} {ts : List Nat} {kk n : Nat} (hc : X.calm = true) (h : JGs X es hs ts) (hn : (assignEach es X.env).length = n := by rfl) (hst : (assignEach es X.env).findIdx? (·.1) = none := by rfl) : JG X (.Tuple es kk pos) (tgT n hs) ts :=
  PG.weak (pg_tup hc h hn hst) fun v σ H Q ⟨γ, τ, d, τ', R, r, e, q⟩ => by
    unfold tgT at e
    split at e
    · split at e
      · rename_i ds hl
        obtain ⟨a, vs, rfl, ha, ra⟩ := LRep.tup (.inl r)
        exact ⟨a, vs, rfl, .inl (.inl ha.1), ra.length.trans hl, γ, τ, ds, τ', R, ra, e, q⟩
      · cases e
    · cases e
def tgS (h : D → PS0 → Option PS0) (f : M D) : SM := fun τ => match f τ with
  | .ok d τ1 => (match h d τ1 with
    | some τ2 => .nx τ2
    | none => .stuck)
  | .exc n τ' => .exc n τ'
  | .stuck => .stuck
theorem js_tg {tg : Expr} {h : D → PS0 → Option PS0} {ts : List Nat} (he : JE X W .im m e f) (hg : JG X tg h ts) (hs : swapsWithSole [tg] e pos.line X.env = pure false := by rfl) (hw : swappedStores [tg] e X.env = pure none := by rfl)
    (h1 : (assignEach [tg] X.env).map (·.2) = [assign tg X.env] := by rfl) : JS X W rk (.Assign [tg] e pos) (tgS h f) := (ps_asg he hg hs hw h1).weak fun Dn σ H ⟨γ, τ, R, q⟩ => by
  unfold tgS at q
  refine ⟨γ, τ, R, ?_⟩
  cases ef : f τ with
  | stuck => rw [ef] at q; exact q.elim
  | exc n τ' => rw [ef] at q; exact XS.x q
  | ok d τ1 =>
    rw [ef] at q
    intro v H1 s1 P1
    obtain ⟨R1, kp1, r1⟩ := P1
    cases eh : h d τ1 with
    | none => simp only [eh] at q; exact q.elim
    | some τ2 =>
      simp only [eh] at q
      exact ⟨γ, τ1, d, τ2, R1, r1, eh, fun σ' R2 k2 _ _ => q σ' H1 R2 (kp1.trans k2)⟩
/-- a, b = x, y -/
def parS (i j : Nat) (fs : M (List D)) : SM := fun τ => match fs τ with
  | .ok [x, y] τ1 => .nx ((τ1.set i (.im x)).set j (.im y))
  | .ok _ _ => .stuck
  | .exc n τ' => .exc n τ'
  | .stuck => .stuck
theorem js_par (i j : Nat) {x y : Str} {px py pt : Pos} {kt k2 pt2} (hc : X.calm = true) (hN : X.N.Nodup) (ha : JA X W m [a, b] fs) (hi : X.N[i]? = some x := by rfl) (hj : X.N[j]? = some y := by rfl) (hij : i ≠ j := by decide)
    (hx : X.env.scope.names.lookup x = some .local := by rfl) (hy : X.env.scope.names.lookup y = some .local := by rfl)
    (hw : swappedStores [.Tuple [.Name x px, .Name y py] kt pt] (.Tuple [a, b] k2 pt2) X.env = pure (some [x, y]) := by rfl)
    (hs : swapsWithSole [.Tuple [.Name x px, .Name y py] kt pt] (.Tuple [a, b] k2 pt2) pos.line X.env = pure false := by rfl) :
    JS X W rk (.Assign [.Tuple [.Name x px, .Name y py] kt pt] (.Tuple [a, b] k2 pt2) pos) (parS i j fs) := (ps_par hc hN hi hj hij hx hy ha hw hs).weak fun Dn σ H ⟨γ, τ, R, q⟩ => by
  unfold parS at q
  refine ⟨γ, τ, R, ?_⟩
  cases ef : fs τ with
  | stuck => rw [ef] at q; exact q.elim
  | exc n τ' => rw [ef] at q; exact XS.x q
  | ok ds τ1 =>
    rw [ef] at q
    intro vs H1 s1 R1 kp1 rs
    match ds, rs, q with
    | [dx, dy], .cons (v := v) r1 (.cons (v := w) r2 .nil), q =>
      obtain ⟨R2, k2⟩ := R1.setIm i r1
      obtain ⟨R3, k3⟩ := R2.setIm j (r2.kp k2.av)
      exact ⟨v, w, rfl, q _ H1 R3 ((kp1.trans k2).trans k3)⟩
    | [], _, q => exact q.elim
    | [_], _, q => exact q.elim
    | _ :: _ :: _ :: _, _, q => exact q.elim
/-- x += e -/
def augS (i : Nat) (f : M D) (o : D → D → Option D) : SM := setS i (op2 o (look i) f)
end
end PL

namespace PL
open PySem PySem.Spec PyProof.Rows L2

/-! ### what is walked -/
def ItGood (g : Gc) (J : It) (I : Hp → (Addr → Prop) → Prop) (ds : List D) : Prop := ∀ i H A, I H A → (∀ a, A a → Th H a) →
  (∀ d, ds[i]? = some d → J.go i H ∧ ∀ x H', J.yld i H x H' → Same H H' ∧ Rep g H' A x d) ∧ (ds.length ≤ i → J.stop i H)
def Lasts (I : Hp → (Addr → Prop) → Prop) : Prop := ∀ H A H2 A2, I H A → Kp A H A2 H2 → I H2 A2
def tI (g : Gc) (W : WX) (m : Bool) (f : M (List D)) : TI := fun σ H R => ∃ γ τ, Rel g γ τ σ H ∧ Fit (f τ) (fun ds τ' => ∀ J H' (I : Hp → (Addr → Prop) → Prop), (m = false → Same H H') → Rel g γ τ' σ H' → Kp (Own τ σ) H (Own τ' σ) H' → I H' (Av γ τ' σ) → Lasts I → ItGood g J I ds → R J H') (XW g W γ τ σ H)
abbrev JI (X : Cx) (W : WX) (m : Bool) (tg iter : Expr) (f : M (List D)) : Prop := PI X tg iter (tI X.g W m f)

section
variable {X : Cx} {W : WX} {g : Gc} {γ : G} {τ τ' τ1 τ2 : PS0} {σ σ' σ1 : L2.St} {H H' H1 H2 : Hp} {A : Addr → Prop} {p : Addr} {v : V} {d : D} {k k1 k2 k3 kr rk : Kd} {m m1 m2 m3 : Bool} {e e1 e2 a b c tg iter : Expr} {es rest : List Expr} {f fa fb fc : M D} {t u : M Bool} {fs : M (List D)} {pos : Pos} {st : Stmt} {sts sts2 : List Stmt} {h h1 h2 : SM}

/-- a list, a tuple, a text -/
def oIter : D → Option (List D)
  | .lst xs => some xs
  | .fz xs => some xs
  | .tup xs => some xs
  | .mt xs => some xs
  | .str s => some (s.map fun c => .str [c])
  | _ => none
def iterM (f : M D) : M (List D) := andThen f fun d => lift (oIter d)
theorem PI.or {t t' : TI} (h : PI X tg e t) (h' : PI X tg e t') : PI X tg e (fun σ H R => t σ H R ∨ t' σ H R) := ⟨fun pins s σ H Q I q => q.elim (h.run pins s σ H Q I) (h'.run pins s σ H Q I)⟩
def AtI (g : Gc) (H : Hp) (A : Addr → Prop) (a : Addr) (ds : List D) : Prop := ∃ vs, ((H a = some (.lst vs) ∧ ¬ A a) ∨ AtF g H A a vs) ∧ RepA g H A vs ds
theorem good_list {a : Addr} {ds : List D} : ItGood g (Itl g.K a) (fun H A => AtI g H A a ds) ds := fun i H A ⟨vs, ha, ra⟩ hA => by
  have sq : SqL g.K H a vs := ha.elim (fun z => .inl (.inl z.1)) fun z => z.sq
  refine ⟨fun d hd => ?_, fun hl => ⟨vs, sq, by rw [ra.length]; exact hl⟩⟩
  obtain ⟨v, hv, rv⟩ := ra.get hd
  refine ⟨⟨vs, v, sq, hv⟩, fun x H' y => ?_⟩
  obtain ⟨e, y⟩ := y
  subst e
  have := y vs sq
  rw [hv] at this
  cases this
  exact ⟨Same.refl _, rv⟩
/-- a tuple, a module's too -/
def AtM (g : Gc) (H : Hp) (A : Addr → Prop) (a : Addr) (vs : List V) : Prop := AtT H A a vs ∨ SqT g.K (fun _ => none) a vs
theorem AtM.sq {H : Hp} {A : Addr → Prop} {a : Addr} {vs : List V} (h : AtM g H A a vs) : SqT g.K H a vs := h.elim AtT.sq sqT_up
theorem good_tup {a : Addr} {ds : List D} : ItGood g (Itt g.K a) (fun H A => ∃ vs, AtM g H A a vs ∧ RepA g H A vs ds) ds := fun i H A ⟨vs, ha, ra⟩ hA => by
  refine ⟨fun d hd => ?_, fun hl => ⟨vs, ha.sq, by rw [ra.length]; exact hl⟩⟩
  obtain ⟨v, hv, rv⟩ := ra.get hd
  refine ⟨⟨vs, v, ha.sq, hv⟩, fun x H' y => ?_⟩
  obtain ⟨e, y⟩ := y
  subst e
  have := y vs ha.sq
  rw [hv] at this
  cases this
  exact ⟨Same.refl _, rv⟩
theorem good_str {s : List Nat} : ItGood g (Its (S s)) (fun _ _ => True) (s.map fun c => D.str [c]) := fun i H A _ hA => by
  have hsz : (S s).cps.size = s.length := S_len s
  refine ⟨fun d hd => ?_, fun hl => by show (S s).cps.size ≤ i; rw [hsz]; simpa using hl⟩
  rw [List.getElem?_map] at hd
  cases e : s[i]? with
  | none => rw [e] at hd; cases hd
  | some c =>
    rw [e] at hd
    cases hd
    have hi : i < s.length := (List.getElem?_eq_some_iff.mp e).1
    refine ⟨by show i < (S s).cps.size; rw [hsz]; exact hi, fun x H' y => ?_⟩
    obtain ⟨eh, c', ec, ex⟩ := y
    subst eh
    have ec' : s[i]? = some c' := by
      have : (S s).cps[i]? = s[i]? := by simp [S]
      rw [this] at ec
      exact ec
    rw [e] at ec'
    cases ec'
    subst ex
    exact ⟨Same.refl _, .str [c]⟩
theorem lasts_list {a : Addr} {ds : List D} : Lasts (fun H A => AtI g H A a ds) := fun H A H2 A2 ⟨vs, ha, ra⟩ k => by
  rcases ha with ⟨ha, n⟩ | ⟨o, ha, n⟩ | ha
  · exact ⟨vs, .inl (k a _ ha n), ra.kp k⟩
  · exact ⟨vs, .inr (.inl ⟨o, k a _ ha n⟩), ra.kp k⟩
  · exact ⟨vs, .inr (.inr ha), ra.kp k⟩
theorem lasts_tup {a : Addr} {ds : List D} : Lasts (fun H A => ∃ vs, AtM g H A a vs ∧ RepA g H A vs ds) := fun H A H2 A2 ⟨vs, ha, ra⟩ k =>
  ⟨vs, ha.elim (fun q => .inl (k _ _ q.1 q.2)) .inr, ra.kp k⟩
theorem ji_val (he : JE X W .im m iter f) : JI X W m tg iter (iterM f) := PI.weak (PI.or (pi_list he) (PI.or (pi_tup he) (pi_str he))) fun σ H R ⟨γ, τ, Re, h⟩ => by
  unfold iterM at h
  rw [fit_bind] at h
  cases ef : f τ with
  | stuck => rw [ef] at h; exact h.elim
  | exc n τ' => rw [ef] at h; exact .inl ⟨γ, τ, Re, by rw [ef]; exact h⟩
  | ok d τ1 =>
    rw [ef] at h
    obtain ⟨ds, ed, h⟩ := fit_lift.mp h
    unfold oIter at ed
    split at ed
    · cases ed
      refine .inl ⟨γ, τ, Re, ?_⟩
      rw [ef]
      intro v H1 s1 P1
      obtain ⟨R1, kp1, r1⟩ := P1
      cases r1 with
      | lst ha n ra =>
        exact ⟨_, rfl, ⟨_, .inl (.inl ha)⟩, h _ H1 _ s1 R1 kp1 ⟨_, .inl ⟨ha, n⟩, ra⟩ lasts_list good_list⟩
    · cases ed
      refine .inl ⟨γ, τ, Re, ?_⟩
      rw [ef]
      intro v H1 s1 P1
      obtain ⟨R1, kp1, r1⟩ := P1
      cases r1 with
      | fz ha ra =>
        exact ⟨_, rfl, ⟨_, ha.sq⟩, h _ H1 _ s1 R1 kp1 ⟨_, .inr ha, ra⟩ lasts_list good_list⟩
    · cases ed
      refine .inr (.inl ⟨γ, τ, Re, ?_⟩)
      rw [ef]
      intro v H1 s1 P1
      obtain ⟨R1, kp1, r1⟩ := P1
      cases r1 with
      | tup ha ra =>
        exact ⟨_, rfl, ⟨_, .inl (.inl ha.1)⟩, h _ H1 _ s1 R1 kp1 ⟨_, .inl ha, ra⟩ lasts_tup good_tup⟩
    · cases ed
      refine .inr (.inl ⟨γ, τ, Re, ?_⟩)
      rw [ef]
      intro v H1 s1 P1
      obtain ⟨R1, kp1, r1⟩ := P1
      cases r1 with
      | mt ha ra =>
        exact ⟨_, rfl, ⟨_, sqT_up ha⟩, h _ H1 _ s1 R1 kp1 ⟨_, .inr ha, ra⟩ lasts_tup good_tup⟩
    · cases ed
      refine .inr (.inr ⟨γ, τ, Re, ?_⟩)
      rw [ef]
      intro v H1 s1 P1
      obtain ⟨R1, kp1, r1⟩ := P1
      cases r1
      exact ⟨_, rfl, h _ H1 _ s1 R1 kp1 trivial (fun _ _ _ _ _ _ => trivial) good_str⟩
    · cases ed
/-- range -/
def rangeD (lo : Int) (n : Nat) : List D := (List.range n).map fun (i : Nat) => D.int (lo + (i : Int))
def oRange1 : D → Option (List D)
  | .int j => if -(2 ^ 62) ≤ j ∧ j < 2 ^ 62 then some (rangeD 0 j.toNat) else none
  | _ => none
def rng1M (f : M D) : M (List D) := andThen f fun d => lift (oRange1 d)
theorem good_range {lo : Int} {n : Nat} : ItGood g (Itr lo n) (fun _ _ => True) (rangeD lo n) := fun i H A _ hA => by
  unfold rangeD
  refine ⟨fun d hd => ?_, fun hl => by show n ≤ i; simpa using hl⟩
  rw [List.getElem?_map] at hd
  cases e : (List.range n)[i]? with
  | none => rw [e] at hd; cases hd
  | some j =>
    rw [e] at hd
    cases hd
    obtain ⟨hi, ej⟩ := List.getElem?_eq_some_iff.mp e
    rw [List.getElem_range] at ej
    subst ej
    rw [List.length_range] at hi
    refine ⟨hi, fun x H' y => ?_⟩
    obtain ⟨eh, ex⟩ := y
    subst eh ex
    exact ⟨Same.refl _, .int _⟩
theorem tI_rng1 (σ : L2.St) (H : Hp) (R : It → Hp → Prop) (q : tI X.g W m (rng1M fa) σ H R) : iRng1 (tCons (tE X.g W k m fa) tNil) σ H R := by
  obtain ⟨γ, τ, Re, h⟩ := q
  unfold rng1M at h
  rw [fit_bind] at h
  refine ⟨γ, τ, Re, h.mono (fun d τ1 h v H1 s1 P1 => ?_) fun _ _ q => q⟩
  obtain ⟨ds, ed, h⟩ := fit_lift.mp h
  obtain ⟨R1, kp1, v1⟩ := P1.val
  unfold oRange1 at ed
  split at ed
  · split at ed
    · rename_i j hz
      cases ed
      rw [v1.l.int]
      exact ⟨j, rfl, hz.1, hz.2, h _ H1 _ s1 R1 kp1 trivial (fun _ _ _ _ _ _ => trivial) good_range⟩
    · cases ed
  · cases ed
theorem ji_range1 {p : Pos} (hg : Gl X "range") (hm : X.mg "range" = none) (ha : JE X W k m a fa) (hs : starEach [a] X.env = [(false, eval a X.env)] := by rfl) : JI X W m tg (.Call (.Name "range" p) [a] [] pos) (rng1M fa) :=
  PI.weak (pi_range1 hg hm (pa_cons ha pa_nil hs) hs) tI_rng1
def oRange2 : D → D → Option (List D)
  | .int i, .int j => if -(2 ^ 62) ≤ i ∧ i < 2 ^ 62 ∧ -(2 ^ 62) ≤ j ∧ j < 2 ^ 62 then some (rangeD i (j - i).toNat) else none
  | _, _ => none
def rng2M (fa fb : M D) : M (List D) := andThen fa fun x => andThen fb fun y => lift (oRange2 x y)
theorem ji_range2 {p : Pos} (hg : Gl X "range") (hm : X.mg "range" = none) (ha : JE X W k1 m1 a fa) (hb : JE X W k2 m2 b fb) (hk : k1 ≠ .ln ∨ m2 = false := by first | exact .inr rfl | exact .inl (by decide)) (hs : starEach [a, b] X.env = [(false, eval a X.env), (false, eval b X.env)] := by rfl) (hs2 : starEach [b] X.env = [(false, eval b X.env)] := by rfl)
    (he : starEach [a, b] X.env = (false, eval a X.env) :: starEach [b] X.env := by rfl) : JI X W (m1 || m2) tg (.Call (.Name "range" p) [a, b] [] pos) (rng2M fa fb) :=
  PI.weak (pi_range2 hg hm (pa_cons ha (pa_cons hb pa_nil hs2) he) hs hs2) fun σ H R ⟨γ, τ, Re, h⟩ => by
    unfold rng2M at h
    rw [fit_bind] at h
    refine tE_bin (Kc := fun x y H2 => ∃ i j : Int, [x, y] = [V.int i, V.int j] ∧ (-(2 ^ 62) ≤ i ∧ i < 2 ^ 62 ∧ -(2 ^ 62) ≤ j ∧ j < 2 ^ 62) ∧ R (Itr i (j - i).toNat) H2) hk Re (h.mono (fun d τ1 h => ?_) fun _ _ q => q)
    rw [fit_bind] at h
    refine h.mono (fun e τ2 h x y H2 s2 R2 kp vx vy => ?_) fun _ _ q => q
    obtain ⟨ds, ed, h⟩ := fit_lift.mp h
    unfold oRange2 at ed
    split at ed
    · split at ed
      · rename_i hz
        cases ed
        rw [vx.l.int, vy.l.int]
        exact ⟨_, _, rfl, hz, h _ H2 _ s2 R2 kp trivial (fun _ _ _ _ _ _ => trivial) good_range⟩
      · cases ed
    · cases ed
/-- enumerate of a list; zip of two lists -/
def enumD : Nat → List D → List D
  | _, [] => []
  | i, d :: r => .tup [.int i, d] :: enumD (i + 1) r
theorem enumD_get : ∀ {ds : List D} {i n : Nat}, (enumD n ds)[i]? = (ds[i]?).map fun d => .tup [.int ((n + i : Nat) : Int), d]
  | [], _, _ => by simp [enumD]
  | d :: r, 0, n => by simp [enumD]
  | d :: r, i + 1, n => by
    unfold enumD
    rw [List.getElem?_cons_succ, List.getElem?_cons_succ, enumD_get]
    have e : n + 1 + i = n + (i + 1) := by omega
    rw [e]
theorem enumD_len : ∀ {ds : List D} {n : Nat}, (enumD n ds).length = ds.length
  | [], _ => rfl
  | d :: r, n => by
    unfold enumD
    rw [List.length_cons, List.length_cons, enumD_len]
def oEnum : D → Option (List D)
  | .lst xs => some (enumD 0 xs)
  | .fz xs => some (enumD 0 xs)
  | _ => none
def enumM (f : M D) : M (List D) := andThen f fun d => lift (oEnum d)
theorem new_pair {H : Hp} {T : Addr} {vs : List V} {ds : List D} (hA : ∀ a, A a → ∃ o, H a = some o) (hT : H T = none) (r : RepA g H A vs ds) : Same H (upd H T (.tup vs)) ∧ Rep g (upd H T (.tup vs)) A (.ref T) (.tup ds) := by
  have := out_tup (g := g) hA r hT
  exact ⟨this.1, this.2⟩
theorem good_enum {a : Addr} {ds : List D} : ItGood g (Ite g.K a) (fun H A => AtI g H A a ds) (enumD 0 ds) := fun i H A ⟨vs, ha, ra⟩ hA => by
  have sq : SqL g.K H a vs := ha.elim (fun z => .inl (.inl z.1)) fun z => z.sq
  refine ⟨fun d hd => ?_, fun hl => ⟨vs, sq, by rw [ra.length]; rw [enumD_len] at hl; exact hl⟩⟩
  rw [enumD_get] at hd
  cases e : ds[i]? with
  | none => rw [e] at hd; cases hd
  | some d' =>
    rw [e] at hd
    cases hd
    obtain ⟨v, hv, rv⟩ := ra.get e
    refine ⟨⟨vs, v, sq, hv⟩, fun x H' y => ?_⟩
    obtain ⟨T, x', rfl, hT, rfl, y⟩ := y
    have := y vs sq
    rw [hv] at this
    cases this
    rw [Nat.zero_add]
    exact new_pair (fun a h => (hA a h).ex) hT (.cons (.int _) (.cons rv .nil))
theorem ji_enumL {p tpos : Pos} {elts : List Expr} {kk : Nat} (hg : Gl X "enumerate") (hm : X.mg "enumerate" = none) (ha : JE X W .im m a fa) (hs : starEach [a] X.env = [(false, eval a X.env)] := by rfl) : JI X W m (.Tuple elts kk tpos) (.Call (.Name "enumerate" p) [a] [] pos) (enumM fa) :=
  PI.weak (pi_enum hg hm (pa_cons ha pa_nil hs) hs) fun σ H R ⟨γ, τ, Re, h⟩ => by
    unfold enumM at h
    rw [fit_bind] at h
    refine ⟨γ, τ, Re, h.mono (fun d τ1 h v H1 s1 P1 => ?_) fun _ _ q => q⟩
    obtain ⟨ds, ed, h⟩ := fit_lift.mp h
    obtain ⟨R1, kp1, r1⟩ := P1
    unfold oEnum at ed
    split at ed
    · cases ed
      cases r1 with
      | lst ha n ra => exact ⟨_, _, rfl, .inl (.inl ha), h _ H1 _ s1 R1 kp1 ⟨_, .inl ⟨ha, n⟩, ra⟩ lasts_list good_enum⟩
    · cases ed
      cases r1 with
      | fz ha ra => exact ⟨_, _, rfl, ha.sq, h _ H1 _ s1 R1 kp1 ⟨_, .inr ha, ra⟩ lasts_list good_enum⟩
    · cases ed
def zipD : List D → List D → List D
  | x :: xs, y :: ys => .tup [x, y] :: zipD xs ys
  | _, _ => []
theorem zipD_get : ∀ {xs ys : List D} {i : Nat}, (zipD xs ys)[i]? = (xs[i]?).bind fun x => (ys[i]?).map fun y => .tup [x, y]
  | [], _, _ => by simp [zipD]
  | _ :: _, [], i => by
    unfold zipD
    cases h : (_ :: _ : List D)[i]? <;> simp [h]
  | x :: xs, y :: ys, 0 => by simp [zipD]
  | x :: xs, y :: ys, i + 1 => by
    unfold zipD
    rw [List.getElem?_cons_succ, List.getElem?_cons_succ, List.getElem?_cons_succ, zipD_get]
theorem zipD_len : ∀ {xs ys : List D}, (zipD xs ys).length = min xs.length ys.length
  | [], _ => by simp [zipD]
  | _ :: _, [] => by simp [zipD]
  | x :: xs, y :: ys => by
    unfold zipD
    rw [List.length_cons, zipD_len, List.length_cons, List.length_cons]
    omega
def oZip : D → D → Option (List D)
  | .lst xs, .lst ys => some (zipD xs ys)
  | .fz xs, .lst ys => some (zipD xs ys)
  | _, _ => none
def zipM (fa fb : M D) : M (List D) := andThen fa fun x => andThen fb fun y => lift (oZip x y)
theorem good_zip {a b : Addr} {xs ys : List D} : ItGood g (Itz g.K a b) (fun H A => AtI g H A a xs ∧ AtI g H A b ys) (zipD xs ys) := fun i H A ⟨⟨vs, ha, ra⟩, ⟨ws, hb, rb⟩⟩ hA => by
  have sq : SqL g.K H a vs := ha.elim (fun z => .inl (.inl z.1)) fun z => z.sq
  have sq' : SqL g.K H b ws := hb.elim (fun z => .inl (.inl z.1)) fun z => z.sq
  refine ⟨fun d hd => ?_, fun hl => ⟨vs, ws, sq, sq', by rw [ra.length, rb.length]; rw [zipD_len] at hl; omega⟩⟩
  rw [zipD_get] at hd
  cases e : xs[i]? with
  | none => rw [e] at hd; cases hd
  | some x =>
    cases e' : ys[i]? with
    | none => rw [e, e'] at hd; cases hd
    | some y =>
      rw [e, e'] at hd
      cases hd
      obtain ⟨v, hv, rv⟩ := ra.get e
      obtain ⟨w, hw, rw'⟩ := rb.get e'
      refine ⟨⟨vs, ws, v, w, sq, sq', hv, hw⟩, fun z H' yd => ?_⟩
      obtain ⟨T, v', w', rfl, hT, rfl, y1, y2⟩ := yd
      have e1 := y1 vs sq
      have e2 := y2 ws sq'
      rw [hv] at e1
      rw [hw] at e2
      cases e1
      cases e2
      exact new_pair (fun a h => (hA a h).ex) hT (.cons rv (.cons rw' .nil))
theorem lasts_zip {a b : Addr} {xs ys : List D} : Lasts (fun H A => AtI g H A a xs ∧ AtI g H A b ys) := fun H A H2 A2 ⟨h1, h2⟩ k => ⟨lasts_list H A H2 A2 h1 k, lasts_list H A H2 A2 h2 k⟩
theorem at_of_rep {v : V} {d : D} {xs : List D} (r : Rep g H A v d) (h : d = .lst xs ∨ d = .fz xs) : ∃ a vs, v = .ref a ∧ SqL g.K H a vs ∧ AtI g H A a xs := by
  rcases h with rfl | rfl
  · cases r with
    | lst ha n ra => exact ⟨_, _, rfl, .inl (.inl ha), _, .inl ⟨ha, n⟩, ra⟩
  · cases r with
    | fz ha ra => exact ⟨_, _, rfl, ha.sq, _, .inr ha, ra⟩
theorem ji_zip {p tpos : Pos} {elts : List Expr} {kk : Nat} (hg : Gl X "zip") (hm : X.mg "zip" = none) (ha : JE X W .im m1 a fa) (hb : JE X W .im m2 b fb) (hs : starEach [a, b] X.env = (false, eval a X.env) :: starEach [b] X.env := by rfl) (hs2 : starEach [b] X.env = (false, eval b X.env) :: starEach [] X.env := by rfl)
    (hpl : (backTo pos (starEach [b] X.env)).any (·.1) = false := by rfl) : JI X W (m1 || m2) (.Tuple elts kk tpos) (.Call (.Name "zip" p) [a, b] [] pos) (zipM fa fb) :=
  PI.weak (pi_zip hg hm (pa_cons ha (pa_cons hb pa_nil hs2) hs) hs hpl) fun σ H R ⟨γ, τ, Re, h⟩ => by
    unfold zipM at h
    rw [fit_bind] at h
    refine tE_bin (Kc := fun x y H2 => ∃ a b xs ys, [x, y] = [V.ref a, V.ref b] ∧ SqL X.K H2 a xs ∧ SqL X.K H2 b ys ∧ R (Itz X.K a b) H2) (k1 := .im) (k2 := .im) (.inl (by decide)) Re (h.mono (fun d τ1 h => ?_) fun _ _ q => q)
    rw [fit_bind] at h
    refine h.mono (fun e τ2 h x y H2 s2 R2 kp vx vy => ?_) fun _ _ q => q
    obtain ⟨ds, ed, h⟩ := fit_lift.mp h
    unfold oZip at ed
    split at ed
    · cases ed
      obtain ⟨a, vs, rfl, sa, ia⟩ := at_of_rep (show Rep _ _ _ _ _ from vx) (.inl rfl)
      obtain ⟨b, ws, rfl, sb, ib⟩ := at_of_rep (show Rep _ _ _ _ _ from vy) (.inl rfl)
      exact ⟨a, b, vs, ws, rfl, sa, sb, h _ H2 _ s2 R2 kp ⟨ia, ib⟩ lasts_zip good_zip⟩
    · cases ed
      obtain ⟨a, vs, rfl, sa, ia⟩ := at_of_rep (show Rep _ _ _ _ _ from vx) (.inr rfl)
      obtain ⟨b, ws, rfl, sb, ib⟩ := at_of_rep (show Rep _ _ _ _ _ from vy) (.inl rfl)
      exact ⟨a, b, vs, ws, rfl, sa, sb, h _ H2 _ s2 R2 kp ⟨ia, ib⟩ lasts_zip good_zip⟩
    · cases ed

/-! ### for -/
def forL (h : D → PS0 → Option PS0) (body : SM) : List D → SM
  | [], τ => .nx τ
  | d :: ds, τ => match h d τ with
    | some τ1 => (match body τ1 with
      | .nx τ2 => forL h body ds τ2
      | r => r)
    | none => .stuck
def forS (fs : M (List D)) (h : D → PS0 → Option PS0) (body : SM) : SM := fun τ => match fs τ with
  | .ok ds τ' => forL h body ds τ'
  | .exc n τ' => .exc n τ'
  | .stuck => .stuck
theorem tSt_for {h : D → PS0 → Option PS0} {ts : List Nat} {body : SM} (Dn : Ends) (σ : L2.St) (H : Hp) (q : tSt X.g W rk (forS fs h body) Dn σ H) : tFor (tI X.g W m fs) (tG X.g h ts) (tSt X.g W rk body) Dn σ H := by
  obtain ⟨γ, τ, R, q⟩ := q
  unfold forS at q
  refine ⟨γ, τ, R, ?_⟩
  cases ef : fs τ with
  | stuck => rw [ef] at q; exact q.elim
  | exc n τ' => rw [ef] at q; exact XS.x q
  | ok ds τ1 =>
    rw [ef] at q
    intro J H1 I s1 R1 kp1 i1 la gd
    refine ⟨fun i mm σ' H' => mm = ds.length - i ∧ i ≤ ds.length ∧ ∃ τi, Rel X.g γ τi σ' H' ∧ Kp (Own τ σ) H (Own τi σ') H' ∧ I H' (Av γ τi σ') ∧ FitS (forL h body (ds.drop i) τi) (NS X.g γ τ σ H Dn.nx) (RS X.g rk γ τ σ H Dn.rt) (XS X.g W γ τ σ H),
      ⟨ds.length, by simp, Nat.zero_le _, τ1, R1, kp1, i1, q⟩, ?_⟩
    rintro i mm σ' H' ⟨rfl, hi', τi, Ri, ki, ii, qi⟩
    have G := gd i H' (Av γ τi σ') ii Ri.avTh'
    by_cases hl : i < ds.length
    · have ed : ds.drop i = ds[i] :: ds.drop (i + 1) := List.drop_eq_getElem_cons hl
      rw [ed] at qi
      have hd : ds[i]? = some ds[i] := List.getElem?_eq_getElem hl
      obtain ⟨go, yl⟩ := G.1 _ hd
      refine .inr ⟨go, fun σ2 H2 => ∃ mm', mm' < ds.length - i ∧ (mm' = ds.length - (i + 1) ∧ i + 1 ≤ ds.length ∧ ∃ τi, Rel X.g γ τi σ2 H2 ∧ Kp (Own τ σ) H (Own τi σ2) H2 ∧ I H2 (Av γ τi σ2) ∧ FitS (forL h body (ds.drop (i + 1)) τi) (NS X.g γ τ σ H Dn.nx) (RS X.g rk γ τ σ H Dn.rt) (XS X.g W γ τ σ H)), fun _ _ z => z, fun x H2 y => ?_⟩
      obtain ⟨sm, rx⟩ := yl x H2 y
      have Ri2 := Ri.same sm
      have ks : Kp (Own τi σ') H' (Own τi σ') H2 := Same.kp sm fun _ z => z
      have ii2 : I H2 (Av γ τi σ') := la _ _ _ _ ii (Same.kp sm fun _ z => z)
      unfold forL at qi
      cases eh : h ds[i] τi with
      | none => rw [eh] at qi; exact qi.elim
      | some τh =>
        rw [eh] at qi
        refine ⟨γ, τi, ds[i], τh, Ri2, rx, eh, fun σ3 R3 k3 _ _ => ?_⟩
        have kk := (ki.trans ks).trans k3
        refine ⟨γ, τh, R3, ?_⟩
        cases eb : body τh with
        | stuck => simp only [eb] at qi; exact qi.elim
        | ret dr τr => simp only [eb] at qi; exact RS.pre kk qi
        | exc n τr => simp only [eb] at qi; exact XS.pre kk qi
        | nx τn =>
          simp only [eb] at qi
          exact fun σ4 H4 R4 k4 => ⟨ds.length - (i + 1), by omega, rfl, hl, τn, R4, kk.trans k4, la _ _ _ _ (la _ _ _ _ ii2 k3.av) k4.av, qi⟩
    · have e : i = ds.length := by omega
      subst e
      rw [List.drop_length] at qi
      exact .inl ⟨G.2 (Nat.le_refl _), qi σ' H' Ri ki⟩
theorem js_for {h : D → PS0 → Option PS0} {ts : List Nat} {body : SM} (hp : PassesOwn (model X.prog X.w) X.A X.env X.xe) (hc : X.calm = true) (hi : JI X W m tg iter fs) (hg : JG X tg h ts) (hb : JB X W rk sts body)
    (hs : ∀ x, foldedSetIterable iter X.env x = pure x := by intro _; rfl) : JS X W rk (.For tg iter sts [] pos) (forS fs h body) := (ps_for hp hc hi hg hb hs).weak tSt_for
end
end PL

namespace PL
open PySem PySem.Spec PyProof.Rows L2

section
variable {X : Cx} {W : WX} {g : Gc} {γ : G} {τ τ' τ1 τ2 : PS0} {σ σ' σ1 σ2 : L2.St} {H H' H1 H2 : Hp} {A : Addr → Prop} {p : Addr} {v : V} {d : D} {k k1 k2 k3 kr rk : Kd} {m m1 m2 m3 : Bool} {e e1 e2 a b c tg iter elt : Expr} {es rest : List Expr} {f fa fb fc : M D} {t u : M Bool} {fs : M (List D)} {pos : Pos} {st : Stmt} {sts sts2 : List Stmt} {h h1 h2 : SM}

/-! ### a comprehension's own names -/
def wipeP (τ : PS0) : List Nat → PS0
  | [] => τ
  | v :: vs => (wipeP τ vs).set v .no
def backP (τ τb : PS0) : List Nat → PS0
  | [] => τb
  | v :: vs => match τ[v]? with
    | some s => (backP τ τb vs).set v s
    | none => backP τ τb vs
/-- none of these slots owns -/
def freeP (τ : PS0) (vs : List Nat) : Bool := vs.all fun v => match τ[v]? with
  | some s => !s.isOwn
  | none => true
theorem wipeP_len : ∀ vs : List Nat, (wipeP τ vs).length = τ.length
  | [] => rfl
  | v :: vs => by unfold wipeP; rw [List.length_set, wipeP_len vs]
theorem wipeP_get {j : Nat} : ∀ {vs : List Nat}, j ∉ vs → (wipeP τ vs)[j]? = τ[j]?
  | [], _ => rfl
  | v :: vs, h => by
    unfold wipeP
    rw [List.getElem?_set_ne (fun z => h (by rw [z]; exact List.mem_cons_self)), wipeP_get fun z => h (List.mem_cons_of_mem _ z)]
theorem backP_len {τb : PS0} : ∀ vs : List Nat, (backP τ τb vs).length = τb.length
  | [] => rfl
  | v :: vs => by
    unfold backP
    split
    · rw [List.length_set, backP_len vs]
    · exact backP_len vs
theorem backP_get {τb : PS0} {j : Nat} : ∀ {vs : List Nat}, j ∉ vs → (backP τ τb vs)[j]? = τb[j]?
  | [], _ => rfl
  | v :: vs, h => by
    unfold backP
    have h1 : j ∉ vs := fun z => h (List.mem_cons_of_mem _ z)
    have h2 : v ≠ j := fun z => h (by rw [z]; exact List.mem_cons_self)
    split
    · rw [List.getElem?_set_ne h2, backP_get h1]
    · exact backP_get h1
theorem backP_in {τb : PS0} {j : Nat} (hl : τb.length = τ.length) : ∀ {vs : List Nat}, j ∈ vs → (backP τ τb vs)[j]? = τ[j]?
  | v :: vs, h => by
    unfold backP
    by_cases e : j = v
    · subst e
      cases ej : τ[j]? with
      | none =>
        have : (backP τ τb vs).length = τ.length := (backP_len vs).trans hl
        rw [List.getElem?_eq_none_iff] at ej
        rw [List.getElem?_eq_none_iff.mpr (by rw [this]; exact ej)]
      | some s =>
        have lt : j < τ.length := (List.getElem?_eq_some_iff.mp ej).1
        show ((backP τ τb vs).set j s)[j]? = some s
        rw [List.getElem?_set_self (by rw [backP_len, hl]; exact lt)]
    · have h' : j ∈ vs := (List.mem_cons.mp h).resolve_left e
      split
      · rw [List.getElem?_set_ne (fun z => e z.symm), backP_in hl h']
      · exact backP_in hl h'
theorem Rel.wipe (R : Rel g γ τ σ H) : ∀ vs : List Nat, Rel g γ (wipeP τ vs) (L2.wipe σ vs) H ∧ Kp (Own τ σ) H (Own (wipeP τ vs) (L2.wipe σ vs)) H
  | [] => ⟨R, Kp.refl⟩
  | v :: vs => by
    obtain ⟨R1, k1⟩ := R.wipe vs
    obtain ⟨R2, k2⟩ := R1.setNo v .no none rfl fun d e => nomatch e
    exact ⟨R2, k1.trans k2⟩
theorem Rel.back {vs : List Nat} {τb : PS0} (R : Rel g γ τ σ H) (R2 : Rel g γ τb σ2 H2) (hf : freeP τ vs = true) (hσ : ∀ j, j ∉ vs → σ2[j]? = σ[j]?) (hl : σ2.length = σ.length) (k : Kp (Own τ σ) H (Own τb σ2) H2) :
    Rel g γ (backP τ τb vs) σ H2 ∧ Kp (Own τ σ) H (Own (backP τ τb vs) σ) H2 := by
  have ll : τb.length = τ.length := by rw [← R2.len, hl, R.len]
  have own_in : ∀ {j a}, j ∈ vs → ¬ OwnAt (backP τ τb vs) σ j a := fun {j a} hj ⟨⟨s, hs, ho⟩, _⟩ => by
    rw [backP_in ll hj] at hs
    have := List.all_eq_true.mp hf j hj
    rw [hs] at this
    simp [ho] at this
  have own_out : ∀ {j a}, j ∉ vs → OwnAt (backP τ τb vs) σ j a → OwnAt τb σ2 j a := fun {j a} hj ⟨⟨s, hs, ho⟩, e⟩ => ⟨⟨s, by rw [← backP_get hj]; exact hs, ho⟩, by rw [hσ j hj]; exact e⟩
  have sub : ∀ a, Own (backP τ τb vs) σ a → Own τb σ2 a := fun a ⟨j, h⟩ => by
    by_cases hj : j ∈ vs
    · exact absurd h (own_in hj)
    · exact ⟨j, own_out hj h⟩
  have kl : Kp (Own τb σ2) H2 (Own (backP τ τb vs) σ) H2 := Kp.less sub
  refine ⟨⟨by rw [backP_len, ll]; exact R.len, fun j d h => ?_, fun j d h => ?_, fun j d h => ?_, fun i j a h1 h2 => ?_, fun a h => ⟨(R2.pal a h).1, fun z => (R2.pal a h).2 (sub a z)⟩⟩, k.trans kl⟩
  · by_cases hj : j ∈ vs
    · rw [backP_in ll hj] at h
      obtain ⟨v, e, r⟩ := R.im j d h
      exact ⟨v, e, r.kp (k.trans kl).av⟩
    · rw [backP_get hj] at h
      obtain ⟨v, e, r⟩ := R2.im j d h
      exact ⟨v, by rw [← hσ j hj]; exact e, r.kp kl.av⟩
  · by_cases hj : j ∈ vs
    · obtain ⟨s, q⟩ : ∃ s, τ[j]? = some s ∧ s.isOwn = true := ⟨.ow d, by rw [← backP_in ll hj]; exact h, rfl⟩
      have := List.all_eq_true.mp hf j hj
      rw [q.1] at this
      simp [q.2] at this
    · rw [backP_get hj] at h
      obtain ⟨a, e, c⟩ := R2.ow j d h
      exact ⟨a, by rw [← hσ j hj]; exact e, c.mono kl.av rfl⟩
  · by_cases hj : j ∈ vs
    · obtain ⟨s, q⟩ : ∃ s, τ[j]? = some s ∧ s.isOwn = true := ⟨.mu d, by rw [← backP_in ll hj]; exact h, rfl⟩
      have := List.all_eq_true.mp hf j hj
      rw [q.1] at this
      simp [q.2] at this
    · rw [backP_get hj] at h
      obtain ⟨e, c⟩ := R2.mu j d h
      exact ⟨by rw [← hσ j hj]; exact e, c.mono kl.av rfl⟩
  · by_cases hi : i ∈ vs
    · exact absurd h1 (own_in hi)
    · by_cases hj : j ∈ vs
      · exact absurd h2 (own_in hj)
      · exact R2.inj i j a (own_out hi h1) (own_out hj h2)
theorem wipe_eq {vs : List Nat} (hl : σ2.length = σ.length) (h : ∀ j, j ∉ vs → σ2[j]? = σ[j]?) : L2.wipe σ2 vs = L2.wipe σ vs := by
  apply List.ext_getElem?
  intro j
  by_cases hj : j ∈ vs
  · have aux : ∀ (σ : L2.St) (vs : List Nat), j ∈ vs → (L2.wipe σ vs)[j]? = if j < σ.length then some none else none := by
      intro σ vs
      induction vs with
      | nil => intro h; cases h
      | cons v vs ih =>
        intro h
        show ((L2.wipe σ vs).set v none)[j]? = _
        by_cases e : j = v
        · subst e
          by_cases hh : j < σ.length
          · rw [List.getElem?_set_self (by rw [wipe_length]; exact hh), if_pos hh]
          · rw [List.getElem?_eq_none_iff.mpr (by rw [List.length_set, wipe_length]; omega), if_neg hh]
        · rw [List.getElem?_set_ne (Ne.symm e)]
          exact ih ((List.mem_cons.mp h).resolve_left e)
    rw [aux σ2 vs hj, aux σ vs hj, hl]
  · have out : ∀ (σ : L2.St) (vs : List Nat), j ∉ vs → (L2.wipe σ vs)[j]? = σ[j]? := by
      intro σ vs
      induction vs with
      | nil => intro _; rfl
      | cons v vs ih =>
        intro h
        show ((L2.wipe σ vs).set v none)[j]? = _
        rw [List.getElem?_set_ne (fun z => h (by rw [z]; exact List.mem_cons_self)), ih fun z => h (List.mem_cons_of_mem _ z)]
    rw [out σ2 vs hj, out σ vs hj, h j hj]
theorem wipe_out' {vs : List Nat} {j : Nat} (hj : j ∉ vs) : (L2.wipe σ vs)[j]? = σ[j]? := wipe_out hj

/-! ### [elt for tg in iter if t] -/
def lcL (vs : List Nat) (h : D → PS0 → Option PS0) (t : M Bool) (el : M D) : List D → List D → PS0 → Res D
  | [], acc, τ => .ok (.lst acc) τ
  | d :: ds, acc, τ => match h d (wipeP τ vs) with
    | none => .stuck
    | some τb => (match t τb with
      | .ok true τc => (match el τc with
        | .ok y τd => if acc.length < 16777216 then lcL vs h t el ds (acc ++ [y]) (backP τ τd vs) else .stuck
        | _ => .stuck)
      | .ok false τc => lcL vs h t el ds acc (backP τ τc vs)
      | _ => .stuck)
def lcE (vs : List Nat) (fs : M (List D)) (h : D → PS0 → Option PS0) (t : M Bool) (el : M D) : M D := fun τ => match fs τ with
  | .ok ds τ1 => if freeP τ1 vs = true then lcL vs h t el ds [] τ1 else .stuck
  | .exc n τ' => .exc n τ'
  | .stuck => .stuck
theorem freeP_back {vs : List Nat} {τb : PS0} (hl : τb.length = τ.length) (hf : freeP τ vs = true) : freeP (backP τ τb vs) vs = true := by
  unfold freeP at hf ⊢
  rw [List.all_eq_true] at hf ⊢
  intro v hv
  rw [backP_in hl hv]
  exact hf v hv
abbrev W0 : WX := fun _ _ _ _ => False
/-- a clause's tests -/
abbrev JTs (X : Cx) (W : WX) (m : Bool) (ifs : List Expr) (t : M Bool) : Prop := PTs X ifs (tT X.g W m t)
theorem PTs.weak {ifs : List Expr} {t t' : TT} (h : PTs X ifs t) (w : ∀ σ H Q, t' σ H Q → t σ H Q) : PTs X ifs t' := ⟨fun pins s σ H Q I q => h.run pins s σ H Q I (w σ H Q q)⟩
theorem jts_nil : JTs X W false [] (ret true) := PTs.weak pts_nil fun σ H Q ⟨γ, τ, R, h⟩ => h H (fun _ => Same.refl H) R Kp.refl
theorem jts_one (h : JT X W m c t) : JTs X W m [c] t := pts_one h
theorem tE_lc {vs ts : List Nat} {h : D → PS0 → Option PS0} {el : M D} {mt me : Bool} (hts : ∀ j, j ∈ ts → j ∈ vs) (σ : L2.St) (H : Hp) (Q : VK) (q : tE g W .fr true (lcE vs fs h t el) σ H Q) : tLc (tI g W m fs) (tG g h ts) (tT g W0 mt t) (tE g W0 .im me el) vs σ H Q := by
  obtain ⟨γ, τ, R, q⟩ := q
  unfold lcE at q
  refine ⟨γ, τ, R, ?_⟩
  cases ef : fs τ with
  | stuck => rw [ef] at q; exact q.elim
  | exc n τ' => rw [ef] at q; exact q
  | ok ds τ1 =>
    rw [ef] at q
    intro J H1 I s1 R1 kp1 i1 la gd
    intro L hL
    cases hfr : freeP τ1 vs with
    | false => simp only [hfr, Bool.false_eq_true, if_false] at q; exact q.elim
    | true =>
    simp only [hfr, if_true] at q
    have sL : Same H1 (upd H1 L (.lst [])) := fun b o e => by rw [upd_ne (ne_of_none e hL)]; exact e
    have RL := R1.newS hL sL ⟨_, upd_same, fun _ z => nomatch z⟩
    have nPL : ¬ γ.P L := fun z => by
      obtain ⟨u, e⟩ := (R1.pal L z).1.ex
      rw [hL] at e; cases e
    refine ⟨fun i mm H' => mm = ds.length - i ∧ i ≤ ds.length ∧ ∃ τi vsD acc, Rel g (γ.with L) τi σ H' ∧ Kp (Own τ σ) H (fun a => Own τi σ a ∨ a = L) H' ∧ H' L = some (.lst vsD) ∧ RepA g H' (Av (γ.with L) τi σ) vsD acc ∧ I H' (Av (γ.with L) τi σ) ∧ freeP τi vs = true ∧
        Fit (lcL vs h t el (ds.drop i) acc τi) (fun d τ' => ∀ v H', (true = false → Same H H') → PostE .fr g γ τ σ H τ' σ H' v d → Q v H') (XW g W γ τ σ H),
      ⟨ds.length, by simp, Nat.zero_le _, τ1, [], [], RL, kp1.trans fun b o e n => ⟨sL b o e, fun z => z.elim n (ne_of_none e hL)⟩, upd_same, .nil, ?_, hfr, q⟩, ?_⟩
    · refine la _ _ _ _ i1 fun b o e n => ⟨sL b o e, fun z => z.elim (fun y => y.elim (fun x => n (.inl x)) (ne_of_none e hL)) fun y => n (.inr y)⟩
    rintro i mm H' ⟨rfl, hi', τi, vsD, acc, Ri, ki, hLi, ra, ii, hfi, qi⟩
    have G := gd i H' (Av (γ.with L) τi σ) ii Ri.avTh'
    by_cases hl : i < ds.length
    · have ed : ds.drop i = ds[i] :: ds.drop (i + 1) := List.drop_eq_getElem_cons hl
      rw [ed] at qi
      have hd : ds[i]? = some ds[i] := List.getElem?_eq_getElem hl
      obtain ⟨go, yl⟩ := G.1 _ hd
      refine .inr ⟨go, fun H2 => ∃ mm', mm' < ds.length - i ∧ (mm' = ds.length - (i + 1) ∧ i + 1 ≤ ds.length ∧ ∃ τi vsD acc, Rel g (γ.with L) τi σ H2 ∧ Kp (Own τ σ) H (fun a => Own τi σ a ∨ a = L) H2 ∧ H2 L = some (.lst vsD) ∧ RepA g H2 (Av (γ.with L) τi σ) vsD acc ∧ I H2 (Av (γ.with L) τi σ) ∧ freeP τi vs = true ∧
          Fit (lcL vs h t el (ds.drop (i + 1)) acc τi) (fun d τ' => ∀ v H', (true = false → Same H H') → PostE .fr g γ τ σ H τ' σ H' v d → Q v H') (XW g W γ τ σ H)), fun _ z => z, fun x H2 y => ?_⟩
      obtain ⟨sm, rx⟩ := yl x H2 y
      have Ri2 := Ri.same sm
      have ks : Kp (Own τi σ) H' (Own τi σ) H2 := Same.kp sm fun _ z => z
      have ii2 : I H2 (Av (γ.with L) τi σ) := la _ _ _ _ ii (Same.kp sm fun _ z => z)
      have hL2 : H2 L = some (.lst vsD) := sm _ _ hLi
      have ra2 : RepA g H2 (Av (γ.with L) τi σ) vsD acc := ra.kp (Same.kp sm fun _ z => z)
      have ki2 : Kp (Own τ σ) H (fun a => Own τi σ a ∨ a = L) H2 := ki.trans (Same.kp sm fun _ z => z)
      have nOL : ∀ {τx : PS0} {σx : L2.St} {Hx : Hp}, Rel g (γ.with L) τx σx Hx → ¬ Own τx σx L := fun Rx => (Rx.pal L (.inr rfl)).2
      unfold lcL at qi
      obtain ⟨Rw, kw⟩ := Ri2.wipe vs
      cases eh : h ds[i] (wipeP τi vs) with
      | none => rw [eh] at qi; exact qi.elim
      | some τb =>
        rw [eh] at qi
        refine ⟨γ.with L, wipeP τi vs, ds[i], τb, Rw, rx.kp kw.av, eh, fun σ3 R3 k3 o3 l3 => ?_⟩
        have oσ : ∀ j, j ∉ vs → σ3[j]? = σ[j]? := fun j hj => (o3 j fun z => hj (hts j z)).trans (wipe_out hj)
        have lσ : σ3.length = σ.length := l3.trans (wipe_length σ vs)
        refine ⟨?_, ?_⟩
        · have e1 := wipe_eq (σ := L2.wipe σ vs) (σ2 := σ3) (vs := vs) (by rw [l3]) fun j hj => o3 j fun z => hj (hts j z)
          have e2 := wipe_eq (σ := σ) (σ2 := L2.wipe σ vs) (vs := vs) (wipe_length σ vs) fun j hj => wipe_out hj
          exact e1.trans e2
        refine ⟨γ.with L, τb, R3, ?_⟩
        have k03 : Kp (Own τi σ) H2 (Own τb σ3) H2 := kw.trans k3
        -- what stands behind the turn
        have turn : ∀ {τd : PS0} {H4 : Hp}, Rel g (γ.with L) τd σ3 H4 → Kp (Own τb σ3) H2 (Own τd σ3) H4 →
            Rel g (γ.with L) (backP τi τd vs) σ H4 ∧ Kp (Own τi σ) H2 (Own (backP τi τd vs) σ) H4 ∧ freeP (backP τi τd vs) vs = true := fun {τd H4} R4 k4 => by
          obtain ⟨Rb, kb⟩ := Ri2.back R4 hfi oσ lσ (k03.trans k4)
          exact ⟨Rb, kb, freeP_back (by rw [← R4.len, lσ, Ri2.len]) hfi⟩
        have kpL : ∀ {τd : PS0} {H4 : Hp}, Kp (Own τi σ) H2 (Own τd σ) H4 → Kp (Own τ σ) H (fun a => Own τd σ a ∨ a = L) H4 := fun {τd H4} k4 => ki2.trans fun b o e n => by
          obtain ⟨e', n'⟩ := k4 b o e fun z => n (.inl z)
          exact ⟨e', fun z => z.elim n' fun y => n (.inr y)⟩
        cases et : t τb with
        | stuck => simp only [et] at qi; exact qi.elim
        | exc n τ' => simp only [et] at qi; exact qi.elim
        | ok bb τc =>
          simp only [et] at qi
          intro H3 _ R3' k3'
          cases bb with
          | false =>
            simp only [Bool.false_eq_true, if_false] at qi ⊢
            obtain ⟨Rb, kb, fb⟩ := turn R3' k3'
            exact ⟨ds.length - (i + 1), by omega, rfl, hl, backP τi τc vs, vsD, acc, Rb, kpL kb, (kb L _ hL2 (nOL Ri2)).1, ra2.kp kb.av, la _ _ _ _ ii2 kb.av, fb, qi⟩
          | true =>
            simp only [if_true] at qi ⊢
            refine ⟨γ.with L, τc, R3', ?_⟩
            cases ee : el τc with
            | stuck => simp only [ee] at qi; exact qi.elim
            | exc n τ' => simp only [ee] at qi; exact qi.elim
            | ok yv τd =>
              simp only [ee] at qi
              intro v H4 _ P4
              obtain ⟨R4, k4, r4⟩ := P4
              obtain ⟨Rb, kb, fb⟩ := turn R4 (k3'.trans k4)
              by_cases hz : acc.length < 16777216
              · simp only [hz, if_true] at qi
                have hL4 : H4 L = some (.lst vsD) := (kb L _ hL2 (nOL Ri2)).1
                refine ⟨vsD, hL4, by rw [ra2.length]; exact hz, ds.length - (i + 1), by omega, rfl, hl, backP τi τd vs, vsD ++ [v], acc ++ [yv], Rb.updP (.inr rfl), ?_, upd_same, ?_, ?_, fb, qi⟩
                · refine (kpL kb).trans fun b o e n => ⟨?_, n⟩
                  rw [upd_ne fun z => n (.inr z)]; exact e
                · have rv : Rep g H4 (Av (γ.with L) (backP τi τd vs) σ) v yv := r4.kp (Kp.less fun b z => by
                    rcases z with z | ⟨j, z⟩
                    · exact .inl z
                    · refine .inr ⟨j, ?_⟩
                      by_cases hj : j ∈ vs
                      · exfalso
                        obtain ⟨⟨s, hs, ho⟩, _⟩ := z
                        rw [backP_in (by rw [← R4.len, lσ, Ri2.len]) hj] at hs
                        have := List.all_eq_true.mp hfi j hj
                        rw [hs] at this
                        simp [ho] at this
                      · obtain ⟨⟨s, hs, ho⟩, e⟩ := z
                        exact ⟨⟨s, by rw [← backP_get hj]; exact hs, ho⟩, by rw [oσ j hj]; exact e⟩)
                  have hA : Av (γ.with L) (backP τi τd vs) σ L := .inl (.inr rfl)
                  exact upd_put hA ((ra2.kp kb.av).append (.cons rv .nil))
                · refine la _ _ _ _ (la _ _ _ _ ii2 kb.av) fun b o e n => ⟨?_, n⟩
                  rw [upd_ne fun z => n (.inl (.inr z))]; exact e
              · simp only [hz, if_false] at qi
                exact qi.elim
    · have e : i = ds.length := by omega
      subst e
      rw [List.drop_length] at qi
      refine .inl ⟨G.2 (Nat.le_refl _), qi (.ref L) H' (fun z => nomatch z) ⟨L, rfl, Ri, nPL, ki, .lst hLi ra⟩⟩
theorem je_lc {ifs : List Expr} {scope : Scope} {own : List (Str × Nat)} {ts : List Nat} {h : D → PS0 → Option PS0} {el : M D} {mt me : Bool} (hc : X.calm = true) (hN : X.N.Nodup) (hi : JI X W m tg iter fs) (ok : BlkOk X.N X.env.scope scope own)
    (hg : ∀ (s : Shared) (H : Hp) (C : Addr) (cl : List (Str × Addr)) (fp : List Addr), JG (X.blk s H scope (compEnvC scope cl C X.env) fp) tg h ts) (ht : ∀ (s : Shared) (H : Hp) (C : Addr) (cl : List (Str × Addr)) (fp : List Addr), JTs (X.blk s H scope (compEnvC scope cl C X.env) fp) W0 mt ifs t)
    (he : ∀ (s : Shared) (H : Hp) (C : Addr) (cl : List (Str × Addr)) (fp : List Addr), JE (X.blk s H scope (compEnvC scope cl C X.env) fp) W0 .im me elt el) (hts : ∀ j, j ∈ ts → j ∈ own.map (·.2) := by decide) (hs : ∀ x, foldedSetIterable iter X.env x = pure x := by intro _; rfl) :
    JE X W .fr true (.ListComp elt [⟨tg, iter, ifs, 0⟩] scope pos) (lcE (own.map (·.2)) fs h t el) := (pe_lc hc hN hi ok hg ht he hs).weak (tE_lc hts)
/-- x = [..] on one line -/
theorem js_setLc (i : Nat) {x : Str} {ifs : List Expr} {scope : Scope} {own : List (Str × Nat)} {ts : List Nat} {h : D → PS0 → Option PS0} {el : M D} {mt me : Bool} {py spos : Pos} (hc : X.calm = true) (hN : X.N.Nodup) (hy : X.N[i]? = some x) (hyl : X.env.scope.names.lookup x = some .local)
    (hsw : swapsWith (.ListComp elt [⟨tg, iter, ifs, 0⟩] scope pos) (some (.Name x py)) spos.line X.env = pure true) (hi : JI X W m tg iter fs) (ok : BlkOk X.N X.env.scope scope own)
    (hg : ∀ (s : Shared) (H : Hp) (C : Addr) (cl : List (Str × Addr)) (fp : List Addr), JG (X.blk s H scope (compEnvC scope cl C X.env) fp) tg h ts) (ht : ∀ (s : Shared) (H : Hp) (C : Addr) (cl : List (Str × Addr)) (fp : List Addr), JTs (X.blk s H scope (compEnvC scope cl C X.env) fp) W0 mt ifs t)
    (he : ∀ (s : Shared) (H : Hp) (C : Addr) (cl : List (Str × Addr)) (fp : List Addr), JE (X.blk s H scope (compEnvC scope cl C X.env) fp) W0 .im me elt el) (hts : ∀ j, j ∈ ts → j ∈ own.map (·.2) := by decide) (hs : ∀ x, foldedSetIterable iter X.env x = pure x := by intro _; rfl) :
    JS X W rk (.Assign [.Name x py] (.ListComp elt [⟨tg, iter, ifs, 0⟩] scope pos) spos) (setS i (lcE (own.map (·.2)) fs h t el)) := (L2.ps_setLc hc hN hy hyl hsw hi ok hg ht he hs).weak fun Dn σ H q =>
  asg_im (m := true) (f := lcE (own.map (·.2)) fs h t el) (fun σ H Q q => tE_lc hts σ H Q (by
    obtain ⟨γ, τ, R, q⟩ := q
    exact ⟨γ, τ, R, q.mono (fun d τ' z v H' s P => z v H' s P.toIm) fun _ _ z => z⟩)) σ H q
theorem js_ownLc (i : Nat) {x : Str} {ifs : List Expr} {scope : Scope} {own : List (Str × Nat)} {ts : List Nat} {h : D → PS0 → Option PS0} {el : M D} {mt me : Bool} {py spos : Pos} (hc : X.calm = true) (hN : X.N.Nodup) (hy : X.N[i]? = some x) (hyl : X.env.scope.names.lookup x = some .local)
    (hsw : swapsWith (.ListComp elt [⟨tg, iter, ifs, 0⟩] scope pos) (some (.Name x py)) spos.line X.env = pure true) (hi : JI X W m tg iter fs) (ok : BlkOk X.N X.env.scope scope own)
    (hg : ∀ (s : Shared) (H : Hp) (C : Addr) (cl : List (Str × Addr)) (fp : List Addr), JG (X.blk s H scope (compEnvC scope cl C X.env) fp) tg h ts) (ht : ∀ (s : Shared) (H : Hp) (C : Addr) (cl : List (Str × Addr)) (fp : List Addr), JTs (X.blk s H scope (compEnvC scope cl C X.env) fp) W0 mt ifs t)
    (he : ∀ (s : Shared) (H : Hp) (C : Addr) (cl : List (Str × Addr)) (fp : List Addr), JE (X.blk s H scope (compEnvC scope cl C X.env) fp) W0 .im me elt el) (hts : ∀ j, j ∈ ts → j ∈ own.map (·.2) := by decide) (hs : ∀ x, foldedSetIterable iter X.env x = pure x := by intro _; rfl) :
    JS X W rk (.Assign [.Name x py] (.ListComp elt [⟨tg, iter, ifs, 0⟩] scope pos) spos) (ownS i (lcE (own.map (·.2)) fs h t el)) := (L2.ps_setLc hc hN hy hyl hsw hi ok hg ht he hs).weak fun Dn σ H q =>
  asg_ow (m := true) (f := lcE (own.map (·.2)) fs h t el) (fun σ H Q q => tE_lc hts σ H Q q) σ H q
end
end PL

namespace PL
open PySem PySem.Spec PyProof.Rows L2

section
variable {X : Cx} {W : WX} {g : Gc} {γ : G} {τ τ' τ1 τ2 : PS0} {σ σ' σ1 σ2 : L2.St} {H H' H1 H2 : Hp} {rk : Kd} {pos : Pos}
/-! ### raise X('..') -/
def raiseS (n : Str) : SM := fun τ => .exc n τ
theorem js_raise {x m : Str} {j : Nat} {p p2 p3 : Pos} {C : Addr} {bmB : List Value} {B newId initId : String} (hc : X.calm = true) (tk : Takes X W) (F : ExcBaseFacts B newId initId bmB) (q : PySem.W.excIn X.K C bmB newId = true) (gC : X.mg x = some (.ref C)) (kC : PySem.W.keepIn X.K (.ref C) = true) (r : Raises X (.ref C)) (hg : Gl X x := by rfl)
    (hdb : (x == ("__debug__" : Str)) = false := by decide) : JS X W rk (.Raise (some (.Call (.Name x p) [.Constant (.str m) j p2] [] p3)) none pos) (raiseS x) :=
  (ps_raise hc tk (pmk_own F q gC kC r hg hdb)).weak fun Dn σ H ⟨γ, τ, R, h⟩ => h σ H R Kp.refl C gC

/-! ### a def by its body -/
def muP : PS0 → Option D
  | .mu o :: _ => some o
  | _ => none
theorem muP_at {o : D} (h : muP τ = some o) : τ[0]? = some (.mu o) := by
  unfold muP at h
  split at h
  · cases h; rfl
  · cases h
/-- an answer with what the first argument holds -/
def withM (d : D) (o : Option D) : DR := match o with
  | some o => .ret d o
  | none => .stuck
def excM (n : Str) (o : Option D) : DR := match o with
  | some o => .exc n o
  | none => .stuck
def runF (n : Nat) (rk : Kd) (body : SM) (ds : List D) : DR := match body (ds.map .im ++ List.replicate (n - ds.length) .no) with
  | .nx τ => if rk = .im then .ret .non .non else .stuck
  | .ret d τ => .ret d .non
  | .exc n τ => .exc n .non
  | .stuck => .stuck
def runU (n : Nat) (rk : Kd) (body : SM) (ds : List D) : DR := match ds with
  | c :: ds => match body (.mu c :: (ds.map .im ++ List.replicate (n - (ds.length + 1)) .no)) with
    | .nx τ => if rk = .im then withM .non (muP τ) else .stuck
    | .ret d τ => withM d (muP τ)
    | .exc n τ => excM n (muP τ)
    | .stuck => .stuck
  | [] => .stuck
theorem start_im {vs : List V} {ds : List D} (n : Nat) (r : RepA g H γ.P vs ds) (hP : ∀ a, γ.P a → Th H a) : Rel g γ (ds.map .im ++ List.replicate n .no) (vs.map some ++ List.replicate n none) H := by
  have sl : ∀ {i : Nat} {s : Slot}, (ds.map Slot.im ++ List.replicate n .no)[i]? = some s → s.isOwn = false := fun {i s} h => by
    have hm := List.mem_of_getElem? h
    rcases List.mem_append.mp hm with q | q
    · obtain ⟨d, _, e⟩ := List.mem_map.mp q
      subst e; rfl
    · rw [List.eq_of_mem_replicate q]; rfl
  have nO : ∀ a, ¬ Own (ds.map Slot.im ++ List.replicate n .no) (vs.map some ++ List.replicate n none) a := fun a ⟨i, ⟨s, hs, ho⟩, _⟩ => by
    rw [sl hs] at ho; cases ho
  have kA : Kp γ.P H (Av γ (ds.map Slot.im ++ List.replicate n .no) (vs.map some ++ List.replicate n none)) H := Kp.less fun a q => q.elim (fun z => z) fun z => absurd z (nO a)
  refine ⟨by simp [r.length], fun i d h => ?_, fun i d h => ?_, fun i d h => ?_, fun i j a h1 _ => absurd ⟨i, h1⟩ (nO a), fun a h => ⟨hP a h, nO a⟩⟩
  · by_cases hi : i < ds.length
    · rw [List.getElem?_append_left (by simpa using hi), List.getElem?_map] at h
      cases e : ds[i]? with
      | none => rw [e] at h; cases h
      | some d' =>
        rw [e] at h
        cases h
        obtain ⟨v, hv, rv⟩ := r.get e
        refine ⟨v, ?_, rv.kp kA⟩
        rw [List.getElem?_append_left (by rw [List.length_map, r.length]; exact hi), List.getElem?_map, hv]
        rfl
    · rw [List.getElem?_append_right (by rw [List.length_map]; omega)] at h
      have := List.mem_of_getElem? h
      exact nomatch List.eq_of_mem_replicate this
  · have := sl h
    cases this
  · have := sl h
    cases this
theorem cons_get {α : Type} {x : α} {xs : List α} {i : Nat} {s : α} (h : (x :: xs)[i]? = some s) : (i = 0 ∧ s = x) ∨ ∃ j, i = j + 1 ∧ xs[j]? = some s := by
  cases i with
  | zero => exact .inl ⟨rfl, by simpa using h.symm⟩
  | succ j => exact .inr ⟨j, rfl, by simpa using h⟩
theorem start_mu {vs : List V} {ds : List D} {A : Addr → Prop} {a : Addr} {c : D} (n : Nat) (r : RepA g H A vs ds) (hA : ∀ a, A a → Th H a) (ha : A a) (ct : Cont g H A a c) :
    Rel g ⟨fun b => A b ∧ b ≠ a, a⟩ (.mu c :: (ds.map .im ++ List.replicate n .no)) (some (.ref a) :: (vs.map some ++ List.replicate n none)) H ∧
      (∀ b, Own (.mu c :: (ds.map .im ++ List.replicate n .no)) (some (.ref a) :: (vs.map some ++ List.replicate n none)) b ↔ b = a) := by
  have sl : ∀ {i : Nat} {s : Slot}, (ds.map Slot.im ++ List.replicate n .no)[i]? = some s → s.isOwn = false := fun {i s} h => by
    have hm := List.mem_of_getElem? h
    rcases List.mem_append.mp hm with q | q
    · obtain ⟨d, _, e⟩ := List.mem_map.mp q
      subst e; rfl
    · rw [List.eq_of_mem_replicate q]; rfl
  have oAt : ∀ {i b}, OwnAt (.mu c :: (ds.map Slot.im ++ List.replicate n .no)) (some (.ref a) :: (vs.map some ++ List.replicate n none)) i b → i = 0 ∧ b = a := fun {i b} ⟨⟨s, hs, ho⟩, e⟩ => by
    rcases cons_get hs with ⟨rfl, _⟩ | ⟨j, rfl, hj⟩
    · refine ⟨rfl, ?_⟩
      cases e
      rfl
    · rw [sl hj] at ho; cases ho
  have hO : ∀ b, Own (.mu c :: (ds.map Slot.im ++ List.replicate n .no)) (some (.ref a) :: (vs.map some ++ List.replicate n none)) b ↔ b = a := fun b =>
    ⟨fun ⟨i, h⟩ => (oAt h).2, fun e => ⟨0, ⟨_, rfl, rfl⟩, by rw [e]; rfl⟩⟩
  have kA : Kp A H (Av ⟨fun b => A b ∧ b ≠ a, a⟩ (.mu c :: (ds.map Slot.im ++ List.replicate n .no)) (some (.ref a) :: (vs.map some ++ List.replicate n none))) H := Kp.less fun b q => by
    rcases q with q | q
    · exact q.1
    · rw [(hO b).mp q]; exact ha
  refine ⟨⟨by simp [r.length], fun i d h => ?_, fun i d h => ?_, fun i d h => ?_, fun i j b h1 h2 => (oAt h1).1.trans (oAt h2).1.symm, fun b h => ⟨hA b h.1, fun z => h.2 ((hO b).mp z)⟩⟩, hO⟩
  · rcases cons_get h with ⟨_, e⟩ | ⟨j, rfl, hj⟩
    · cases e
    by_cases hi : j < ds.length
    · rw [List.getElem?_append_left (by simpa using hi), List.getElem?_map] at hj
      cases e : ds[j]? with
      | none => rw [e] at hj; cases hj
      | some d' =>
        rw [e] at hj
        cases hj
        obtain ⟨v, hv, rv⟩ := r.get e
        refine ⟨v, ?_, rv.kp kA⟩
        rw [List.getElem?_cons_succ, List.getElem?_append_left (by rw [List.length_map, r.length]; exact hi), List.getElem?_map, hv]
        rfl
    · rw [List.getElem?_append_right (by rw [List.length_map]; omega)] at hj
      have := List.mem_of_getElem? hj
      exact nomatch List.eq_of_mem_replicate this
  · rcases cons_get h with ⟨_, e⟩ | ⟨j, rfl, hj⟩
    · cases e
    · have := sl hj
      cases this
  · rcases cons_get h with ⟨rfl, e⟩ | ⟨j, rfl, hj⟩
    · cases e
      exact ⟨rfl, ct.mono kA rfl⟩
    · have := sl hj
      cases this
variable {P : Program} {w : World} {K : PySem.W.Frag} {mg : Str → Option Value} {base : Heap}
theorem fn_F {x qual : Str} {st : Stmt} {f : Addr} {fd : FuncData} {N ps : List Str} {k : Nat} {rk : Kd} {body : SM} (F : Fun K x qual st f fd) (S : FnScope N ps (defScope st)) (hrk : rk ≠ .ln)
    (hb : ∀ (cdv : Value) (A : Around) (outer : List Env) (s : Shared) (H : Hp) (E : XK), Room k (A.deeper (envOfC qual (defScope st) s.heap.objs.size f cdv)) → JB (cxOf (L2.CX P w) P w K mg base N qual (defScope st) f cdv A outer s H E) (fun c d _ H => E c d H) rk (defBody st) body) :
    FnOk P w K mg base (L2.CX P w) (k + 1) f fd ps (spF ⟨K, mg⟩ ps.length rk (runF N.length rk body)) := by
  refine F.okX S (fun vs H Q E h => h.1) (fun cdv A outer s H vs Q E hr h => ⟨_, hb cdv A outer s H E hr, ?_⟩)
  obtain ⟨hl, A, ds, hA, rs, h⟩ := h
  have R := start_im (γ := ⟨A, 0⟩) (N.length - vs.length) rs hA
  refine ⟨⟨A, 0⟩, _, R, ?_⟩
  have nO : ∀ a, ¬ Own (ds.map Slot.im ++ List.replicate (N.length - vs.length) .no) (start N vs) a := fun a ⟨i, ⟨s, hs, ho⟩, _⟩ => by
    have hm := List.mem_of_getElem? hs
    rcases List.mem_append.mp hm with q | q
    · obtain ⟨d, _, e⟩ := List.mem_map.mp q
      subst e; cases ho
    · rw [List.eq_of_mem_replicate q] at ho; cases ho
  have e0 : N.length - vs.length = N.length - ds.length := by rw [rs.length]
  unfold runF at h
  rw [← e0] at h
  have same : ∀ {τ' : PS0} {σ' : L2.St} {H' : Hp}, Kp (Own (ds.map Slot.im ++ List.replicate (N.length - vs.length) .no) (start N vs)) H (Own τ' σ') H' → Same H H' := fun k a o e => (k a o e (nO a)).1
  cases eb : body (ds.map .im ++ List.replicate (N.length - vs.length) .no) with
  | stuck => rw [eb] at h; exact h.elim
  | nx τ' =>
    rw [eb] at h
    intro σ' H' R' k'
    cases rk with
    | im => exact h .non H' ⟨same k', .non⟩
    | ln => exact h.elim
    | fr => exact h.elim
  | exc n τ' =>
    rw [eb] at h
    exact fun σ' H' R' k' c hc => h H' (same k') c hc
  | ret d τ' =>
    rw [eb] at h
    intro σ' v H' P'
    refine h v H' ?_
    cases rk with
    | ln => exact absurd rfl hrk
    | im => exact ⟨same P'.2.1, P'.2.2.kp (Kp.less fun a z => .inl z)⟩
    | fr =>
      obtain ⟨p, rfl, R', np, k', c⟩ := P'
      refine ⟨fun a o e => (k' a o e (nO a)).1, p, rfl, ?_, c.mono (Kp.less fun a z => z.elim (fun y => .inl (.inl y)) fun y => .inl (.inr y)) rfl⟩
      cases e : H p with
      | none => rfl
      | some o => exact absurd (.inr rfl) (k' p o e (nO p)).2
theorem fn_U {x qual : Str} {st : Stmt} {f : Addr} {fd : FuncData} {N ps : List Str} {k : Nat} {rk : Kd} {body : SM} (F : Fun K x qual st f fd) (S : FnScope N ps (defScope st)) (hrk : rk ≠ .ln) (hN : 0 < N.length)
    (hb : ∀ (cdv : Value) (A : Around) (outer : List Env) (s : Shared) (H : Hp) (E : XK), Room k (A.deeper (envOfC qual (defScope st) s.heap.objs.size f cdv)) → JB (cxOf (L2.CX P w) P w K mg base N qual (defScope st) f cdv A outer s H E) (fun c d _ H => E c d H) rk (defBody st) body) :
    FnOk P w K mg base (L2.CX P w) (k + 1) f fd ps (spU ⟨K, mg⟩ ps.length rk (runU N.length rk body)) := by
  refine F.okX S (fun vs H Q E h => h.1) (fun cdv A outer s H vs Q E hr h => ⟨_, hb cdv A outer s H E hr, ?_⟩)
  obtain ⟨hl, A, a, ws, c, ds, rfl, ha, hA, ct, rs, h⟩ := h
  obtain ⟨R, hO⟩ := start_mu (N.length - (ws.length + 1)) rs hA ha ct
  have e1 : start N (.ref a :: ws) = some (.ref a) :: (ws.map some ++ List.replicate (N.length - (ws.length + 1)) none) := rfl
  rw [e1]
  refine ⟨_, _, R, ?_⟩
  have e0 : N.length - (ws.length + 1) = N.length - (ds.length + 1) := by rw [rs.length]
  unfold runU at h
  simp only [] at h
  rw [← e0] at h
  have keep : ∀ {O' : Addr → Prop} {H' : Hp}, Kp (Own (.mu c :: (ds.map Slot.im ++ List.replicate (N.length - (ws.length + 1)) .no)) (some (.ref a) :: (ws.map some ++ List.replicate (N.length - (ws.length + 1)) none))) H O' H' → ∀ b u, b ≠ a → H b = some u → H' b = some u := fun k b u hb e => (k b u e fun z => hb ((hO b).mp z)).1
  have less : ∀ {τ' : PS0} {σ' : L2.St} {γ' : G} {H' : Hp} {o : D}, Rel ⟨K, mg⟩ γ' τ' σ' H' → τ'[0]? = some (.mu o) → γ'.M = a → (∀ b, A b → b ≠ a → γ'.P b) → ∀ b, A b → Av γ' τ' σ' b := fun {τ' σ' γ' H' o} R' e0 hM hP b hb => by
    by_cases q : b = a
    · subst q
      obtain ⟨e2, _⟩ := R'.mu 0 o e0
      rw [hM] at e2
      exact .inr ⟨0, ⟨_, e0, rfl⟩, e2⟩
    · exact .inl (hP b hb q)
  cases eb : body (.mu c :: (ds.map .im ++ List.replicate (N.length - (ws.length + 1)) .no)) with
  | stuck => rw [eb] at h; exact h.elim
  | nx τ' =>
    rw [eb] at h
    intro σ' H' R' k'
    cases rk with
    | ln => exact h.elim
    | fr => exact h.elim
    | im =>
      simp only [if_true] at h
      cases eo : muP τ' with
      | none => rw [eo] at h; exact h.elim
      | some o =>
        rw [eo] at h
        have e2 := muP_at eo
        obtain ⟨e3, ct3⟩ := R'.mu 0 _ e2
        exact h .non H' ⟨keep k', .non, ct3.mono (Kp.less fun b z => less R' e2 rfl (fun b hb hn => ⟨hb, hn⟩) b z) rfl⟩
  | exc n τ' =>
    rw [eb] at h
    intro σ' H' R' k' cc hc
    simp only [] at h
    cases eo : muP τ' with
    | none => rw [eo] at h; exact h.elim
    | some o =>
      rw [eo] at h
      have e2 := muP_at eo
      obtain ⟨e3, ct3⟩ := R'.mu 0 _ e2
      exact h H' (keep k') (ct3.mono (Kp.less fun b z => less R' e2 rfl (fun b hb hn => ⟨hb, hn⟩) b z) rfl) cc hc
  | ret d τ' =>
    rw [eb] at h
    intro σ' v H' P'
    simp only [] at h
    cases eo : muP τ' with
    | none => rw [eo] at h; exact h.elim
    | some o =>
      rw [eo] at h
      have e2 := muP_at eo
      cases rk with
      | ln => exact absurd rfl hrk
      | im =>
        obtain ⟨R', k', r'⟩ := P'
        obtain ⟨e3, ct3⟩ := R'.mu 0 _ e2
        have lz : Kp (Av _ τ' σ') H' A H' := Kp.less fun b z => less R' e2 rfl (fun b hb hn => ⟨hb, hn⟩) b z
        exact h v H' ⟨keep k', r'.kp lz, ct3.mono lz rfl⟩
      | fr =>
        obtain ⟨p, rfl, R', np, k', c'⟩ := P'
        obtain ⟨e3, ct3⟩ := R'.mu 0 _ e2
        have lz : ∀ b, (A b ∨ b = p) → Av (G.with _ p) τ' σ' b := fun b z => z.elim (fun y => less R' e2 rfl (fun b hb hn => .inl ⟨hb, hn⟩) b y) fun y => .inl (.inr y)
        refine h _ H' ⟨keep k', p, rfl, ?_, c'.mono (Kp.less lz) rfl, ct3.mono (Kp.less lz) rfl⟩
        cases e : H p with
        | none => rfl
        | some u =>
          by_cases hp : p = a
          · exfalso
            refine (R'.pal p (.inr rfl)).2 ⟨0, ⟨_, e2, rfl⟩, ?_⟩
            rw [hp]; exact e3
          · exact absurd (.inr rfl) (k' p u e fun z => hp ((hO p).mp z)).2
end
end PL

namespace PL
open PySem PySem.Spec PyProof.Rows L2

section
variable {X : Cx} {W : WX} {g : Gc} {τ τ' : PS0} {σ σ' : L2.St} {H H' : Hp} {A : Addr → Prop} {k k1 k2 k3 kr rk : Kd} {m m1 m2 m3 : Bool} {e a b c : Expr} {es : List Expr} {f fa fb fc : M D} {pos : Pos}
/-! ### text * int, list * int -/
def repD {α : Type} (n : Nat) (s : List α) : List α := (List.replicate n s).flatten
theorem foldl_app {α : Type} : ∀ (n : Nat) (s : List α) (acc : List α), (List.replicate n s.toArray).foldl (· ++ ·) acc.toArray = (acc ++ (List.replicate n s).flatten).toArray
  | 0, s, acc => by simp
  | n + 1, s, acc => by
    rw [List.replicate_succ, List.foldl_cons, List.replicate_succ, List.flatten_cons]
    have : acc.toArray ++ s.toArray = (acc ++ s).toArray := by simp
    rw [this, foldl_app n s (acc ++ s), List.append_assoc]
def rMulS : R2 := fun x y H Q => ∃ (s : List Nat) (n : Int), x = .str (S s) ∧ y = .int n ∧ -(2 ^ 31) < n ∧ n < 2 ^ 31 ∧ s.length * n.toNat ≤ 16777216 ∧ Q (.str (S (repD n.toNat s))) H
theorem op_mulS : OpR X (binaryOp .Mult) rMulS := by
  intro pins st σ H x y v u Q I rx ry h
  obtain ⟨s, n, rfl, rfl, h1, h2, h3, q⟩ := h
  obtain ⟨t, rfl⟩ := rx
  obtain ⟨t', rfl⟩ := ry
  have hl : (S s).length = s.length := S_len s
  refine PySem.P.mul_str ?_ (fun hn _ => ?_) (fun hn _ => ?_) ?_
  · have a1 : ¬ n < -(2 ^ 63 : Int) := by omega
    have a2 : ¬ n ≥ 2 ^ 63 := by omega
    rw [decide_eq_false a1, decide_eq_false a2]; rfl
  · rw [hl]
    have hn1 : 1 ≤ n := by omega
    have hb : (s.length : Int) * n ≤ 16777216 := by
      have : (s.length : Int) * n = ((s.length * n.toNat : Nat) : Int) := by
        rw [Int.natCast_mul, Int.toNat_of_nonneg (by omega)]
      rw [this]; omega
    have hs : (s.length : Int) ≤ 16777216 := Int.le_trans (by
      have := Int.mul_le_mul_of_nonneg_left hn1 (Int.natCast_nonneg s.length)
      omega) hb
    have : (16777216 : Int) ≤ (2 ^ 63 - 1) / n := by
      rw [Int.le_ediv_iff_mul_le (by omega)]
      omega
    omega
  · rw [hl]
    unfold Builtin.Str.tooLong
    simp only [decide_eq_false_iff_not]
    rw [sizeLine_eq]
    omega
  · by_cases hn : n < 1
    · rw [if_pos hn]
      have e : repD n.toNat s = [] := by
        have : n.toNat = 0 := by omega
        rw [this]; rfl
      rw [e] at q
      exact ⟨by decide, .str (S []), H, I.tok _, ⟨_, rfl⟩, q⟩
    · rw [if_neg hn]
      by_cases hc : (n == 1 || (S s).length == 0) = true
      · rw [if_pos hc]
        have e : repD n.toNat s = s := by
          rw [Bool.or_eq_true, beq_iff_eq, beq_iff_eq, hl] at hc
          rcases hc with hc | hc
          · subst hc
            show (List.replicate 1 s).flatten = s
            simp
          · have : s = [] := List.length_eq_zero_iff.mp hc
            subst this
            unfold repD
            simp
        rw [e] at q
        exact ⟨.str (S s), H, I, ⟨t, rfl⟩, q⟩
      · rw [if_neg hc]
        have e : (List.replicate n.toNat (S s).cps).foldl (· ++ ·) #[] = (S (repD n.toNat s)).cps := by
          have := foldl_app n.toNat s []
          exact this
        rw [e]
        refine ⟨?_, .str (S (repD n.toNat s)), H, I.tok _, ⟨_, rfl⟩, q⟩
        show (S (repD n.toNat s)).length ≤ sizeLine
        rw [S_len, sizeLine_eq]
        unfold repD
        rw [List.length_flatten, List.map_replicate, List.sum_replicate_nat]
        rw [Nat.mul_comm]
        exact h3
def oMulA : D → D → Option D
  | .int i, .int j => if i.natAbs.log2 + j.natAbs.log2 < 1000000 then some (.int (i * j)) else none
  | .str s, .int n => if -(2 ^ 31) < n ∧ n < 2 ^ 31 ∧ s.length * n.toNat ≤ 16777216 then some (.str (repD n.toNat s)) else none
  | .lst xs, .int n => if -(2 ^ 31) < n ∧ n < 2 ^ 31 ∧ xs.length * n.toNat ≤ 16777216 then some (.lst (repD n.toNat xs)) else none
  | _, _ => none
def rMulAll : R2 := r2or (rI CMulW fun i j => .int (i * j)) (r2or rMulS rRep)
theorem op_mulAll : OpR X (binaryOp .Mult) rMulAll := OpR.or' op_mulW (OpR.or' op_mulS op_rep)
theorem RepA.rep {vs : List V} {ds : List D} (r : RepA g H A vs ds) : ∀ n : Nat, RepA g H A (List.replicate n vs).flatten (repD n ds)
  | 0 => .nil
  | n + 1 => by
    unfold repD
    rw [List.replicate_succ, List.flatten_cons, List.replicate_succ, List.flatten_cons]
    exact r.append (r.rep n)
theorem o2_mulA : Op2 .im g rMulAll oMulA := fun H A x y d e z Q hA rx ry ho q => by
  unfold oMulA at ho
  split at ho
  · split at ho
    · rename_i hz
      cases ho
      rw [rx.int, ry.int]
      exact .inl ⟨_, _, rfl, rfl, hz, q _ _ (out_flat fun _ _ => .int _)⟩
    · cases ho
  · split at ho
    · rename_i hz
      cases ho
      rw [rx.str, ry.int]
      exact .inr (.inl ⟨_, _, rfl, rfl, hz.1, hz.2.1, hz.2.2, q _ _ (out_flat fun _ _ => .str _)⟩)
    · cases ho
  · split at ho
    · rename_i hz
      cases ho
      obtain ⟨a, vs, rfl, ha, ra⟩ := rx.lst
      rw [ry.int]
      exact .inr (.inr ⟨a, _, vs, rfl, rfl, ha, by omega, by omega, by rw [ra.length, sizeLine_eq]; exact hz.2.2, fun p hp => q _ _ (out_lst (by decide) hA (ra.rep _) hp)⟩)
    · cases ho
  · cases ho
/-! ### is True -/
def oIs : D → D → Option D
  | .bl a, .bl b => some (.bl (decide (a = b)))
  | _, _ => none
def oIsNot : D → D → Option D
  | .bl a, .bl b => some (.bl (!decide (a = b)))
  | _, _ => none
theorem o2_is : Op2 .im g rIsB oIs := fun H A x y d e z Q hA rx ry ho q => by
  unfold oIs at ho
  split at ho
  · cases ho
    rw [rx.bl, ry.bl]
    exact ⟨_, _, rfl, rfl, q _ _ (out_flat fun _ _ => .bl _)⟩
  · cases ho
theorem o2_isNot : Op2 .im g rNotB oIsNot := fun H A x y d e z Q hA rx ry ho q => by
  unfold oIsNot at ho
  split at ho
  · cases ho
    rw [rx.bl, ry.bl]
    exact ⟨_, _, rfl, rfl, q _ _ (out_flat fun _ _ => .bl _)⟩
  · cases ho
/-! ### -x -/
def oNeg : D → Option D
  | .int i => some (.int (-i))
  | _ => none
theorem je_neg (h : JE X W k m a f) : JE X W .im m (.UnaryOp .USub a pos) (op1 oNeg f) := (pe_un un_neg h).weak fun σ H Q ⟨γ, τ, R, h⟩ => by
  unfold op1 at h
  rw [fit_bind] at h
  refine ⟨γ, τ, R, h.mono (fun d τ1 h v H1 s1 P1 => ?_) fun _ _ q => q⟩
  obtain ⟨z, ez, h⟩ := fit_lift.mp h
  obtain ⟨R1, kp1, v1⟩ := P1.val
  unfold oNeg at ez
  split at ez
  · cases ez
    rw [v1.l.int]
    exact ⟨_, rfl, h _ H1 s1 ⟨R1, kp1, .int _⟩⟩
  · cases ez
/-! ### what the module holds -/
structure GC (g : Gc) (x : Str) (d : D) : Prop where
  ex : ∃ (u : Value) (v : V), g.mg x = some u ∧ RelV v u ∧ ∀ H A, Rep g H A v d
theorem je_glob {x : Str} {d : D} (h : GC X.g x d) (hg : Gl X x := by rfl) (hd : (x == ("__debug__" : Str)) = false := by decide) : JE X W .im false (.Name x pos) (ret d) := by
  obtain ⟨u, v, hm, r, rp⟩ := h.ex
  exact je_c (pe_glob hg hm r hd) rp
/-! ### short words -/
theorem u65 {A : Around} {k : Nat} (r : Room k A) : A.units + 65 < cLine := by have := r.un; omega
/-- a def that is proved: where it stands, how it is called, what it promises -/
structure Kn (P : Program) (w : World) (K : PySem.W.Frag) (mg : Str → Option Value) (base : Heap) (x : Str) (ps : List Str) (f : Addr) (fd : FuncData) (k : Nat) (sp : Sp) : Prop where
  g : mg x = some (.ref f)
  kp : PySem.W.keepIn K (.ref f) = true
  b : Binds K fd ps []
  ok : FnOk P w K mg base (L2.CX P w) k f fd ps sp
/-- .. as the head gives it -/
structure FnT (K : PySem.W.Frag) (mg : Str → Option Value) (x : Str) (st : Stmt) (ps : List Str) (f : Addr) (fd : FuncData) : Prop where
  F : Fun K x x st f fd
  b : Binds K fd ps []
  g : mg x = some (.ref f)
end
end PL

namespace PL
open PySem PySem.Spec PyProof.Rows L2

section
variable {X : Cx} {W : WX} {g : Gc} {τ τ' : PS0} {σ σ' : L2.St} {H H' : Hp} {A : Addr → Prop} {k k1 k2 k3 kr rk : Kd} {m m1 m2 m3 : Bool} {e a b c : Expr} {es : List Expr} {f fa fb fc : M D} {pos : Pos}
def call0 (mf : List D → DR) : M D := fun τ => match mf [] with
  | .ret d _ => .ok d τ
  | _ => .stuck
/-! ### list(text) -/
def rListS : List V → Hp → VK → Prop := fun xs H Q => ∃ s : List Nat, xs = [.str (S s)] ∧ s.length ≤ 16777216 ∧ ∀ p, H p = none → Q (.ref p) (upd H p (.lst (s.map fun c => V.str (S [c]))))
theorem call_listS (hc : X.calm = true) : CallR X (.type "list") rListS := by
  intro pins st σ H xs us Q I r h
  obtain ⟨s, rfl, hz, q⟩ := h
  obtain ⟨u, rfl, ru⟩ := vals1 r
  obtain ⟨t, rfl⟩ := ru
  have hsz : (S s).cps.size = s.length := S_len s
  refine call_list_str (I.ok.hd hc) (S s) t (hn := by rw [hsz, sizeLine_eq]; exact hz) fun h' tk acc' c' hk hS' hacc => ?_
  have hv : Vals (s.map fun c => V.str (S [c])) acc'.toList := by
    refine vals_of_get (by rw [List.length_map, Array.length_toList]; exact hsz.symm.trans hacc.1.symm) fun i v u e1 e2 => ?_
    rw [List.getElem?_map] at e1
    cases e : s[i]? with
    | none => rw [e] at e1; cases e1
    | some c =>
      rw [e] at e1
      cases e1
      obtain ⟨c2, u2, hc2, rfl⟩ := hacc.2 i u (by simpa using e2)
      have : (S s).cps[i]? = s[i]? := by simp [S]
      rw [this, e] at hc2
      cases hc2
      exact ⟨u2, rfl⟩
  refine ⟨.ref st.heap.objs.size, _, I.laid (t' := tk) (o := .lst (s.map fun c => V.str (S [c]))) hk (Nat.le_refl _) ?_, rfl, q _ (I.hok.fresh (Nat.le_refl _))⟩
  exact ⟨by rw [List.length_map, sizeLine_eq]; exact hz, acc'.toList, c', hv, hS'⟩
where vals_of_get : ∀ {vs : List V} {us : List Value}, vs.length = us.length → (∀ i v u, vs[i]? = some v → us[i]? = some u → RelV v u) → Vals vs us
  | [], [], _, _ => .nil
  | v :: vs, u :: us, hl, h => .cons (h 0 v u rfl rfl) (vals_of_get (by simpa using hl) fun i v u e1 e2 => h (i + 1) v u (by simpa using e1) (by simpa using e2))
  | [], _ :: _, hl, _ => by simp at hl
  | _ :: _, [], hl, _ => by simp at hl
def oListA : D → Option D
  | .lst xs => some (.lst xs)
  | .fz xs => some (.lst xs)
  | .tup xs => some (.lst xs)
  | .str s => if s.length ≤ 16777216 then some (.lst (s.map fun c => .str [c])) else none
  | _ => none
def rListA (K : PySem.W.Frag) : List V → Hp → VK → Prop := cror (fun xs H Q => ∃ p ys, xs = [.ref p] ∧ (SqL K H p ys ∨ SqT K H p ys) ∧ ∀ l, H l = none → Q (.ref l) (upd H l (.lst ys))) rListS
theorem call_listA (hc : X.calm = true := by rfl) : CallR X (.type "list") (rListA X.K) := CallR.or' call_list_of (call_listS hc)
theorem fn_listA {k : Kd} (hk : k ≠ .ln) : Fn1 k g (rListA g.K) oListA := fun H A x d z Q hA rx ho q => by
  unfold oListA at ho
  split at ho
  · exact .inl (fn_list hk H A x _ z Q hA rx ho q)
  · exact .inl (fn_list hk H A x _ z Q hA rx ho q)
  · exact .inl (fn_list hk H A x _ z Q hA rx ho q)
  · split at ho
    · rename_i s hz
      cases ho
      refine .inr ⟨s, by rw [rx.str], hz, fun p hp => q _ _ (out_lst hk hA ?_ hp)⟩
      have : ∀ s : List Nat, RepA g H A (s.map fun c => V.str (S [c])) (s.map fun c => D.str [c]) := by
        intro s
        induction s with
        | nil => exact .nil
        | cons c s ih => exact .cons (.str [c]) ih
      exact this s
    · cases ho
  · cases ho

/-! ### enumerate(text) -/
def Ites (x : Str) : It := ⟨fun i _ => i < x.cps.size, fun i H v H' => ∃ T c, v = .ref T ∧ H T = none ∧ x.cps[i]? = some c ∧ H' = upd H T (.tup [.int (i : Nat), .str ⟨#[c]⟩]), fun i _ => x.cps.size ≤ i⟩
theorem turn_enumS {P : Program} {w : World} {K : PySem.W.Frag} {elts : List Expr} {kk : Nat} {tpos : Pos} (e it : Addr) (x : Str) (t : Tok) (ty : String) (hty : ty = "str_ascii_iterator" ∨ ty = "str_iterator") :
    Turn P w K (.Tuple elts kk tpos) (Ites x) [e, it] e (fun i h => (∃ old, IsEnum h e it ((i : Nat) : Int) old) ∧ h.IsStrIter it ty x t i ∧ e ≠ it ∧ i ≤ x.cps.size) where
  mem := by simp
  obj := fun i h st b hb => by
    obtain ⟨⟨old, he⟩, ⟨o, ho, hc, hd⟩, _⟩ := st
    have e' : b = e ∨ b = it := by simpa using hb
    rcases e' with z | z
    · rw [z]; exact ⟨_, he, fun v q => nomatch q⟩
    · rw [z]; exact ⟨o, ho, fun v q => by rw [hd] at q; cases q⟩
  keep := fun i h h' st k => let ⟨⟨old, he⟩, ⟨o, ho, r⟩, hne⟩ := st; ⟨⟨old, k e (by simp) _ he⟩, ⟨o, k it (by simp) o ho, r⟩, hne⟩
  item := by
    intro X hP hw hK hc i pins s σ H E I hf st hg
    subst hP hw hK
    obtain ⟨⟨old, he⟩, hit, hne, hle⟩ := st
    have hel : e < s.heap.objs.size := Heap.lt_size he
    have hil : it < s.heap.objs.size := by obtain ⟨_, q, _⟩ := hit; exact Heap.lt_size q
    have Dr : Draws X.prog X.w X.A.in1 it [it] x.cps.size (fun i v => ∃ c u, x.cps[i]? = some c ∧ v = .str ⟨#[c]⟩ u) (fun i h => h.IsStrIter it ty x t i) := by
      rcases hty with z | z
      · rw [z]; exact Draws.strAscii (show X.A.in1.handled = none from I.ok.hd hc) it x t
      · rw [z]; exact Draws.strWide (show X.A.in1.handled = none from I.ok.hd hc) it x t
    refine wpAny_pyNext_enum_itemD Dr he hit hg hne (by simp [hne]) fun xv h' tk hP' ho hit' hT hsz hk => ?_
    obtain ⟨c, u, hcx, rfl⟩ := hP'
    refine ⟨_, rfl, wpAny_letOwnedTupleGo_enum (s := { s with heap := h', toks := tk + 1 }) ho fun h'' he' sb => ?_⟩
    have hT2 : h''.get? s.heap.objs.size = some { cls := .type "tuple", data := .seq #[.int i tk, .str ⟨#[c]⟩ u] } := (sb.2 _ (Nat.ne_of_gt hel)).trans hT
    have new : ObjOk X.prog X.w (upd H s.heap.objs.size (.tup [.int (i : Nat), .str ⟨#[c]⟩])) h'' s.heap.objs.size (.tup [.int (i : Nat), .str ⟨#[c]⟩]) :=
      ⟨by show 2 ≤ sizeLine; decide, [.int i tk, .str ⟨#[c]⟩ u], .cons ⟨_, rfl⟩ (.cons ⟨_, rfl⟩ .nil), ⟨_, hT2, rfl, _, rfl⟩⟩
    have I1 : Inv X pins σ (upd H s.heap.objs.size (.tup [.int (i : Nat), .str ⟨#[c]⟩])) { s with heap := h'', toks := tk + 1 } :=
      I.turnedNew (ch := [e, it]) (fun b ob hb q => (sb.2 b (fun z => hb (by simp [z]))).trans (hk b ob (fun z => hb (by simp [z])) (fun z => hb (by simp [z])) q)) hf (Nat.le_refl _) new
    refine ⟨.ref s.heap.objs.size, _, I1, rfl, ⟨_, c, rfl, I.hok.fresh (Nat.le_refl _), hcx, rfl⟩, ⟨⟨.str ⟨#[c]⟩ u, ?_⟩, ?_, hne, hg⟩, fun b hb => ?_⟩
    · have e1 : ((i + 1 : Nat) : Int) = (i : Int) + 1 := by omega
      rw [e1]; exact he'
    · obtain ⟨o, ho2, r⟩ := hit'
      exact ⟨o, (sb.2 it (Ne.symm hne)).trans ho2, r⟩
    · have hb' : b < s.heap.objs.size := by
        have e' : b = e ∨ b = it := by simpa using hb
        rcases e' with z | z
        · rw [z]; exact hel
        · rw [z]; exact hil
      rw [upd_ne (Nat.ne_of_lt hb')]
      exact (hf b hb).1
  done := by
    intro X hP hw hK hc i pins s σ H E I hf st hg
    subst hP hw hK
    obtain ⟨⟨old, he⟩, hit, hne, hle⟩ := st
    obtain ⟨f0, f1, f2, f3, f4, f5⟩ := hf it (by simp)
    have Dr : Draws X.prog X.w X.A.in1 it [it] x.cps.size (fun i v => ∃ c u, x.cps[i]? = some c ∧ v = .str ⟨#[c]⟩ u) (fun i h => h.IsStrIter it ty x t i) := by
      rcases hty with z | z
      · rw [z]; exact Draws.strAscii (show X.A.in1.handled = none from I.ok.hd hc) it x t
      · rw [z]; exact Draws.strWide (show X.A.in1.handled = none from I.ok.hd hc) it x t
    have hi : i = x.cps.size := Nat.le_antisymm hle hg
    exact wpAny_pyNext_enum_endD Dr he (hi ▸ hit) fun h' eb => ⟨rfl, I.turned (t' := s.toks) (fun b o hb q => eb b o hb q) f0 f1 f3 f4 f5⟩
  self := fun A i s Q E st h => let ⟨⟨_, he⟩, _⟩ := st; wpAny_pyIter_enum he h
def iEnumA (K : PySem.W.Frag) (ta : TA) : TI := fun σ H R => ta σ H fun vs H1 => (∃ a xs, vs = [.ref a] ∧ SqL K H1 a xs ∧ R (Ite K a) H1) ∨ ∃ x, vs = [.str x] ∧ R (Ites x) H1
theorem pi_enumA {X : Cx} {e : Expr} {ta : TA} {p pos tpos : Pos} {elts : List Expr} {kk : Nat} (hg : Gl X "enumerate") (hm : X.mg "enumerate" = none) (ha : PA X [e] ta) (hs : starEach [e] X.env = [(false, eval e X.env)] := by rfl) :
    PI X (.Tuple elts kk tpos) (.Call (.Name "enumerate" p) [e] [] pos) (iEnumA X.K ta) := by
  refine ⟨fun pins s σ H R I h => ?_⟩
  refine Call_ (ld_blt I hg hm boot_enumerate (PyProof.Rows.callWith_type1 (thn (ha.run pos pins s σ H _ I h) fun us s1 ⟨vs, H1, I1, r1, q1⟩ => ?_) hs rfl))
  rcases q1 with ⟨a, xs, ex, hq, q⟩ | ⟨x, ex, q⟩
  · subst ex
    cases r1 with
    | cons r rr =>
      cases rr
      cases r
      obtain ⟨its, rv, p', hz⟩ := I1.list hq
      refine call_enumerate_list p'.isList fun h' he hit hsz hk => wpAny_pyIter_enum he ?_
      have I2 : L2.Inv X pins σ H1 { s1 with heap := h' } := I1.kept (t' := s1.toks) hk
      refine ⟨s1.heap.objs.size + 1, [s1.heap.objs.size + 1, s1.heap.objs.size], _, _, H1, rfl, I2, turn_enum a (s1.heap.objs.size + 1) s1.heap.objs.size, ⟨⟨.none, he⟩, hit, Nat.succ_ne_self _⟩, fun b hb => ?_, q⟩
      have e' : b = s1.heap.objs.size + 1 ∨ b = s1.heap.objs.size := by simpa using hb
      have hle : s1.heap.objs.size ≤ b := by
        rcases e' with z | z
        · rw [z]; exact Nat.le_add_right _ _
        · rw [z]; exact Nat.le_refl _
      exact I1.fpOk hle (I1.hok.fresh hle)
  · subst ex
    obtain ⟨u, rfl, ru⟩ := vals1 r1
    obtain ⟨t, rfl⟩ := ru
    refine call_enumerate_str fun h' he hit hsz hk => wpAny_pyIter_enum he ?_
    have I2 : L2.Inv X pins σ H1 { s1 with heap := h' } := I1.kept (t' := s1.toks) hk
    have hty : strIterType x = "str_ascii_iterator" ∨ strIterType x = "str_iterator" := by
      unfold strIterType
      split
      · exact .inl rfl
      · exact .inr rfl
    refine ⟨s1.heap.objs.size + 1, [s1.heap.objs.size + 1, s1.heap.objs.size], _, _, H1, rfl, I2, turn_enumS (s1.heap.objs.size + 1) s1.heap.objs.size x t (strIterType x) hty, ⟨⟨.none, he⟩, hit, Nat.succ_ne_self _, Nat.zero_le _⟩, fun b hb => ?_, q⟩
    have e' : b = s1.heap.objs.size + 1 ∨ b = s1.heap.objs.size := by simpa using hb
    have hle : s1.heap.objs.size ≤ b := by
      rcases e' with z | z
      · rw [z]; exact Nat.le_add_right _ _
      · rw [z]; exact Nat.le_refl _
    exact I1.fpOk hle (I1.hok.fresh hle)
def oEnumA : D → Option (List D)
  | .lst xs => some (enumD 0 xs)
  | .fz xs => some (enumD 0 xs)
  | .str s => some (enumD 0 (s.map fun c => .str [c]))
  | _ => none
def enumA (f : M D) : M (List D) := andThen f fun d => lift (oEnumA d)
theorem good_enumS {s : List Nat} : ItGood g (Ites (S s)) (fun _ _ => True) (enumD 0 (s.map fun c => D.str [c])) := fun i H A _ hA => by
  have hsz : (S s).cps.size = s.length := S_len s
  have hget : ∀ i : Nat, (S s).cps[i]? = s[i]? := fun i => by simp [S]
  refine ⟨fun d hd => ?_, fun hl => by show (S s).cps.size ≤ i; rw [hsz]; simpa [enumD_len] using hl⟩
  rw [enumD_get] at hd
  cases e : s[i]? with
  | none => rw [List.getElem?_map, e] at hd; cases hd
  | some c =>
    rw [List.getElem?_map, e] at hd
    cases hd
    refine ⟨?_, fun x H' y => ?_⟩
    · show i < (S s).cps.size
      rw [hsz]
      exact (List.getElem?_eq_some_iff.mp e).1
    · obtain ⟨T, c', rfl, hT, hc', rfl⟩ := y
      rw [hget, e] at hc'
      cases hc'
      rw [Nat.zero_add]
      exact new_pair (fun a h => (hA a h).ex) hT (.cons (.int _) (.cons (.str [c]) .nil))
theorem ji_enum {p tpos : Pos} {elts : List Expr} {kk : Nat} (hg : Gl X "enumerate") (hm : X.mg "enumerate" = none) (ha : JE X W .im m a fa) (hs : starEach [a] X.env = [(false, eval a X.env)] := by rfl) : JI X W m (.Tuple elts kk tpos) (.Call (.Name "enumerate" p) [a] [] pos) (enumA fa) :=
  PI.weak (pi_enumA hg hm (pa_cons ha pa_nil hs) hs) fun σ H R ⟨γ, τ, Re, h⟩ => by
    unfold enumA at h
    rw [fit_bind] at h
    refine ⟨γ, τ, Re, h.mono (fun d τ1 h v H1 s1 P1 => ?_) fun _ _ q => q⟩
    obtain ⟨ds, ed, h⟩ := fit_lift.mp h
    obtain ⟨R1, kp1, r1⟩ := P1
    unfold oEnumA at ed
    split at ed
    · cases ed
      cases r1 with
      | lst ha n ra => exact .inl ⟨_, _, rfl, .inl (.inl ha), h _ H1 _ s1 R1 kp1 ⟨_, .inl ⟨ha, n⟩, ra⟩ lasts_list good_enum⟩
    · cases ed
      cases r1 with
      | fz ha ra => exact .inl ⟨_, _, rfl, ha.sq, h _ H1 _ s1 R1 kp1 ⟨_, .inr ha, ra⟩ lasts_list good_enum⟩
    · cases ed
      cases r1 with
      | str s => exact .inr ⟨_, rfl, h _ H1 _ s1 R1 kp1 trivial (fun _ _ _ _ _ _ => trivial) good_enumS⟩
    · cases ed
end
end PL

namespace PL
open PySem PySem.Spec PyProof.Rows L2

section
variable {P : Program} {w : World} {K : PySem.W.Frag} {mg : Str → Option Value} {base h : Heap}
/-! ### the end of a law -/
def spLaw (K : PySem.W.Frag) : Sp := fun vs H Q _ => ∃ (a : Addr) (ns : List Int), vs = [.ref a] ∧ SqL K H a (ns.map V.int) ∧ ns.length ≤ 63 ∧ Only H ∧ ∀ H', Q (.bl true) H'
theorem repA_ints {g : Gc} {H : Hp} {A : Addr → Prop} : ∀ ns : List Int, RepA g H A (ns.map V.int) (ns.map D.int)
  | [] => .nil
  | n :: ns => .cons (.int n) (repA_ints ns)
theorem law_imp {k : Nat} {f : Addr} {fd : FuncData} {m : List D → DR} (F : FnOk P w K mg base (L2.CX P w) k f fd ["script"] (spF ⟨K, mg⟩ 1 .im m)) (h : ∀ ns : List Int, ns.length ≤ 63 → m [.fz (ns.map .int)] = .ret (.bl true) .non) :
    FnOk P w K mg base (L2.CX P w) k f fd ["script"] (spLaw K) := F.imp fun vs H Q E q => by
  obtain ⟨a, ns, rfl, hS, hl, hO, q⟩ := q
  have hf : AtF ⟨K, mg⟩ H (fun _ => False) a (ns.map V.int) := by
    rcases hS with (z | z) | z
    · rcases hO a with y | ⟨o, xs, y⟩
      · rw [y] at z; cases z
      · rw [y] at z; cases z
    · obtain ⟨o, z⟩ := z
      exact .inl ⟨o, z, fun z => z⟩
    · exact .inr (.inr z)
  refine ⟨rfl, fun _ => False, [.fz (ns.map .int)], fun _ z => z.elim, .cons (.fz hf (repA_ints ns)) .nil, ?_⟩
  rw [h ns hl]
  intro v H' o
  have := o.2
  cases this
  exact q H'
/-! ### constants of the module -/
theorem gc_str {x : Str} {l : List Nat} {t : Tok} (m : mg x = some (.str (S l) t)) : GC ⟨K, mg⟩ x (.str l) := ⟨_, .str (S l), m, ⟨_, rfl⟩, fun _ _ => .str l⟩
theorem gc_int {x : Str} {i : Int} {t : Tok} (m : mg x = some (.int i t)) : GC ⟨K, mg⟩ x (.int i) := ⟨_, .int i, m, ⟨_, rfl⟩, fun _ _ => .int i⟩
theorem gc_tup {x : Str} {c : Addr} {od : Option Addr} {its : Array Value} {n : Nat} {sl : Array (Option Value)} {vs : List V} {ds : List D} (m : mg x = some (.ref c)) (l : K.lookup c = some ⟨.type "tuple", od, .seq its n, sl⟩)
    (v : Vals vs its.toList) (hz : vs.length ≤ 1000) (rp : ∀ H A, RepA ⟨K, mg⟩ H A vs ds) : GC ⟨K, mg⟩ x (.mt ds) := by
  refine ⟨_, .ref c, m, rfl, fun H A => .mt (vs := vs) (.inr ⟨_, its, n, l, rfl, rfl, ?_, v⟩) (rp H A)⟩
  have e : its.size = vs.length := (L2.Vals.length v).symm
  rw [e, sizeLine_eq]
  exact Nat.le_trans hz (by decide)
theorem je_callN {X : Cx} {W : WX} {kr : Kd} {mf : List D → DR} {kk : Nat} {fa : Addr} {fd : FuncData} {ps : List Str} {x : Str} {p pos : Pos} (F : FnOk X.prog X.w X.K X.mg X.base (L2.CX X.prog X.w) kk fa fd ps (spF X.g 0 kr mf)) (hr : Room kk X.A) (hm : X.mg x = some (.ref fa)) (hk : PySem.W.keepIn X.K (.ref fa) = true)
    (hb : Binds X.K fd ps []) (hg : Gl X x := by rfl) (hkr : kr ≠ .ln := by decide) (hdb : (x == ("__debug__" : Str)) = false := by decide) : JE X W kr false (.Call (.Name x p) [] [] pos) (call0 mf) := je_call0 F hr hm hk hb hg hkr hdb
/-- a comprehension within one -/
def relS (scope sc : Scope) : Scope := { scope with names := scope.names.map fun (n, k) => if (k == .free && sc.kind == .function && sc.names.lookup n == some .cell) then (n, .cell) else (n, k) }
theorem blkOk_in {X : Cx} {N : List Str} {s : Shared} {H : Hp} {scope scope2 : Scope} {cl : List (Str × Addr)} {C : Addr} {env : Env} {fp : List Addr} {own : List (Str × Nat)} (sc : Scope) (e : env.scope = sc) (h : blkC N (relS scope sc) scope2 own = true) : BlkOk N (X.blk s H scope (compEnvC scope cl C env) fp).env.scope scope2 own := by
  subst e
  exact blkOk_by h
/-! ### own errors -/
structure Xc (K : PySem.W.Frag) (mg : Str → Option Value) (x : Str) (C : Addr) : Prop where
  q : PySem.W.excIn K C [.type "ValueError", .type "Exception", .type "BaseException", .type "object"] "ValueError.__new__" = true
  g : mg x = some (.ref C)
  k : PySem.W.keepIn K (.ref C) = true
  h1 : PySem.W.subIn K (.ref C) (.type "BaseException") = some true
  h2 : PySem.W.typeIn K (.ref C) = some (.type "type")
end
end PL

/-! PL17: a caught error that outlives its suite: it is tracked from the suite's start on. -/
namespace PL
open PySem PySem.Spec PyProof.Rows L2

section
variable {X : Cx} {pins : List (Addr × Obj)} {σ : L2.St} {H : Hp} {s : Shared}
/-- an object that is there, but was not tracked, is tracked -/
theorem trackI {a : Addr} {o : HO} {ob : Obj} {vs : Array Value} (I : L2.Inv X pins σ H s) (ha : s.heap.get? a = some ob) (hd : ob.data = .fields vs) (na : H a = none) (n0 : X.s_0.heap.get? a = none) (np : ∀ p ∈ X.pn ++ pins, p.1 ≠ a) (nL : a ≠ X.env.locals) (new : ObjOk X.prog X.w (upd H a o) s.heap a o) :
    L2.Inv X pins σ (upd H a o) s := by
  have ne : ∀ {b : Addr} {u : HO}, H b = some u → upd H a o b = some u := fun {b u} e => by
    rw [upd_ne (ne_of_none e na)]; exact e
  have bs := I.base
  refine { ok := I.ok, os := I.os, bare := I.bare, loc := I.loc, cell := I.cell, len := I.len, free := ?_, freeC := ?_, pin := ?_, hok := I.hok.laidN (fun _ _ e => e) na new, base := ?_ }
  · exact { keep := bs.keep, slot := bs.slot, there := bs.there,
            tups := fun b xs e => ne (bs.tups b xs e), frzs := fun b o u e => ne (bs.frzs b o u e),
            tbls := fun b ps e => let ⟨more, q⟩ := bs.tbls b ps e; ⟨more, ne q⟩,
            free := fun b u e n hx => by
              have hb : b ≠ a := fun z => by rw [z, n0] at e; cases e
              rw [upd_ne hb]
              exact bs.free b u e n hx }
  · rw [upd_ne nL.symm]; exact I.free
  · intro x c e
    obtain ⟨v, oc, hc, z⟩ := I.cell x c e
    have hb : c ≠ a := fun z' => by
      rw [z', ha] at hc
      cases hc
      rw [hd] at z
      cases z
    rw [upd_ne hb]; exact I.freeC x c e
  · intro p hp
    obtain ⟨e1, e2, e3⟩ := I.pin p hp
    exact ⟨e1, by rw [upd_ne (np p hp)]; exact e2, e3⟩
end

/-- behind a suite the name of its error is gone -/
def outOf (i : Nat) (Dn : Ends) : Ends := { nx := fun σ H => Dn.nx (σ.set i none) H, rt := Dn.rt, bk := fun σ H => Dn.bk (σ.set i none) H, ct := fun σ H => Dn.ct (σ.set i none) H }
/-- what the clause wishes of an error: it is of an own class, without a dict; the suite finds it tracked -/
def wKept (K : PySem.W.Frag) (c : Value) (i : Nat) (ts : TS) (Wout : WX) (Dn : Ends) : WX := fun cls d σ H =>
  ∃ b, PySem.W.exmOne K cls c = some b ∧ (b = false → Wout cls d σ H) ∧
    (b = true → ∃ C : Addr, cls = .ref C ∧ d = none ∧ ∀ a, H a = none → ts (outOf i Dn) (σ.set i (some (.ref a))) (upd H a (ExI C a)))
section
variable {X : Cx} {x n : Str} {c : Value} {i : Nat} {body suite : List Stmt} {st₀ : Stmt} {np pos pos' : Pos} {tb : WX → TS} {ts : TS} {Wout : WX}
theorem exI_ok {P : Program} {w : World} {H : Hp} {h : Heap} {a C : Addr} {oe : Obj} {vs : Array Value} (e : h.get? a = some oe) (z : Zc (.ref C) none oe) (d : oe.data = .fields vs) : ObjOk P w H h a (ExI C a) :=
  ⟨⟨oe, vs, e, z, d⟩, ⟨oe, e⟩, fun _ _ ⟨o, v, q, r⟩ k => ⟨o, v, k o q, r⟩⟩
/-- an error that has come down: what is known of its place -/
theorem ground {pins : List (Addr × Obj)} {σ : L2.St} {H : Hp} {B h' : Heap} {a : Addr} {Z : Obj → Prop} {sI s' : Shared} (hs : X.stack = X.env :: X.outer) (hf : X.env.frame = some X.env.locals) (hx0 : X.ex = [])
    (J : L2.Inv X pins σ H sI) (nb : ∀ b o, sI.heap.get? b = some o → b ∉ frs X.stack → B.get? b = some o) (up : sI.heap.UpToSlots h') (fl : HandSPX.FlyingZ B (X.env :: X.outer) a Z h') (os : s'.os = sI.os) (ag : AllBare s'.gens) :
    L2.Inv X pins σ H { s' with heap := h' } ∧ a ≠ X.env.locals ∧ a ∉ X.fs ∧ X.s_0.heap.get? a = none ∧ ∀ p ∈ X.pn ++ pins, p.1 ≠ a := by
  obtain ⟨oe, vs, he, hz, hd⟩ := fl.there
  have away : a ∉ frs (X.env :: X.outer) := fun hm => by
    obtain ⟨_, o', e', no⟩ := fl.2.2.1.mem hm
    have := he.symm.trans e'
    cases this
    exact no _ hd
  have newI : sI.heap.get? a = none := by
    cases e : sI.heap.get? a with
    | none => rfl
    | some o =>
      have := nb a o e (by rw [hs]; exact away)
      rw [fl.2.1] at this
      cases this
  refine ⟨J.landed nb fl.1 up os ag, fun z => away ?_, fun hm => away ?_, ?_, fun p hp z => ?_⟩
  · exact List.mem_filterMap.mpr ⟨X.env, List.mem_cons_self, by rw [hf, z]⟩
  · obtain ⟨e, he', q⟩ := List.mem_filterMap.mp hm
    exact List.mem_filterMap.mpr ⟨e, List.mem_cons_of_mem _ he', q⟩
  · cases e : X.s_0.heap.get? a with
    | none => rfl
    | some o =>
      obtain ⟨o', q⟩ := J.base.there a o e (by rw [hx0]; exact List.not_mem_nil)
      rw [newI] at q
      cases q
  · have := (J.pin p hp).1
    rw [z, newI] at this
    cases this
theorem to_suite {pins : List (Addr × Obj)} {σ : L2.St} {H : Hp} {s : Shared} (I : L2.Inv X pins σ H s) (a : Addr) : L2.Inv (X.suite a (X.pn ++ pins)) [] σ H s :=
  { ok := I.ok.suite _ _, os := I.os, bare := I.bare, base := I.base, loc := I.loc, cell := I.cell, free := I.free, freeC := I.freeC, hok := I.hok, len := I.len,
    pin := fun p hp => I.pin p (by rwa [List.append_nil] at hp) }
theorem off_suite {pins pn' : List (Addr × Obj)} {σ : L2.St} {H : Hp} {s : Shared} {a : Addr} (I : L2.Inv (X.suite a (X.pn ++ pins)) pn' σ H s) (ok : X.Ok) : L2.Inv X pins σ H s :=
  { ok := ok, os := I.os, bare := I.bare, base := I.base, loc := I.loc, cell := I.cell, free := I.free, freeC := I.freeC, hok := I.hok, len := I.len,
    pin := fun p hp => I.pin p (List.mem_append_left _ hp) }
theorem ps_kept (hs : X.stack = X.env :: X.outer) (hf : X.env.frame = some X.env.locals) (hx0 : X.ex = []) (nd : X.N.Nodup) (hi : X.N[i]? = some n) (hl : X.env.kindOf n = some .local) (hcl : Names X x c) (tk : Takes X Wout)
    (inBody : ∀ (W : WX) (pn : List (Addr × Obj)) (xe : Value → Shared → Prop), Takes (X.tr pn xe) W → PassesOwn (model X.prog X.w) X.A X.env xe → PSs (X.tr pn xe) body (tb W))
    (inSuite : ∀ (a : Addr) (pn : List (Addr × Obj)), PSs (X.suite a pn) (st₀ :: suite) ts) :
    PS X (.Try body [.ExceptHandler (some (.Name x np)) (some n) (st₀ :: suite) pos'] [] [] pos) (fun Dn σ H => tb (wKept X.K c i ts Wout Dn) Dn σ H) := by
  refine ⟨fun pins s σ H Dn I h => wpAny_Try_except ?_⟩
  have fr : X.A.frames = some (X.env :: X.outer) := by rw [I.ok.frames, hs]
  have caught : ∀ (u : Value) (s' : Shared), XE (X.tr (X.pn ++ pins) fun e s₁ => wpAny (model X.prog X.w) X.A (noteFrame e X.env) (fun _ s₂ => wpAny (model X.prog X.w) X.A (setFlight e none) (fun _ s₃ =>
      wpAny (model X.prog X.w) X.A (handleBy e X.env [.ExceptHandler (some (.Name x np)) (some n) (st₀ :: suite) pos']) (SP X pins Dn) X.xe s₃) X.xe s₂) X.xe s₁) (wKept X.K c i ts Wout Dn) u s' →
      wpAny (model X.prog X.w) X.A (noteFrame u X.env) (fun _ s₂ => wpAny (model X.prog X.w) X.A (setFlight u none) (fun _ s₃ =>
      wpAny (model X.prog X.w) X.A (handleBy u X.env [.ExceptHandler (some (.Name x np)) (some n) (st₀ :: suite) pos']) (SP X pins Dn) X.xe s₃) X.xe s₂) X.xe s' := by
    intro u s' q
    obtain ⟨a, B, sI, pins', σ', H', cls, d, eu, I', nb, up, sky, na, os, ag, b, ex, out, into⟩ := q
    subst eu
    have I0 := I'.ofTry I.ok
    rw [hs] at sky
    refine Sky.land Zc.steady fr hf sky fun h3 fl3 up3 => ?_
    obtain ⟨G3, nL, nF, _, _⟩ := ground hs hf hx0 I0 nb (up.trans up3) fl3 os ag
    obtain ⟨o3, v3, g3, z3, d3⟩ := fl3.there
    refine wpAny_handleBy_cons (codeAny_handlers_test ?_) (fun q => nomatch q)
    have ty : PySem.W.Looks (model X.prog X.w) h3 (typeOf (.ref a)) cls := fun A Q E s k q => wpAny_typeOf_ref (k _ _ g3) (by rw [z3.1]; exact q)
    have one := PySem.W.exm_one (M := model X.prog X.w) G3.kIn ty ex
    have P3 := G3.suite g3 d3 na nL nF
    have look : ∀ {Q : Value → Shared → Prop} {E : Value → Shared → Prop}, Q c { s' with heap := h3 } → wpAny (model X.prog X.w) (X.A.mark (some (.ref a))) (eval (.Name x np) X.env) Q E { s' with heap := h3 } := fun q => by
      obtain ⟨gx, db, m | ⟨m, bt, nn⟩⟩ := hcl
      · exact ld_glob P3 gx m q db
      · exact ld_blt P3 gx m bt q nn db
    refine look (one.here ?_)
    cases b with
    | false =>
      refine wpAny_handleBy_nil ?_
      obtain ⟨_, _, _, o, v, T, oT, t', ge, ze, de, f1, _⟩ := id fl3
      unfold PySem.passOn
      refine wpAny_bind (wpAny_field ge de f1 ?_)
      rw [if_neg (show ¬ ((Value.ref T == Value.none) = true) from by simp)]
      have on : wpAny (model X.prog X.w) X.A (setFlight (.ref a) X.env.frame) (fun _ s4 => wpAny (model X.prog X.w) X.A (throw (.ref a) : Sem Flow) (SP X pins Dn) X.xe s4) X.xe { s' with heap := h3 } := by
        rw [hf]
        refine HandSPX.setFlight_upZ fl3 fun h4 hh4 up4 => wpAny_throw (tk _ _ ⟨a, B, sI, pins, σ', H', cls, d, rfl, I0, nb, (up.trans up3).trans up4, .inr (.inr ?_), na, os, ag, out rfl⟩)
        rw [hs]
        exact hh4
      exact wpAny_bind on
    | true =>
      obtain ⟨C, ec, ed, go⟩ := into rfl
      subst ec ed
      refine codeAny_handlers_suite_as (HandSPX.lands_againZ fl3 fun h4 fl4 up4 => ?_)
      obtain ⟨G4, nL, nF, n0, np'⟩ := ground hs hf hx0 I0 nb ((up.trans up3).trans up4) fl4 os ag
      obtain ⟨o4, v4, g4, z4, d4⟩ := fl4.there
      have T4 := to_suite (trackI G4 g4 d4 na n0 np' nL (exI_ok g4 z4 d4)) a
      refine store_ok (X := X.suite a (X.pn ++ pins)) (v := .ref a) T4 nd hi (.inl hl) rfl (fun s5 S5 => ?_) (.inr hl)
      refine wpAny_mono ((inSuite a (X.pn ++ pins)).run [] s5 _ _ (outOf i Dn) S5 (go a na)) (fun f s6 q => ?_) (fun _ _ z => z.elim)
      cases f with
      | next =>
        obtain ⟨σ6, H6, S6, q⟩ := q
        exact gone_ok (off_suite S6 I.ok) nd hi hl fun s7 J7 => ⟨_, _, J7, q⟩
      | brk =>
        obtain ⟨σ6, H6, S6, q⟩ := q
        exact gone_ok (off_suite S6 I.ok) nd hi hl fun s7 J7 => ⟨_, _, J7, q⟩
      | cont =>
        obtain ⟨σ6, H6, S6, q⟩ := q
        exact gone_ok (off_suite S6 I.ok) nd hi hl fun s7 J7 => ⟨_, _, J7, q⟩
      | ret u =>
        obtain ⟨v6, σ6, H6, S6, r6, q⟩ := q
        exact gone_ok (off_suite S6 I.ok) nd hi hl fun s7 J7 => ⟨_, _, _, J7, r6, q⟩
  refine wpAny_mono ((inBody _ _ _ caught PassesOwn.looking).run [] s σ H Dn (I.toTry _) h) (fun f s1 q => ?_) (fun _ _ z => z)
  cases f with
  | next => obtain ⟨σ', H', J, q⟩ := q; exact wpAny_execs_nil ⟨σ', H', J.ofTry I.ok, q⟩
  | brk => obtain ⟨σ', H', J, q⟩ := q; exact ⟨σ', H', J.ofTry I.ok, q⟩
  | cont => obtain ⟨σ', H', J, q⟩ := q; exact ⟨σ', H', J.ofTry I.ok, q⟩
  | ret u => obtain ⟨v, σ', H', J, r, q⟩ := q; exact ⟨v, σ', H', J.ofTry I.ok, r, q⟩
end
end PL

/-! PL18: try .. except X as e as a pure statement; isinstance of errors of own classes. -/
namespace PL
open PySem PySem.Spec PyProof.Rows L2

/-- cl tells of an error whether it is caught here (none: not known) -/
def tryS (i : Nat) (cl : Str → Option Bool) (body suite : SM) : SM := fun τ => match body τ with
  | .exc n τ1 => (match cl n with
    | some true => (match suite (τ1.set i (.im (.exc n))) with
      | .nx τ2 => .nx (τ2.set i .no)
      | .ret d τ2 => .ret d τ2
      | _ => .stuck)
    | some false => .exc n τ1
    | none => .stuck)
  | r => r
section
variable {X : Cx} {W : WX} {x n : Str} {c : Value} {i : Nat} {body suite : List Stmt} {st₀ : Stmt} {np pos pos' : Pos} {rk : Kd} {fb fs : SM} {cl : Str → Option Bool}
theorem js_try (i : Nat) (hs : X.stack = X.env :: X.outer) (hf : X.env.frame = some X.env.locals) (hx0 : X.ex = []) (nd : X.N.Nodup) (hcl : Names X x c) (tk : Takes X W) (hex : ∀ m b, cl m = some b → ∀ C, X.mg m = some (.ref C) → PySem.W.exmOne X.K (.ref C) c = some b)
    (hb : ∀ (W : WX) (pn : List (Addr × Obj)) (xe : Value → Shared → Prop), Takes (X.tr pn xe) W → JB (X.tr pn xe) W rk body fb) (hsu : ∀ (a : Addr) (pn : List (Addr × Obj)), JB (X.suite a pn) W0 rk (st₀ :: suite) fs)
    (hi : X.N[i]? = some n := by rfl) (hl : X.env.kindOf n = some .local := by rfl) :
    JS X W rk (.Try body [.ExceptHandler (some (.Name x np)) (some n) (st₀ :: suite) pos'] [] [] pos) (tryS i cl fb fs) :=
  (ps_kept (tb := fun W => tSt X.g W rk fb) (ts := tSt X.g W0 rk fs) hs hf hx0 nd hi hl hcl tk (fun W pn xe tk _ => hb W pn xe tk) hsu).weak fun Dn σ H ⟨γ, τ, R, h⟩ => by
    refine ⟨γ, τ, R, ?_⟩
    unfold tryS at h
    cases eb : fb τ with
    | stuck => rw [eb] at h; exact h.elim
    | nx τ1 => rw [eb] at h; exact h
    | ret d τ1 => rw [eb] at h; exact h
    | exc m τ1 =>
      rw [eb] at h
      simp only [] at h
      intro σ1 H1 R1 k1 C hC
      cases ec : cl m with
      | none => rw [ec] at h; exact h.elim
      | some b =>
        rw [ec] at h
        refine ⟨b, hex m b ec C hC, fun eb2 => ?_, fun eb2 => ⟨C, rfl, rfl, fun a na => ?_⟩⟩
        · subst eb2
          exact h σ1 H1 R1 k1 C hC
        · subst eb2
          simp only [] at h
          have sm : Same H1 (upd H1 a (ExI C a)) := fun b u e => by
            rw [upd_ne (ne_of_none e na)]
            exact e
          have R2 := R1.same sm
          have av : ¬ Av γ τ1 σ1 a := fun z => by
            obtain ⟨o, e⟩ := R1.avThere z
            rw [na] at e
            cases e
          obtain ⟨R3, k3⟩ := R2.setIm i (.exc upd_same av hC)
          have k2 : Kp (Own τ1 σ1) H1 (Own τ1 σ1) (upd H1 a (ExI C a)) := PL.Same.kp sm fun _ z => z
          have kk := (k1.trans k2).trans k3
          refine ⟨γ, _, R3, ?_⟩
          cases es : fs (τ1.set i (.im (.exc m))) with
          | stuck => rw [es] at h; exact h.elim
          | exc m2 τ2 => rw [es] at h; exact h.elim
          | nx τ2 =>
            rw [es] at h
            intro σ' H' R' k'
            obtain ⟨R5, k5⟩ := R'.setNo i .no none rfl fun d z => nomatch z
            exact h _ H' R5 ((kk.trans k').trans k5)
          | ret d τ2 =>
            rw [es] at h
            exact fun σ' v H' P => h σ' v H' (P.pre' kk)
end
/-! ### isinstance -/
def TyE (K : PySem.W.Frag) (H : Hp) (x : V) (t : Value) : Prop := TyX K H x t ∨ ∃ a C : Addr, x = .ref a ∧ t = .ref C ∧ H a = some (ExI C a) ∧ ExcC K C
section
variable {X : Cx} {pins : List (Addr × Obj)} {σ : L2.St} {H : Hp} {s : Shared}
theorem kit_ofE {x : V} {u t : Value} (I : L2.Inv X pins σ H s) (rx : RelV x u) (ty : TyE X.K H x t) : ∃ P : Heap → Prop, PySem.W.KitX X.K u t P ∧ P s.heap ∧ u ≠ .builtin "__main__.__loader__#opaque" := by
  rcases ty with ty | ⟨a, C, rfl, rfl, e, ec⟩
  · exact kit_of I rx ty
  · cases (show u = Value.ref a from rx)
    obtain ⟨⟨oe, vs, g, z, d⟩, _⟩ := (show ObjOk X.prog X.w H s.heap a (ExI C a) from I.hok a _ e)
    have at_ : PySem.W.InstAt s.heap a oe C none := by
      obtain ⟨oc, od, oda, osl⟩ := oe
      obtain ⟨h1, h2⟩ := z
      dsimp only at h1 h2 d
      subst h1 h2 d
      exact ⟨g, rfl, rfl, trivial⟩
    exact ⟨_, PySem.W.handS_kitx_exc ec.hg ec.hk ec.hs ec.hd ec.ha ec.hn ec.ht ec.hm, at_, fun z => nomatch z⟩
def rIsiE (K : PySem.W.Frag) : List V → Hp → VK → Prop := fun xs H Q => ∃ (x c : V) (t u : Value) (b : Bool), xs = [x, c] ∧ ClsV c u ∧ TyE K H x t ∧ PySem.W.kitOne K t u = some b ∧ Q (.bl b) H
def rIsiTE (K : PySem.W.Frag) : List V → Hp → VK → Prop := fun xs H Q => ∃ (x : V) (tp : Addr) (cs : List V) (t : Value) (us : List Value) (b : Bool), xs = [x, .ref tp] ∧ H tp = some (.tup cs) ∧ Paired ClsV cs us ∧ TyE K H x t ∧ PySem.W.kitAny K t us = some b ∧ Q (.bl b) H
theorem call_isiE : CallR X (.builtin "isinstance") (rIsiE X.K) := by
  intro pins s σ H xs us Q I r h
  obtain ⟨x, c, t, u, b, rfl, kc, ty, e, q⟩ := h
  obtain ⟨u1, u2, rfl, r1, r2⟩ := vals2 r
  cases kc.eq r2
  obtain ⟨P, Z, p, hx⟩ := kit_ofE I r1 ty
  exact PySem.W.kia_one Z I.kIn p e hx fun tk => ⟨.bl b, H, I.tok tk, rfl, q⟩
theorem call_isiTE : CallR X (.builtin "isinstance") (rIsiTE X.K) := by
  intro pins s σ H xs us Q I r h
  obtain ⟨x, tp, cs, t, ws, b, rfl, hT, kc, ty, e, q⟩ := h
  obtain ⟨u1, u2, rfl, r1, r2⟩ := vals2 r
  cases (show u2 = Value.ref tp from r2)
  obtain ⟨P, Z, p, hx⟩ := kit_ofE I r1 ty
  obtain ⟨_, its, rv, o, g1, g2, n, g3⟩ := (show ObjOk X.prog X.w H s.heap tp (.tup cs) from I.hok tp _ hT)
  cases ClsV.all kc rv
  obtain ⟨oc, od, dt, sl⟩ := o
  simp only at g2 g3
  subst g2 g3
  exact PySem.W.kia_tup Z I.kIn p g1 e hx fun tk => ⟨.bl b, H, I.tok tk, rfl, q⟩
end
def oIsE (f : Str → Option Bool) : D → Option D
  | .exc n => (f n).map .bl
  | .non => some (.bl false)
  | _ => none
section
variable {X : Cx} {W : WX} {k : Kd} {m : Bool} {a : Expr} {fa : M D} {p p2 pos : Pos} {f : Str → Option Bool}
theorem je_isE {x y : Str} {cv : V} {cu : Value} (hg : Gl X x) (hm : X.mg x = none) (hv : bootBuiltins x = some (.builtin "isinstance")) (hc : PE X (.Name y p2) (tC cv)) (kc : ClsV cv cu)
    (ht : ∀ n b, f n = some b → ∀ C, X.mg n = some (.ref C) → ExcC X.K C ∧ PySem.W.kitOne X.K (.ref C) cu = some b) (hn0 : PySem.W.kitOne X.K (.type "NoneType") cu = some false) (ha : JE X W k m a fa)
    (hn : x ≠ "__name__" := by decide) (hdb : (x == ("__debug__" : Str)) = false := by decide) (he : starEach [a, .Name y p2] X.env = (false, eval a X.env) :: starEach [.Name y p2] X.env := by rfl)
    (he2 : starEach [.Name y p2] X.env = (false, eval (.Name y p2) X.env) :: starEach [] X.env := by rfl) (hpl : (backTo pos (starEach [.Name y p2] X.env)).any (·.1) = false := by rfl) : JE X W .im m (.Call (.Name x p) [a, .Name y p2] [] pos) (op1 (oIsE f) fa) :=
  (pe_callB call_isiE hg hm hv (pa_cons ha (pa_cons hc pa_nil he2) he) hn hdb he hpl).weak fun σ H Q ⟨γ, τ, R, h⟩ => by
    unfold op1 at h
    rw [fit_bind] at h
    refine ⟨γ, τ, R, h.mono (fun d τ1 h v H1 s1 P1 => ?_) fun _ _ q => q⟩
    obtain ⟨z, ez, h⟩ := fit_lift.mp h
    obtain ⟨R1, kp1, v1⟩ := P1.val
    unfold oIsE at ez
    split at ez
    · rename_i nm
      cases ef : f nm with
      | none => rw [ef] at ez; cases ez
      | some b =>
        rw [ef] at ez
        cases ez
        obtain ⟨ad, C, rfl, e1, e2⟩ := v1.l.exc
        obtain ⟨q1, q2⟩ := ht nm b ef C e2
        exact ⟨_, cv, .ref C, cu, b, rfl, kc, .inr ⟨ad, C, rfl, rfl, e1, q1⟩, q2, h _ H1 s1 ⟨R1, kp1, .bl _⟩⟩
    · cases ez
      rw [v1.l.non]
      exact ⟨_, cv, _, cu, false, rfl, kc, .inl (.base .non), hn0, h _ H1 s1 ⟨R1, kp1, .bl _⟩⟩
    · cases ez
theorem je_isT {x : Str} {es : List Expr} {kk : Nat} {cs : List V} {us : List Value} (hg : Gl X x) (hm : X.mg x = none) (hv : bootBuiltins x = some (.builtin "isinstance")) (hc : PA X es (fun _ H Q => Q cs H)) (hz : cs.length ≤ 1000) (kc : Paired ClsV cs us)
    (ht : ∀ n b, f n = some b → ∀ C, X.mg n = some (.ref C) → ExcC X.K C ∧ PySem.W.kitAny X.K (.ref C) us = some b) (hn0 : PySem.W.kitAny X.K (.type "NoneType") us = some false) (ha : JE X W k m a fa)
    (hn : x ≠ "__name__" := by decide) (hdb : (x == ("__debug__" : Str)) = false := by decide) (he : starEach [a, .Tuple es kk p2] X.env = (false, eval a X.env) :: starEach [.Tuple es kk p2] X.env := by rfl)
    (he2 : starEach [.Tuple es kk p2] X.env = (false, eval (.Tuple es kk p2) X.env) :: starEach [] X.env := by rfl) (hpl : (backTo pos (starEach [.Tuple es kk p2] X.env)).any (·.1) = false := by rfl) : JE X W .im m (.Call (.Name x p) [a, .Tuple es kk p2] [] pos) (op1 (oIsE f) fa) :=
  (pe_callB call_isiTE hg hm hv (pa_cons ha (pa_cons (pe_tup hc) pa_nil he2) he) hn hdb he hpl).weak fun σ H Q ⟨γ, τ, R, h⟩ => by
    unfold op1 at h
    rw [fit_bind] at h
    refine ⟨γ, τ, R, h.mono (fun d τ1 h v H1 s1 P1 => ?_) fun _ _ q => q⟩
    obtain ⟨z, ez, h⟩ := fit_lift.mp h
    obtain ⟨R1, kp1, v1⟩ := P1.val
    refine ⟨Nat.le_trans hz (by decide), fun tp htp => ?_⟩
    have sm : Same H1 (upd H1 tp (.tup cs)) := fun b u e => by
      rw [upd_ne (ne_of_none e htp)]
      exact e
    have k2 : Kp (Own τ1 σ) H1 (Own τ1 σ) (upd H1 tp (.tup cs)) := PL.Same.kp sm fun _ z => z
    unfold oIsE at ez
    split at ez
    · rename_i nm
      cases ef : f nm with
      | none => rw [ef] at ez; cases ez
      | some b =>
        rw [ef] at ez
        cases ez
        obtain ⟨ad, C, rfl, e1, e2⟩ := v1.l.exc
        obtain ⟨q1, q2⟩ := ht nm b ef C e2
        exact ⟨_, tp, cs, .ref C, us, b, rfl, upd_same, kc, .inr ⟨ad, C, rfl, rfl, sm _ _ e1, q1⟩, q2, h _ _ (fun q => (s1 q).trans sm) ⟨R1.same sm, kp1.trans k2, .bl _⟩⟩
    · cases ez
      rw [v1.l.non]
      exact ⟨_, tp, cs, _, us, false, rfl, upd_same, kc, .inl (.base .non), hn0, h _ _ (fun q => (s1 q).trans sm) ⟨R1.same sm, kp1.trans k2, .bl _⟩⟩
    · cases ez
end
end PL

/-! PL19: what the head tells of the own classes of errors. -/
namespace PL
open PySem PySem.Spec PyProof.Rows L2
/-- told by a list -/
def tbl (l : List (Str × Bool)) : Str → Option Bool := fun n => l.lookup n
theorem tbl_mem {l : List (Str × Bool)} {n : Str} {b : Bool} (h : tbl l n = some b) : (n, b) ∈ l := by
  unfold tbl at h
  induction l with
  | nil => cases h
  | cons p l ih =>
    obtain ⟨m, c⟩ := p
    rw [List.lookup_cons] at h
    cases e : (n == m) with
    | true =>
      rw [e] at h
      cases h
      rw [beq_iff_eq.mp e]
      exact List.mem_cons_self
    | false =>
      rw [e] at h
      exact List.mem_cons_of_mem _ (ih h)
section
variable {K : PySem.W.Frag} {mg : Str → Option Value}
theorem kit_self {C : Addr} : PySem.W.kitOne K (.ref C) (.ref C) = some true := by
  unfold PySem.W.kitOne
  rw [if_pos (beq_self_eq_true _)]
theorem kit_ref {t : Value} {C : Addr} {b : Bool} (hd : PySem.W.hasDictIn K C = true) (ht : PySem.W.typeIn K (.ref C) = some (.type "type")) (h : PySem.W.subIn K t (.ref C) = some b) (hn : b = false → (t == .ref C) = false) : PySem.W.kitOne K t (.ref C) = some b := by
  unfold PySem.W.kitOne
  cases e : (t == Value.ref C) with
  | true =>
    rw [if_pos rfl]
    cases b with
    | true => rfl
    | false => rw [hn rfl] at e; cases e
  | false =>
    rw [if_neg Bool.false_ne_true]
    have hc : (PySem.W.clsIn K C).isSome = true := by
      unfold PySem.W.hasDictIn at hd
      cases q : PySem.W.clsIn K C with
      | none => rw [q] at hd; cases hd
      | some cd => rfl
    show (if ((PySem.W.clsIn K C).isSome && PySem.W.typeIn K (.ref C) == some (.type "type")) = true then PySem.W.subIn K t (.ref C) else none) = some b
    rw [hc, ht, if_pos (by rw [Bool.true_and]; exact beq_self_eq_true _)]
    exact h
theorem kit_bi {C : Addr} {T : String} {b : Bool} (hm : PySem.W.kitMeta T = true) (h : PySem.W.subIn K (.ref C) (.type T) = some b) : PySem.W.kitOne K (.ref C) (.type T) = some b := by
  unfold PySem.W.kitOne
  rw [if_neg (show ¬ ((Value.ref C == Value.type T) = true) from by simp)]
  show (if PySem.W.kitMeta T = true then PySem.W.subIn K (.ref C) (.type T) else none) = some b
  rw [if_pos hm]
  exact h
theorem ref_ne {a b : Addr} (h : a ≠ b) : (Value.ref a == Value.ref b) = false := by
  rw [beq_eq_false_iff_ne]
  intro e
  exact h (Value.ref.inj e)
/-- an error n that isinstance may be asked of -/
structure Kx (K : PySem.W.Frag) (mg : Str → Option Value) (cu : Value) (p : Str × Bool) : Prop where
  ex : ∃ C, mg p.1 = some (.ref C) ∧ ExcC K C ∧ PySem.W.kitOne K (.ref C) cu = some p.2
structure Kxs (K : PySem.W.Frag) (mg : Str → Option Value) (us : List Value) (p : Str × Bool) : Prop where
  ex : ∃ C, mg p.1 = some (.ref C) ∧ ExcC K C ∧ PySem.W.kitAny K (.ref C) us = some p.2
structure Kh (K : PySem.W.Frag) (mg : Str → Option Value) (c : Value) (p : Str × Bool) : Prop where
  ex : ∃ C, mg p.1 = some (.ref C) ∧ PySem.W.exmOne K (.ref C) c = some p.2
structure IsA (K : PySem.W.Frag) (mg : Str → Option Value) (y : Str) (l : List (Str × Bool)) (C : Addr) : Prop where
  g : mg y = some (.ref C)
  t : ∀ p, p ∈ l → Kx K mg (.ref C) p
  n0 : PySem.W.kitOne K (.type "NoneType") (.ref C) = some false
structure IsB (K : PySem.W.Frag) (mg : Str → Option Value) (T : String) (l : List (Str × Bool)) : Prop where
  t : ∀ p, p ∈ l → Kx K mg (.type T) p
structure Hd (K : PySem.W.Frag) (mg : Str → Option Value) (y : Str) (l : List (Str × Bool)) (C : Addr) : Prop where
  g : mg y = some (.ref C)
  t : ∀ p, p ∈ l → Kh K mg (.ref C) p
theorem kx_at {cu : Value} {l : List (Str × Bool)} (h : ∀ p, p ∈ l → Kx K mg cu p) : ∀ n b, tbl l n = some b → ∀ C, mg n = some (.ref C) → ExcC K C ∧ PySem.W.kitOne K (.ref C) cu = some b := fun n b e C g => by
  obtain ⟨C', g', q⟩ := (h _ (tbl_mem e)).ex
  cases g.symm.trans g'
  exact q
theorem kxs_at {us : List Value} {l : List (Str × Bool)} (h : ∀ p, p ∈ l → Kxs K mg us p) : ∀ n b, tbl l n = some b → ∀ C, mg n = some (.ref C) → ExcC K C ∧ PySem.W.kitAny K (.ref C) us = some b := fun n b e C g => by
  obtain ⟨C', g', q⟩ := (h _ (tbl_mem e)).ex
  cases g.symm.trans g'
  exact q
theorem kh_at {c : Value} {l : List (Str × Bool)} (h : ∀ p, p ∈ l → Kh K mg c p) : ∀ n b, tbl l n = some b → ∀ C, mg n = some (.ref C) → PySem.W.exmOne K (.ref C) c = some b := fun n b e C g => by
  obtain ⟨C', g', q⟩ := (h _ (tbl_mem e)).ex
  cases g.symm.trans g'
  exact q
end
section
variable {X : Cx} {p : Pos}
theorem pk_nil : PA X [] (fun _ H Q => Q [] H) := pa_nil
theorem pk_cons {x : Str} {v : V} {u : Value} {es : List Expr} {cs : List V} (hg : Gl X x) (hm : X.mg x = some u) (r : RelV v u) (h : PA X es (fun _ H Q => Q cs H)) (hd : (x == ("__debug__" : Str)) = false := by decide) (hst : starEach (.Name x p :: es) X.env = (false, eval (.Name x p) X.env) :: starEach es X.env := by rfl) : PA X (.Name x p :: es) (fun _ H Q => Q (v :: cs) H) := pa_cons (pe_glob hg hm r hd) h hst
end
end PL

/-! PL20: dicts with keys ints and texts: displays. -/
namespace PL
open PySem PySem.Spec PyProof.Rows L2
def putD (es : List (Key × D)) (k : Key) (d : D) : List (Key × D) :=
  if (es.any fun kv => decide (kv.1 = k)) = true then es.map (fun kv => if kv.1 = k then (kv.1, d) else kv) else es ++ [(k, d)]
def getD' (es : List (Key × D)) (k : Key) : Option D := (es.find? fun kv => decide (kv.1 = k)).map (·.2)
def keyD : D → Option Key
  | .int i => some (.inl i)
  | .str s => some (.inr (S s))
  | _ => none
def keysD : List (D × D) → Option (List (Key × D))
  | [] => some []
  | (k, d) :: r => (keyD k).bind fun k => (keysD r).map fun r => (k, d) :: r
def mergeD (es more : List (Key × D)) : List (Key × D) := more.foldl (fun acc kv => putD acc kv.1 kv.2) es
def oDisp (ps : List (D × D)) : Option D := if ps.length ≤ 15 then (keysD ps).map fun r => .dK (mergeD [] r) else none
section
variable {g : Gc} {H H' : Hp} {A B : Addr → Prop}
structure RepK (g : Gc) (H : Hp) (A : Addr → Prop) (kvs : List (Key × V)) (es : List (Key × D)) : Prop where
  k : kvs.map (·.1) = es.map (·.1)
  v : RepA g H A (kvs.map (·.2)) (es.map (·.2))
theorem RepK.nil : RepK g H A [] [] := ⟨rfl, .nil⟩
theorem RepK.cons {k : Key} {v : V} {d : D} {kvs : List (Key × V)} {es : List (Key × D)} (r : Rep g H A v d) (h : RepK g H A kvs es) : RepK g H A ((k, v) :: kvs) ((k, d) :: es) :=
  ⟨by rw [List.map_cons, List.map_cons, h.k], .cons r h.v⟩
theorem RepK.un : ∀ {kvs : List (Key × V)} {es : List (Key × D)}, RepK g H A kvs es → (kvs = [] ∧ es = []) ∨ ∃ k v d kvs' es', kvs = (k, v) :: kvs' ∧ es = (k, d) :: es' ∧ Rep g H A v d ∧ RepK g H A kvs' es'
  | [], [], _ => .inl ⟨rfl, rfl⟩
  | [], _ :: _, h => by have := h.k; simp at this
  | _ :: _, [], h => by have := h.k; simp at this
  | (k, v) :: kvs, (j, d) :: es, h => by
    have hk := h.k
    rw [List.map_cons, List.map_cons] at hk
    obtain ⟨e1, e2⟩ := List.cons.inj hk
    have e1 : k = j := e1
    subst e1
    have hv := h.v
    rw [List.map_cons, List.map_cons] at hv
    cases hv with
    | cons r rs => exact .inr ⟨k, v, d, kvs, es, rfl, rfl, r, e2, rs⟩
theorem RepK.append {k : Key} {v : V} {d : D} (r : Rep g H A v d) : ∀ {kvs : List (Key × V)} {es : List (Key × D)}, RepK g H A kvs es → RepK g H A (kvs ++ [(k, v)]) (es ++ [(k, d)])
  | [], _, h => by
    rcases h.un with ⟨_, rfl⟩ | ⟨_, _, _, _, _, e, _⟩
    · exact .cons r .nil
    · cases e
  | p :: kvs, _, h => by
    rcases h.un with ⟨e, _⟩ | ⟨_, _, _, _, _, e, rfl, r2, h2⟩
    · cases e
    · cases e
      exact .cons r2 (RepK.append r h2)
theorem RepK.map {k : Key} {v : V} {d : D} (r : Rep g H A v d) : ∀ {kvs : List (Key × V)} {es : List (Key × D)}, RepK g H A kvs es → RepK g H A (kvs.map fun kv => if kv.1 = k then (kv.1, v) else kv) (es.map fun kv => if kv.1 = k then (kv.1, d) else kv)
  | [], _, h => by
    rcases h.un with ⟨_, rfl⟩ | ⟨_, _, _, _, _, e, _⟩
    · exact .nil
    · cases e
  | p :: kvs, _, h => by
    rcases h.un with ⟨e, _⟩ | ⟨j, v2, d2, _, _, e, rfl, r2, h2⟩
    · cases e
    · cases e
      rw [List.map_cons, List.map_cons]
      by_cases hj : j = k
      · rw [if_pos hj, if_pos hj]
        exact .cons r (RepK.map r h2)
      · rw [if_neg hj, if_neg hj]
        exact .cons r2 (RepK.map r h2)
theorem RepK.any {k : Key} : ∀ {kvs : List (Key × V)} {es : List (Key × D)}, RepK g H A kvs es → (kvs.any fun kv => decide (kv.1 = k)) = (es.any fun kv => decide (kv.1 = k))
  | [], _, h => by
    rcases h.un with ⟨_, rfl⟩ | ⟨_, _, _, _, _, e, _⟩
    · rfl
    · cases e
  | p :: kvs, _, h => by
    rcases h.un with ⟨e, _⟩ | ⟨j, v2, d2, _, _, e, rfl, r2, h2⟩
    · cases e
    · cases e
      rw [List.any_cons, List.any_cons, RepK.any h2]
theorem RepK.put {k : Key} {v : V} {d : D} {kvs : List (Key × V)} {es : List (Key × D)} (h : RepK g H A kvs es) (r : Rep g H A v d) : RepK g H A (putK kvs k v) (putD es k d) := by
  unfold putK putD
  rw [h.any]
  split
  · exact h.map r
  · exact h.append r
theorem RepK.merge : ∀ {more : List (Key × V)} {es : List (Key × D)} {kvs : List (Key × V)} {ds : List (Key × D)}, RepK g H A more es → RepK g H A kvs ds → RepK g H A (mergeK kvs more) (mergeD ds es)
  | [], _, _, _, h, q => by
    rcases h.un with ⟨_, rfl⟩ | ⟨_, _, _, _, _, e, _⟩
    · exact q
    · cases e
  | p :: more, _, kvs, ds, h, q => by
    rcases h.un with ⟨e, _⟩ | ⟨j, v2, d2, _, _, e, rfl, r2, h2⟩
    · cases e
    · cases e
      exact RepK.merge (kvs := putK kvs j v2) (ds := putD ds j d2) h2 (q.put r2)
theorem RepK.kp {kvs : List (Key × V)} {es : List (Key × D)} (k : Kp A H B H') (h : RepK g H A kvs es) : RepK g H' B kvs es := ⟨h.k, h.v.kp k⟩
theorem keys_of : ∀ {vs : List (V × V)} {ps : List (D × D)} {r : List (Key × D)}, RepA g H A (vs.map (·.1)) (ps.map (·.1)) → RepA g H A (vs.map (·.2)) (ps.map (·.2)) → keysD ps = some r →
    ∃ kvs : List (Key × V), vs = kvs.map (fun kv => (kV kv.1, kv.2)) ∧ RepK g H A kvs r ∧ kvs.length = ps.length
  | [], [], r, _, _, h => by cases h; exact ⟨[], rfl, .nil, rfl⟩
  | [], _ :: _, _, r1, _, _ => by cases r1
  | _ :: _, [], _, r1, _, _ => by cases r1
  | (x, y) :: vs, (k, d) :: ps, r, r1, r2, h => by
    rw [List.map_cons, List.map_cons] at r1 r2
    cases r1 with
    | cons a1 b1 =>
      cases r2 with
      | cons a2 b2 =>
        unfold keysD at h
        cases ek : keyD k with
        | none => rw [ek] at h; cases h
        | some kk =>
          cases er : keysD ps with
          | none => rw [ek, er] at h; cases h
          | some rr =>
            rw [ek, er] at h
            cases h
            obtain ⟨kvs, e, rk, hl⟩ := keys_of b1 b2 er
            have ex : x = kV kk := by
              unfold keyD at ek
              split at ek
              · cases ek; cases a1; rfl
              · cases ek; cases a1; rfl
              · cases ek
            refine ⟨(kk, y) :: kvs, by rw [List.map_cons, e, ex], .cons a2 rk, by rw [List.length_cons, List.length_cons, hl]⟩
end
/-! ### the pairs of a display -/
def tP (g : Gc) (W : WX) (m : Bool) (f : M (List (D × D))) (σ : L2.St) (H : Hp) (Q : List (V × V) → Hp → Prop) : Prop := ∃ γ τ, Rel g γ τ σ H ∧ Fit (f τ) (fun ps τ' => ∀ vs H', (m = false → Same H H') → Rel g γ τ' σ H' → Kp (Own τ σ) H (Own τ' σ) H' →
  RepA g H' (Av γ τ' σ) (vs.map (·.1)) (ps.map (·.1)) → RepA g H' (Av γ τ' σ) (vs.map (·.2)) (ps.map (·.2)) → Q vs H') (XW g W γ τ σ H)
structure JP (X : Cx) (W : WX) (m : Bool) (pos : Pos) (ks : List (Option Expr)) (vs : List Expr) (f : M (List (D × D))) : Prop where
  ex : ∃ trs, PPs X pos ks vs trs ∧ ∀ σ H Q, tP X.g W m f σ H Q → tPairs trs σ H Q
def prN : M (List (D × D)) := ret []
def prC (fk fv : M D) (f : M (List (D × D))) : M (List (D × D)) := andThen fk fun k => andThen fv fun v => andThen f fun ps => ret ((k, v) :: ps)
section
variable {X : Cx} {W : WX} {pos : Pos} {ks : List (Option Expr)} {vs : List Expr} {f : M (List (D × D))} {fk fv : M D} {m m1 m2 : Bool} {k v : Expr}
theorem jp_nil : JP X W false pos [] [] prN := ⟨[], pps_nil, fun σ H Q ⟨γ, τ, R, h⟩ => h [] H (fun _ => Same.refl H) R Kp.refl .nil .nil⟩
theorem jp_cons (hk : JE X W .im m1 k fk) (hv : JE X W .im m2 v fv) (h : JP X W m pos ks vs f) : JP X W ((m1 || m2) || m) pos (some k :: ks) (v :: vs) (prC fk fv f) := by
  obtain ⟨trs, pp, w⟩ := h.ex
  refine ⟨_, pps_cons hk hv pp, fun σ H Q ⟨γ, τ, R, h⟩ => ?_⟩
  unfold prC at h
  rw [fit_bind] at h
  refine ⟨γ, τ, R, h.mono (fun d τ1 h x H1 s1 P1 => ?_) fun _ _ q => q⟩
  obtain ⟨R1, kp1, r1⟩ := P1
  rw [fit_bind] at h
  refine ⟨γ, τ1, R1, h.mono (fun e τ2 h y H2 s2 P2 => ?_) fun _ _ q => q.pre kp1⟩
  obtain ⟨R2, kp2, r2⟩ := P2
  rw [fit_bind] at h
  refine w σ H2 _ ⟨γ, τ2, R2, h.mono (fun ps τ3 h vs H3 s3 R3 kp3 a b => ?_) fun _ _ q => q.pre (kp1.trans kp2)⟩
  exact h ((x, y) :: vs) H3 (or_same (or_same s1 s2) s3) R3 ((kp1.trans kp2).trans kp3) (.cons ((r1.kp kp2.av).kp kp3.av) a) (.cons (r2.kp kp3.av) b)
def dispE (f : M (List (D × D))) : M D := andThen f fun ps => lift (oDisp ps)
theorem je_dict0 : JE X W .fr true (.Dict [] [] pos) (ret (.dK [])) := pe_dnewK.weak fun σ H Q ⟨γ, τ, R, h⟩ p hp => by
  have sm : Same H (upd H p (.dK [])) := fun b u e => by
    rw [upd_ne (ne_of_none e hp)]
    exact e
  exact h (.ref p) _ (fun z => nomatch z) (PostE.of_out R Kp.refl (by decide) ⟨sm, p, rfl, hp, .dK upd_same rfl .nil⟩)
theorem je_dict (h : JP X W m pos ks vs f) (hall : ks.all (·.isSome) = true := by rfl) (hl : ks.length = vs.length := by rfl) (h0 : ks ≠ [] := by simp) (h15 : ks.length ≤ 15 := by decide) : JE X W .fr true (.Dict ks vs pos) (dispE f) := by
  obtain ⟨trs, pp, w⟩ := h.ex
  refine (pe_disp pp hall hl h0 h15).weak fun σ H Q ⟨γ, τ, R, h⟩ p hp => ?_
  unfold dispE at h
  rw [fit_bind] at h
  have sm : Same H (upd H p (.dK [])) := fun b u e => by
    rw [upd_ne (ne_of_none e hp)]
    exact e
  have R0 : Rel X.g (γ.with p) τ σ (upd H p (.dK [])) := R.newS hp sm ⟨_, upd_same, fun _ z => nomatch z⟩
  have k0 : Kp (Own τ σ) H (Own τ σ) (upd H p (.dK [])) := PL.Same.kp sm fun _ z => z
  refine w σ _ _ ⟨γ.with p, τ, R0, h.mono (fun ps τ1 h vs H1 s1 R1 kp1 a b => ?_) fun n τ1 q H1 R1 kp1 c hc => q H1 R1.drop (k0.trans kp1) c hc⟩
  obtain ⟨z, ez, h⟩ := fit_lift.mp h
  unfold oDisp at ez
  split at ez
  · rename_i hz
    cases er : keysD ps with
    | none => rw [er] at ez; cases ez
    | some r =>
      rw [er] at ez
      cases ez
      obtain ⟨kvs, e, rk, hlen⟩ := keys_of a b er
      have nO : ¬ Own τ σ p := (R0.pal p (.inr rfl)).2
      have e1 : H1 p = some (.dK []) := (kp1 p _ upd_same nO).1
      refine ⟨e1, kvs, e, by rw [hlen]; exact hz, ?_⟩
      have R2 : Rel X.g (γ.with p) τ1 σ (upd H1 p (.dK (mergeK [] kvs))) := R1.updP (.inr rfl)
      have kA : Kp (Av (γ.with p) τ1 σ) H1 (Av (γ.with p) τ1 σ) (upd H1 p (.dK (mergeK [] kvs))) := fun b u e n => ⟨by rw [upd_ne (fun q => n (.inl (.inr q)))]; exact e, n⟩
      have rm := (RepK.merge rk (kvs := []) (ds := []) .nil).kp kA
      refine h (.ref p) _ (fun z => nomatch z) ⟨p, rfl, R2, fun q => ?_, fun b u e n => ?_, .dK upd_same rm.k rm.v⟩
      · obtain ⟨u, e⟩ := (R.pal p q).1.ex
        rw [hp] at e
        cases e
      · have hb : b ≠ p := ne_of_none e hp
        obtain ⟨q1, q2⟩ := kp1 b u (by rw [upd_ne hb]; exact e) n
        exact ⟨by rw [upd_ne hb]; exact q1, fun z => z.elim q2 hb⟩
  · cases ez
end
end PL

/-! PL21: tuple(text), text.upper(). -/
namespace PL
open PySem PySem.Spec PyProof.Rows L2
section
variable {X : Cx} {W : WX} {g : Gc} {k : Kd} {m : Bool} {a : Expr} {f : M D} {pos apos : Pos}
def rTupS : List V → Hp → VK → Prop := fun xs H Q => ∃ s : List Nat, xs = [.str (S s)] ∧ s.length ≤ 16777216 ∧ ∀ p, H p = none → Q (.ref p) (upd H p (.tup (s.map fun c => V.str (S [c]))))
theorem call_tupS (hc : X.calm = true) : CallR X (.type "tuple") rTupS := by
  intro pins st σ H xs us Q I r h
  obtain ⟨s, rfl, hz, q⟩ := h
  obtain ⟨u, rfl, ru⟩ := vals1 r
  obtain ⟨t, rfl⟩ := ru
  have hsz : (S s).cps.size = s.length := S_len s
  refine call_tuple_str (I.ok.hd hc) (S s) t (fun h' tk acc hk hacc => ?_) (hsz := by rw [hsz, sizeLine_eq]; exact hz)
  have hv : Vals (s.map fun c => V.str (S [c])) acc.toList := by
    refine call_listS.vals_of_get (by rw [List.length_map, Array.length_toList]; exact hsz.symm.trans hacc.1.symm) fun i v u e1 e2 => ?_
    rw [List.getElem?_map] at e1
    cases e : s[i]? with
    | none => rw [e] at e1; cases e1
    | some c =>
      rw [e] at e1
      cases e1
      obtain ⟨c2, u2, hc2, rfl⟩ := hacc.2 i u (by simpa using e2)
      have : (S s).cps[i]? = s[i]? := by simp [S]
      rw [this, e] at hc2
      cases hc2
      exact ⟨u2, rfl⟩
  have I1 : L2.Inv X pins σ H { st with heap := h' } := I.kept (t' := st.toks) hk
  exact ⟨.ref h'.objs.size, _, I1.laid (t' := tk) (o := .tup (s.map fun c => V.str (S [c]))) (fun b o e => Heap.get?_push_of_some _ e) (Nat.le_refl _)
    ⟨by rw [List.length_map, sizeLine_eq]; exact hz, acc.toList, hv, ⟨_, Heap.get?_push_size _ rfl, rfl, 0, by simp⟩⟩, rfl, q _ (I1.hok.fresh (Nat.le_refl _))⟩
def oTupleA : D → Option D
  | .str s => if s.length ≤ 16777216 then some (.tup (s.map fun c => .str [c])) else none
  | .lst xs => some (.tup xs)
  | .fz xs => some (.tup xs)
  | .tup xs => some (.tup xs)
  | _ => none
def rTupleA (K : PySem.W.Frag) : List V → Hp → VK → Prop := cror (fun xs H Q => ∃ p ys, xs = [.ref p] ∧ ((SqL K H p ys ∧ ∀ l, H l = none → Q (.ref l) (upd H l (.tup ys))) ∨ (SqT K H p ys ∧ Q (.ref p) H))) rTupS
theorem call_tupleA (hc : X.calm = true := by rfl) : CallR X (.type "tuple") (rTupleA X.K) := CallR.or' call_tuple_of (call_tupS hc)
theorem fn_tupleA : Fn1 .im g (rTupleA g.K) oTupleA := fun H A x d z Q hA rx ho q => by
  unfold oTupleA at ho
  split at ho
  · split at ho
    · rename_i s hz
      cases ho
      refine .inr ⟨s, by rw [rx.str], hz, fun p hp => q _ _ (out_tup hA ?_ hp)⟩
      have : ∀ s : List Nat, RepA g H A (s.map fun c => V.str (S [c])) (s.map fun c => D.str [c]) := by
        intro s
        induction s with
        | nil => exact .nil
        | cons c s ih => exact .cons (.str [c]) ih
      exact this s
    · cases ho
  · exact .inl (fn_tuple H A x _ z Q hA rx ho q)
  · exact .inl (fn_tuple H A x _ z Q hA rx ho q)
  · exact .inl (fn_tuple H A x _ z Q hA rx ho q)
  · cases ho
/-! ### text.upper() -/
def oUpper : D → Option D
  | .str s => if s.length ≤ 5592405 then some (.str (Txt.upper (S s)).cps.toList) else none
  | _ => none
theorem je_upper (h : JE X W k m a f) (hbase : attributeBase a "upper" X.env (eval a X.env) = eval a X.env := by rfl) (hline : (apos.endLine == pos.line) = true := by rfl) : JE X W .im m (.Call (.Attribute a "upper" apos) [] [] pos) (op1 oUpper f) := (pe_upper h hbase hline).weak fun σ H Q ⟨γ, τ, R, h⟩ => by
  unfold op1 at h
  rw [fit_bind] at h
  refine ⟨γ, τ, R, h.mono (fun d τ1 h v H1 s1 P1 => ?_) fun _ _ q => q⟩
  obtain ⟨z, ez, h⟩ := fit_lift.mp h
  obtain ⟨R1, kp1, v1⟩ := P1.val
  unfold oUpper at ez
  split at ez
  · split at ez
    · rename_i s hz
      cases ez
      rw [v1.l.str]
      refine ⟨⟨_, rfl⟩, S s, rfl, rfl, by rw [S_len]; exact hz, h _ H1 s1 ⟨R1, kp1, ?_⟩⟩
      have := Rep.str (g := X.g) (H := H1) (Av := Av γ τ1 σ) (Txt.upper (S s)).cps.toList
      rwa [S_of] at this
    · cases ez
  · cases ez
end
end PL

/-! PL22: zip of lists and texts, mixed. -/
namespace PL
open PySem PySem.Spec PyProof.Rows L2
/-- what stands at i in a list or a text; that nothing does; the iterator over it -/
def zAt (K : PySem.W.Frag) (H : Hp) (v : V) (i : Nat) (u : V) : Prop := match v with
  | .ref a => ∃ xs, SqL K H a xs ∧ xs[i]? = some u
  | .str x => ∃ c, x.cps[i]? = some c ∧ u = .str ⟨#[c]⟩
  | _ => False
def zAll (K : PySem.W.Frag) (H : Hp) (v : V) (i : Nat) (u : V) : Prop := match v with
  | .ref a => ∀ xs, SqL K H a xs → xs[i]? = some u
  | .str x => ∃ c, x.cps[i]? = some c ∧ u = .str ⟨#[c]⟩
  | _ => False
def zEnd (K : PySem.W.Frag) (H : Hp) (v : V) (i : Nat) : Prop := match v with
  | .ref a => ∃ xs, SqL K H a xs ∧ xs.length ≤ i
  | .str x => x.cps.size ≤ i
  | _ => False
def zSt (v : V) (it : Addr) (i : Nat) (h : Heap) : Prop := match v with
  | .ref a => h.IsListIter it a i
  | .str x => ∃ t, h.IsStrIter it (strIterType x) x t i
  | _ => False
def zFp (v : V) (it : Addr) : List Addr := match v with
  | .ref a => [it, a]
  | _ => [it]
def zOb (v : V) (u : Value) : Obj := match v with
  | .str x => { cls := .type (strIterType x), data := .fields #[u, .int 0 0] }
  | _ => { cls := .type "list_iterator", data := .fields #[u, .int 0 0] }
def zIn (v : V) (h : Heap) : Prop := match v with
  | .ref a => ∃ items, h.IsList a items
  | .str _ => True
  | _ => False
section
variable {X : Cx} {pins : List (Addr × Obj)} {σ : L2.St} {H : Hp} {s : Shared} {v u : V} {it : Addr} {i : Nat}
theorem str_type {x : Str} : strIterType x = "str_ascii_iterator" ∨ strIterType x = "str_iterator" := by
  unfold strIterType
  split
  · exact .inl rfl
  · exact .inr rfl
theorem str_draws {P : Program} {w : World} {A : Around} (hh : A.handled = none) (it : Addr) (x : Str) (t : Tok) : Draws P w A it [it] x.cps.size (fun i v => ∃ c u, x.cps[i]? = some c ∧ v = .str ⟨#[c]⟩ u) (fun i h => h.IsStrIter it (strIterType x) x t i) := by
  rcases str_type (x := x) with z | z
  · rw [z]; exact Draws.strAscii hh it x t
  · rw [z]; exact Draws.strWide hh it x t
theorem str_over {P : Program} {w : World} {A : Around} (hh : A.handled = none) (it : Addr) (x : Str) (t : Tok) (hi : x.cps.size ≤ i) : Draws P w A it [it] i (fun _ _ => False) (fun j h => j = i ∧ h.IsStrIter it (strIterType x) x t j) where
  live := fun _ _ st => let ⟨_, o, ho, _⟩ := st; ⟨o, ho⟩
  frame := fun _ _ _ st hk => let ⟨e, o, ho, r⟩ := st; ⟨e, o, hk it (by simp) o ho, r⟩
  item := fun j s Q E hj st _ => absurd st.1 (Nat.ne_of_lt hj)
  done := fun s Q E st hE => by
    have hx : x.cps[i]? = none := by simp [hi]
    have st2 := st.2
    rcases str_type (x := x) with z | z
    · rw [z] at st2; exact wpAny_nextOf_ascii_end hh st2 hx hE
    · rw [z] at st2; exact wpAny_nextOf_wide_end hh st2 hx hE
theorem list_over {P : Program} {w : World} {A : Around} (hh : A.handled = none) (it l : Addr) (hne : l ≠ it) (items : Array Value) (hi : items.size ≤ i) : Draws P w A it [it, l] i (fun _ _ => False) (fun j h => j = i ∧ h.IsListIter it l j ∧ h.IsList l items) where
  live := fun _ _ st => let ⟨_, ⟨o, ho, _⟩, _⟩ := st; ⟨o, ho⟩
  frame := fun _ _ _ st hk => ⟨st.1, st.2.1.at fun o e => hk it (by simp) o e, st.2.2.at fun o e => hk l (by simp) o e⟩
  item := fun j s Q E hj st _ => absurd st.1 (Nat.ne_of_lt hj)
  done := fun s Q E st hE => wpAny_nextOf_list_end hh st.2.1 st.2.2 (by simp [hi]) hE
theorem z_go (I : L2.Inv X pins σ H s) (hh : X.A.in1.handled = none) (st : zSt v it i s.heap) (ha : zAt X.K H v i u) (hne : ∀ a, v = .ref a → a ≠ it) :
    ∃ n P St, Draws X.prog X.w X.A.in1 it (zFp v it) n P St ∧ St i s.heap ∧ i < n ∧ (∀ y, P i y → RelV u y) ∧ ∀ h, St (i + 1) h → zSt v it (i + 1) h := by
  cases v with
  | ref a =>
    obtain ⟨xs, hq, hx⟩ := ha
    obtain ⟨its, rv, p, hz⟩ := I.list hq
    obtain ⟨y, hy, ry⟩ := rv.get hx
    refine ⟨_, _, _, Draws.list hh it a (hne a rfl) its.toArray, ⟨st, p.isList⟩, by simpa using (List.getElem?_eq_some_iff.mp hy).1, fun z e => ?_, fun h q => q.1⟩
    have e' : its[i]? = some z := by simpa using e
    rw [hy] at e'
    cases e'
    exact ry
  | str x =>
    obtain ⟨c, hc, rfl⟩ := ha
    obtain ⟨t, st⟩ := st
    have hl : i < x.cps.size := (Array.getElem?_eq_some_iff.mp hc).1
    refine ⟨_, _, _, str_draws hh it x t, st, hl, fun z e => ?_, fun h q => ⟨t, q⟩⟩
    obtain ⟨c2, u2, e2, rfl⟩ := e
    rw [hc] at e2
    cases e2
    exact ⟨u2, rfl⟩
  | _ => exact ha.elim
theorem z_all (I : L2.Inv X pins σ H s) (ha : zAt X.K H v i u) : zAll X.K H v i u := by
  cases v with
  | ref a =>
    obtain ⟨xs, hq, hx⟩ := ha
    intro ys hy
    rw [I.list_inj hy hq]
    exact hx
  | str x => exact ha
  | _ => exact ha.elim
theorem z_end (I : L2.Inv X pins σ H s) (hh : X.A.in1.handled = none) (st : zSt v it i s.heap) (ha : zEnd X.K H v i) (hne : ∀ a, v = .ref a → a ≠ it) :
    ∃ P St, Draws X.prog X.w X.A.in1 it (zFp v it) i P St ∧ St i s.heap := by
  cases v with
  | ref a =>
    obtain ⟨xs, hq, hx⟩ := ha
    obtain ⟨its, rv, p, hz⟩ := I.list hq
    have hl : xs.length = its.length := L2.Vals.length rv
    exact ⟨_, _, list_over hh it a (hne a rfl) its.toArray (by simp; omega), rfl, st, p.isList⟩
  | str x =>
    obtain ⟨t, st⟩ := st
    exact ⟨_, _, str_over hh it x t ha, rfl, st⟩
  | _ => exact ha.elim
end
def Itzz (K : PySem.W.Frag) (v1 v2 : V) : It :=
  ⟨fun i H => ∃ u1 u2, zAt K H v1 i u1 ∧ zAt K H v2 i u2, fun i H v H' => ∃ T u1 u2, v = .ref T ∧ H T = none ∧ H' = upd H T (.tup [u1, u2]) ∧ zAll K H v1 i u1 ∧ zAll K H v2 i u2,
    fun i H => ((∃ u, zAt K H v1 i u) ∨ zEnd K H v1 i) ∧ ((∃ u, zAt K H v2 i u) ∨ zEnd K H v2 i) ∧ (zEnd K H v1 i ∨ zEnd K H v2 i)⟩
theorem zSt_at {v : V} {it : Addr} {i : Nat} {h h' : Heap} (st : zSt v it i h) (k : ∀ o, h.get? it = some o → h'.get? it = some o) : zSt v it i h' := by
  cases v with
  | ref a => exact L2H_at st k
  | str x =>
    obtain ⟨t, o, ho, r⟩ := st
    exact ⟨t, o, k o ho, r⟩
  | _ => exact st.elim
where L2H_at {a it : Addr} {i : Nat} {h h' : Heap} (st : h.IsListIter it a i) (k : ∀ o, h.get? it = some o → h'.get? it = some o) : h'.IsListIter it a i := st.at k
theorem zSt_obj {v : V} {it : Addr} {i : Nat} {h : Heap} (st : zSt v it i h) : ∃ o, h.get? it = some o ∧ ∀ w, o.data ≠ .cell w := by
  cases v with
  | ref a =>
    obtain ⟨o, e, _, d⟩ := st
    exact ⟨o, e, fun w q => by rw [d] at q; cases q⟩
  | str x =>
    obtain ⟨t, o, e, _, d⟩ := st
    exact ⟨o, e, fun w q => by rw [d] at q; cases q⟩
  | _ => exact st.elim
theorem turn_zz {P : Program} {w : World} {K : PySem.W.Frag} {elts : List Expr} {kk : Nat} {tpos : Pos} {v1 v2 : V} {z TI TO i1 i2 : Addr} (D : ZipSep2 z TI TO i1 i2 (zFp v1 i1) (zFp v2 i2)) (n1 : ∀ a, v1 = .ref a → a ≠ i1) (n2 : ∀ a, v2 = .ref a → a ≠ i2) :
    Turn P w K (.Tuple elts kk tpos) (Itzz K v1 v2) [z, TI, TO, i1, i2] z (fun i h => IsZip h z TI TO .none ∧ IsTupOf2 h TI (.ref i1) (.ref i2) ∧ (∃ x y, IsTupOf2 h TO x y) ∧ zSt v1 i1 i h ∧ zSt v2 i2 i h) where
  mem := by simp
  obj := fun i h st c hc => by
    obtain ⟨hz, hTI, ⟨x, y, hTO⟩, h1, h2⟩ := st
    simp only [List.mem_cons, List.not_mem_nil, or_false] at hc
    rcases hc with rfl | rfl | rfl | rfl | rfl
    · exact ⟨_, hz, fun v q => nomatch q⟩
    · exact ⟨_, hTI, fun v q => nomatch q⟩
    · exact ⟨_, hTO, fun v q => nomatch q⟩
    · exact zSt_obj h1
    · exact zSt_obj h2
  keep := fun i h h' st k => by
    obtain ⟨hz, hTI, ⟨x, y, hTO⟩, h1, h2⟩ := st
    exact ⟨k z (by simp) _ hz, k TI (by simp) _ hTI, ⟨x, y, k TO (by simp) _ hTO⟩, zSt_at h1 fun o q => k i1 (by simp) o q, zSt_at h2 fun o q => k i2 (by simp) o q⟩
  item := by
    intro X hP hw hK hc i pins s σ H E I hf st hg
    subst hP hw hK
    obtain ⟨hz, hTI, ⟨x0, y0, hTO⟩, h1, h2⟩ := st
    obtain ⟨u1, u2, g1, g2⟩ := hg
    have hh : X.A.in1.handled = none := I.ok.hd hc
    obtain ⟨m1, P1, St1, D1, s1, l1, r1, e1⟩ := z_go I hh h1 g1 n1
    obtain ⟨m2, P2, St2, D2, s2, l2, r2, e2⟩ := z_go I hh h2 g2 n2
    have hzl : z < s.heap.objs.size := Heap.lt_size hz
    refine wpAny_pyNext_zipD2_item D D1 D2 hz hTI hTO s1 s2 l1 l2 fun y1 y2 h' tk p1 p2 z' TO' t1 t2 hT hsz hk => ?_
    refine ⟨_, rfl, wpAny_letOwnedTupleGo_zip (s := { s with heap := h', toks := tk }) z' fun h'' z'' sb => ?_⟩
    have hT2 : h''.get? s.heap.objs.size = some { cls := .type "tuple", data := .seq #[y1, y2] } := (sb.2 _ (Nat.ne_of_gt hzl)).trans hT
    have new : ObjOk X.prog X.w (upd H s.heap.objs.size (.tup [u1, u2])) h'' s.heap.objs.size (.tup [u1, u2]) :=
      ⟨by show 2 ≤ sizeLine; decide, [y1, y2], .cons (r1 _ p1) (.cons (r2 _ p2) .nil), ⟨_, hT2, rfl, _, rfl⟩⟩
    have I1 : L2.Inv X pins σ (upd H s.heap.objs.size (.tup [u1, u2])) { s with heap := h'', toks := tk } :=
      I.turnedNew (t' := tk) (ch := [z, TI, TO, i1, i2]) (fun c o hb q => by
        simp only [List.mem_cons, List.not_mem_nil, or_false, not_or] at hb
        exact (sb.2 c hb.1).trans (hk c o hb.1 hb.2.2.1 hb.2.2.2.1 hb.2.2.2.2 q)) hf (Nat.le_refl _) new
    refine ⟨.ref s.heap.objs.size, _, I1, rfl, ⟨_, u1, u2, rfl, I.hok.fresh (Nat.le_refl _), rfl, z_all I g1, z_all I g2⟩, ⟨z'', ?_, ⟨y1, y2, ?_⟩, ?_, ?_⟩, fun c hcm => ?_⟩
    · exact (sb.2 _ D.TIz).trans (hk _ _ D.TIz D.TITO D.TIi1 D.TIi2 hTI)
    · exact (sb.2 _ D.TOz).trans TO'
    · exact zSt_at (e1 _ t1) fun o q => (sb.2 _ D.zi1.symm).trans q
    · exact zSt_at (e2 _ t2) fun o q => (sb.2 _ D.zi2.symm).trans q
    · have hlt : c < s.heap.objs.size := by
        simp only [List.mem_cons, List.not_mem_nil, or_false] at hcm
        rcases hcm with rfl | rfl | rfl | rfl | rfl
        · exact hzl
        · exact Heap.lt_size hTI
        · exact Heap.lt_size hTO
        · obtain ⟨o, e, _⟩ := zSt_obj h1; exact Heap.lt_size e
        · obtain ⟨o, e, _⟩ := zSt_obj h2; exact Heap.lt_size e
      rw [upd_ne (Nat.ne_of_lt hlt)]
      exact (hf c hcm).1
  done := by
    intro X hP hw hK hc i pins s σ H E I hf st hg
    subst hP hw hK
    obtain ⟨hz, hTI, ⟨x0, y0, hTO⟩, h1, h2⟩ := st
    have hh : X.A.in1.handled = none := I.ok.hd hc
    have fin : ∀ {m1 m2 : Nat} {P1 P2 : Nat → Value → Prop} {St1 St2 : Nat → Heap → Prop}, Draws X.prog X.w X.A.in1 i1 (zFp v1 i1) m1 P1 St1 → Draws X.prog X.w X.A.in1 i2 (zFp v2 i2) m2 P2 St2 → St1 i s.heap → St2 i s.heap → i ≤ m1 → i ≤ m2 → (i = m1 ∨ i = m2) → wpAny (model X.prog X.w) X.A (pyNext (.ref z)) (fun r s1 => r = none ∧ L2.Inv X pins σ H s1) E s := fun {m1 m2 P1 P2 St1 St2} D1 D2 t1 t2 l1 l2 e =>
      wpAny_pyNext_zipD2_end D D1 D2 hz hTI hTO t1 t2 l1 l2 e fun h' tk hk => ⟨rfl, I.turnedL (t' := tk) (ch := [z, TI, TO, i1, i2]) (fun c o hb q => by
        simp only [List.mem_cons, List.not_mem_nil, or_false, not_or] at hb
        exact hk c o hb.1 hb.2.2.1 hb.2.2.2.1 hb.2.2.2.2 q) hf⟩
    obtain ⟨k1, k2, ke⟩ := hg
    rcases ke with ke | ke
    · obtain ⟨P1, St1, D1, t1⟩ := z_end I hh h1 ke n1
      rcases k2 with ⟨u, k2⟩ | k2
      · obtain ⟨m2, P2, St2, D2, t2, l2, _, _⟩ := z_go I hh h2 k2 n2
        exact fin D1 D2 t1 t2 (Nat.le_refl _) (Nat.le_of_lt l2) (.inl rfl)
      · obtain ⟨P2, St2, D2, t2⟩ := z_end I hh h2 k2 n2
        exact fin D1 D2 t1 t2 (Nat.le_refl _) (Nat.le_refl _) (.inl rfl)
    · obtain ⟨P2, St2, D2, t2⟩ := z_end I hh h2 ke n2
      rcases k1 with ⟨u, k1⟩ | k1
      · obtain ⟨m1, P1, St1, D1, t1, l1, _, _⟩ := z_go I hh h1 k1 n1
        exact fin D1 D2 t1 t2 (Nat.le_of_lt l1) (Nat.le_refl _) (.inr rfl)
      · obtain ⟨P1, St1, D1, t1⟩ := z_end I hh h1 k1 n1
        exact fin D1 D2 t1 t2 (Nat.le_refl _) (Nat.le_refl _) (.inr rfl)
  self := fun A i s Q E st h => wpAny_pyIter_zip st.1 h
/-! ### zip made -/
section
variable {prog : Program} {w : World} {A : Around} {E : Value → Shared → Prop} {s : Shared}
abbrev zh (h : Heap) (o1 o2 : Obj) : Heap := (h.push o1).push o2
abbrev zh3 (h : Heap) (o1 o2 : Obj) : Heap := (zh h o1 o2).push { cls := .type "tuple", data := .seq #[.ref h.objs.size, .ref (h.push o1).objs.size] }
abbrev zh4 (h : Heap) (o1 o2 : Obj) : Heap := (zh3 h o1 o2).push { cls := .type "tuple", data := .seq #[.none, .none] }
abbrev zh5 (h : Heap) (o1 o2 : Obj) : Heap := (zh4 h o1 o2).push { cls := .type "zip", data := .fields #[.none, .bool false, .bool false, .ref (zh h o1 o2).objs.size, .ref (zh3 h o1 o2).objs.size] }
abbrev oS (x : Str) (t : Tok) : Obj := { cls := .type (strIterType x), data := .fields #[.str x t, .int 0 0] }
abbrev oL (l : Addr) : Obj := { cls := .type "list_iterator", data := .fields #[.ref l, .int 0 0] }
set_option maxHeartbeats 2000000 in
theorem meets_zss (x1 x2 : Str) (t1 t2 : Tok) :
    Meets (Builtin.«zip.__new__» ⟨[.type "zip", .str x1 t1, .str x2 t2], []⟩) (fun _ R s => R (.ok (.ret (.ref (zh4 s.heap (oS x1 t1) (oS x2 t2)).objs.size))) { s with heap := zh5 s.heap (oS x1 t1) (oS x2 t2) }) :=
  .of_wp fun prog w A R s h => by
    obtain ⟨hp, g, d, tk, os⟩ := s
    have sub := sub_zip
    wp_walk using wpAny_pyIter_strU, wpAny_pyIter_strU
    exact ⟨_, rfl, h⟩
set_option maxHeartbeats 2000000 in
theorem meets_zsl (x1 : Str) (t1 : Tok) (l : Addr) (items : Array Value) :
    Meets (Builtin.«zip.__new__» ⟨[.type "zip", .str x1 t1, .ref l], []⟩) (fun _ R s => s.heap.IsList l items ∧ R (.ok (.ret (.ref (zh4 s.heap (oS x1 t1) (oL l)).objs.size))) { s with heap := zh5 s.heap (oS x1 t1) (oL l) }) :=
  .of_wp fun prog w A R s h => by
    obtain ⟨hp, g, d, tk, os⟩ := s
    obtain ⟨hl, h⟩ := h
    have sub := sub_zip
    have hl2 : Heap.IsList (Shared.heap ⟨hp.push (oS x1 t1), g, d, tk, os⟩) l items := Heap.IsList.push hl _
    wp_walk using wpAny_pyIter_strU, wpAny_pyIter_list hl2
    exact ⟨_, rfl, h⟩
end
end PL

namespace PL
open PySem PySem.Spec PyProof.Rows L2
section
variable {prog : Program} {w : World} {A : Around} {E : Value → Shared → Prop} {s : Shared}
/-- what stands behind the making of a zip -/
structure Zip0 (h h' : Heap) (o1 o2 : Obj) : Prop where
  z : IsZip h' (h.objs.size + 4) (h.objs.size + 2) (h.objs.size + 3) .none
  ti : IsTupOf2 h' (h.objs.size + 2) (.ref h.objs.size) (.ref (h.objs.size + 1))
  to : IsTupOf2 h' (h.objs.size + 3) .none .none
  a : h'.get? h.objs.size = some o1
  b : h'.get? (h.objs.size + 1) = some o2
  k : ∀ c o, h.get? c = some o → h'.get? c = some o
theorem zip0 (h : Heap) (o1 o2 : Obj) (f1 : (h.push o1).get? h.objs.size = some o1) (f2 : ((h.push o1).push o2).get? (h.push o1).objs.size = some o2) : Zip0 h (zh5 h o1 o2) o1 o2 := by
  have z1 : (h.push o1).objs.size = h.objs.size + 1 := Heap.size_push ..
  have z2 : (zh h o1 o2).objs.size = h.objs.size + 2 := by rw [Heap.size_push, z1]
  have z3 : (zh3 h o1 o2).objs.size = h.objs.size + 3 := by rw [Heap.size_push, z2]
  have z4 : (zh4 h o1 o2).objs.size = h.objs.size + 4 := by rw [Heap.size_push, z3]
  have g5 : (zh5 h o1 o2).get? (zh4 h o1 o2).objs.size = some _ := Heap.get?_push_size _ rfl
  have g4 : (zh5 h o1 o2).get? (zh3 h o1 o2).objs.size = some _ := Heap.get?_push_of_some _ (Heap.get?_push_size _ rfl)
  have g3 : (zh5 h o1 o2).get? (zh h o1 o2).objs.size = some _ := Heap.get?_push_of_some _ (Heap.get?_push_of_some _ (Heap.get?_push_size _ rfl))
  have up : ∀ c o, (zh h o1 o2).get? c = some o → (zh5 h o1 o2).get? c = some o := fun c o e => Heap.get?_push_of_some _ (Heap.get?_push_of_some _ (Heap.get?_push_of_some _ e))
  rw [z2, z3, z4] at g5
  rw [z1, z2] at g3
  rw [z3] at g4
  rw [z1] at f2
  exact ⟨g5, g3, g4, up _ _ (Heap.get?_push_of_some _ f1), up _ _ f2, fun c o e => up _ _ (Heap.get?_push_of_some _ (Heap.get?_push_of_some _ e))⟩
theorem call_zss {x1 x2 : Str} {t1 t2 : Tok} {Q : Value → Shared → Prop} (h : ∀ h', Zip0 s.heap h' (oS x1 t1) (oS x2 t2) → Q (.ref (s.heap.objs.size + 4)) { s with heap := h' }) :
    wpAny (model prog w) A (call (.type "zip") [.str x1 t1, .str x2 t2]) Q E s := by
  refine callType_new F.called_zip (by decide) (F.typeCall_zip_2 _ _) (F.newCall_zip_2 _ _) (fun obj => F.args_object_init_3 obj _ _) F.entry_zip_new (meets_zss x1 x2 t1 t2) ?_
  have q := zip0 s.heap (oS x1 t1) (oS x2 t2) (Heap.get?_push_size _ rfl) (Heap.get?_push_size _ rfl)
  have z4 : (zh4 s.heap (oS x1 t1) (oS x2 t2)).objs.size = s.heap.objs.size + 4 := by rw [Heap.size_push, Heap.size_push, Heap.size_push, Heap.size_push]
  show _ ∧ _
  rw [z4]
  exact ⟨⟨_, q.z, rfl⟩, h _ q⟩
theorem call_zsl {x1 : Str} {t1 : Tok} {l : Addr} {items : Array Value} {Q : Value → Shared → Prop} (hl : s.heap.IsList l items) (h : ∀ h', Zip0 s.heap h' (oS x1 t1) (oL l) → Q (.ref (s.heap.objs.size + 4)) { s with heap := h' }) :
    wpAny (model prog w) A (call (.type "zip") [.str x1 t1, .ref l]) Q E s := by
  refine callType_new F.called_zip (by decide) (F.typeCall_zip_2 _ _) (F.newCall_zip_2 _ _) (fun obj => F.args_object_init_3 obj _ _) F.entry_zip_new (meets_zsl x1 t1 l items) ⟨hl, ?_⟩
  have q := zip0 s.heap (oS x1 t1) (oL l) (Heap.get?_push_size _ rfl) (Heap.get?_push_size _ rfl)
  have z4 : (zh4 s.heap (oS x1 t1) (oL l)).objs.size = s.heap.objs.size + 4 := by rw [Heap.size_push, Heap.size_push, Heap.size_push, Heap.size_push]
  show _ ∧ _
  rw [z4]
  exact ⟨⟨_, q.z, rfl⟩, h _ q⟩
end
/-! ### zip walked -/
section
variable {X : Cx} {pins : List (Addr × Obj)} {σ : L2.St} {H : Hp} {s : Shared}
theorem sep_of {I : Addr} {v1 v2 : V} (h1 : ∀ a, v1 = .ref a → a < I) (h2 : ∀ a, v2 = .ref a → a < I) : ZipSep2 (I + 4) (I + 2) (I + 3) I (I + 1) (zFp v1 I) (zFp v2 (I + 1)) := by
  have e1 : ∀ c, c ∈ zFp v1 I → c = I ∨ c < I := fun c hc => by
    cases v1 with
    | ref a =>
      have hc' : c ∈ [I, a] := hc
      simp only [List.mem_cons, List.not_mem_nil, or_false] at hc'
      rcases hc' with rfl | rfl
      · exact .inl rfl
      · exact .inr (h1 _ rfl)
    | _ => exact .inl (List.mem_singleton.mp hc)
  have e2 : ∀ c, c ∈ zFp v2 (I + 1) → c = I + 1 ∨ c < I := fun c hc => by
    cases v2 with
    | ref a =>
      have hc' : c ∈ [I + 1, a] := hc
      simp only [List.mem_cons, List.not_mem_nil, or_false] at hc'
      rcases hc' with rfl | rfl
      · exact .inl rfl
      · exact .inr (h2 _ rfl)
    | _ => exact .inl (List.mem_singleton.mp hc)
  have m1 : I ∈ zFp v1 I := by cases v1 <;> exact List.mem_cons_self
  have m2 : I + 1 ∈ zFp v2 (I + 1) := by cases v2 <;> exact List.mem_cons_self
  have L : ∀ {a b : Nat}, a ≠ b → (a : Addr) ≠ b := fun h => h
  refine ⟨L (by omega), L (by omega), L (by omega), L (by omega), m1, fun q => ?_, fun q => ?_, L (by omega), m2, fun q => ?_, fun q => ?_, fun q => ?_, fun q => ?_⟩
  · rcases e1 _ q with z | z <;> exact absurd z (by first | exact L (by omega) | exact Nat.not_lt.mpr (Nat.le_add_right I 4))
  · rcases e1 _ q with z | z <;> exact absurd z (by first | exact L (by omega) | exact Nat.not_lt.mpr (Nat.le_add_right I 3))
  · rcases e2 _ q with z | z <;> exact absurd z (by first | exact L (by omega) | exact Nat.not_lt.mpr (Nat.le_add_right I 4))
  · rcases e2 _ q with z | z <;> exact absurd z (by first | exact L (by omega) | exact Nat.not_lt.mpr (Nat.le_add_right I 3))
  · rcases e2 _ q with z | z <;> exact absurd z (by first | exact L (by omega) | exact Nat.lt_irrefl I)
  · rcases e1 _ q with z | z <;> exact absurd z (by first | exact L (by omega) | exact Nat.not_lt.mpr (Nat.le_add_right I 1))
def iZipA (K : PySem.W.Frag) (ta : TA) : TI := fun σ H R => ta σ H fun vs H1 => (∃ a b xs ys, vs = [.ref a, .ref b] ∧ SqL K H1 a xs ∧ SqL K H1 b ys ∧ R (Itzz K (.ref a) (.ref b)) H1) ∨
  (∃ x y, vs = [.str x, .str y] ∧ R (Itzz K (.str x) (.str y)) H1) ∨ ∃ x b ys, vs = [.str x, .ref b] ∧ SqL K H1 b ys ∧ R (Itzz K (.str x) (.ref b)) H1
theorem zip_turns {v1 v2 : V} {o1 o2 : Obj} {h' : Heap} {R : It → Hp → Prop} {elts : List Expr} {kk : Nat} {tpos : Pos} (I : L2.Inv X pins σ H s) (h1 : ∀ a, v1 = .ref a → a < s.heap.objs.size) (h2 : ∀ a, v2 = .ref a → a < s.heap.objs.size) (q : Zip0 s.heap h' o1 o2)
    (s1 : zSt v1 s.heap.objs.size 0 h') (s2 : zSt v2 (s.heap.objs.size + 1) 0 h') (r : R (Itzz X.K v1 v2) H) :
    PIE X pins σ (.Tuple elts kk tpos) R (.ref (s.heap.objs.size + 4)) { s with heap := h' } := by
  have I2 : L2.Inv X pins σ H { s with heap := h' } := I.kept (t' := s.toks) q.k
  refine ⟨s.heap.objs.size + 4, [s.heap.objs.size + 4, s.heap.objs.size + 2, s.heap.objs.size + 3, s.heap.objs.size, s.heap.objs.size + 1], _, _, H, rfl, I2,
    turn_zz (sep_of h1 h2) (fun a e => Nat.ne_of_lt (h1 a e)) (fun a e => Nat.ne_of_lt (Nat.lt_of_lt_of_le (h2 a e) (Nat.le_add_right _ _))), ⟨q.z, q.ti, ⟨_, _, q.to⟩, s1, s2⟩, fun c hc => ?_, r⟩
  have hle : s.heap.objs.size ≤ c := by
    simp only [List.mem_cons, List.not_mem_nil, or_false] at hc
    rcases hc with rfl | rfl | rfl | rfl | rfl <;> first | exact Nat.le_add_right _ _ | exact Nat.le_refl _
  exact I.fpOk hle (I.hok.fresh hle)
end
theorem pi_zipA {X : Cx} {e e2 : Expr} {ta : TA} {p pos tpos : Pos} {elts : List Expr} {kk : Nat} (hg : Gl X "zip") (hm : X.mg "zip" = none) (ha : PA X [e, e2] ta)
    (hs : starEach [e, e2] X.env = (false, eval e X.env) :: starEach [e2] X.env := by rfl) (hpl : (backTo pos (starEach [e2] X.env)).any (·.1) = false := by rfl) : PI X (.Tuple elts kk tpos) (.Call (.Name "zip" p) [e, e2] [] pos) (iZipA X.K ta) := by
  refine ⟨fun pins s σ H R I h => Call_ (ld_blt I hg hm PyProof.Rows.boot_zip (PyProof.Rows.callWith_type1 (thn (ha.run pos pins s σ H _ I h) fun us s1 ⟨vs, H1, I1, r1, q1⟩ => ?_) hs hpl))⟩
  rcases q1 with ⟨a, b, xs, ys, ex, sa, sb, q⟩ | ⟨x, y, ex, q⟩ | ⟨x, b, ys, ex, sb, q⟩
  · subst ex
    obtain ⟨u1, u2, rfl, r, r'⟩ := vals2 r1
    cases (show u1 = Value.ref a from r)
    cases (show u2 = Value.ref b from r')
    obtain ⟨_, _, p1, _⟩ := I1.list sa
    obtain ⟨_, _, p2, _⟩ := I1.list sb
    refine call_zip_2 p1.isList p2.isList fun h' hz hTI hTO h1 h2 hsz hk => wpAny_pyIter_zip hz ?_
    obtain ⟨o1, g1, c1⟩ := id h1
    obtain ⟨o2, g2, c2⟩ := id h2
    exact zip_turns (v1 := .ref a) (v2 := .ref b) I1 (fun _ e => by cases e; exact p1.lt) (fun _ e => by cases e; exact p2.lt) ⟨hz, hTI, hTO, g1, g2, hk⟩ h1 h2 q
  · subst ex
    obtain ⟨u1, u2, rfl, r, r'⟩ := vals2 r1
    obtain ⟨t1, rfl⟩ := r
    obtain ⟨t2, rfl⟩ := r'
    exact call_zss fun h' z => wpAny_pyIter_zip z.z (zip_turns (v1 := .str x) (v2 := .str y) I1 (fun _ e => nomatch e) (fun _ e => nomatch e) z ⟨t1, _, z.a, rfl, rfl⟩ ⟨t2, _, z.b, rfl, rfl⟩ q)
  · subst ex
    obtain ⟨u1, u2, rfl, r, r'⟩ := vals2 r1
    obtain ⟨t1, rfl⟩ := r
    cases (show u2 = Value.ref b from r')
    obtain ⟨_, _, p2, _⟩ := I1.list sb
    exact call_zsl p2.isList fun h' z => wpAny_pyIter_zip z.z (zip_turns (v1 := .str x) (v2 := .ref b) I1 (fun _ e => nomatch e) (fun _ e => by cases e; exact p2.lt) z ⟨t1, _, z.a, rfl, rfl⟩ ⟨_, z.b, rfl, rfl⟩ q)
/-- what a walked value stands for -/
def AtZ (g : Gc) (H : Hp) (A : Addr → Prop) (v : V) (ds : List D) : Prop := match v with
  | .ref a => AtI g H A a ds
  | .str x => ds = x.cps.toList.map fun c => .str [c]
  | _ => False
theorem lasts_z {v : V} {ds : List D} : Lasts (fun H A => AtZ g H A v ds) := fun H A H2 A2 h k => by
  cases v with
  | ref a => exact lasts_list H A H2 A2 h k
  | str x => exact h
  | _ => exact h.elim
theorem at_some {g : Gc} {H : Hp} {A : Addr → Prop} {v : V} {ds : List D} {i : Nat} {d : D} (h : AtZ g H A v ds) (hd : ds[i]? = some d) : ∃ u, zAt g.K H v i u ∧ ∀ u', zAll g.K H v i u' → Rep g H A u' d := by
  cases v with
  | ref a =>
    obtain ⟨vs, ha, ra⟩ := h
    have sq : SqL g.K H a vs := ha.elim (fun z => .inl (.inl z.1)) fun z => z.sq
    obtain ⟨u, hu, ru⟩ := ra.get hd
    refine ⟨u, ⟨vs, sq, hu⟩, fun u' q => ?_⟩
    have := q vs sq
    rw [hu] at this
    cases this
    exact ru
  | str x =>
    have h' : ds = x.cps.toList.map fun c => D.str [c] := h
    rw [h', List.getElem?_map] at hd
    cases e : x.cps.toList[i]? with
    | none => rw [e] at hd; cases hd
    | some c =>
      rw [e] at hd
      cases hd
      have e' : x.cps[i]? = some c := by simpa using e
      refine ⟨_, ⟨c, e', rfl⟩, fun u' q => ?_⟩
      obtain ⟨c2, e2, rfl⟩ := q
      rw [e'] at e2
      cases e2
      exact .str [c]
  | _ => exact h.elim
theorem at_none {g : Gc} {H : Hp} {A : Addr → Prop} {v : V} {ds : List D} {i : Nat} (h : AtZ g H A v ds) (hd : ds.length ≤ i) : zEnd g.K H v i := by
  cases v with
  | ref a =>
    obtain ⟨vs, ha, ra⟩ := h
    have sq : SqL g.K H a vs := ha.elim (fun z => .inl (.inl z.1)) fun z => z.sq
    exact ⟨vs, sq, by rw [ra.length]; exact hd⟩
  | str x =>
    have h' : ds = x.cps.toList.map fun c => D.str [c] := h
    rw [h', List.length_map] at hd
    show x.cps.size ≤ i
    simpa using hd
  | _ => exact h.elim
theorem at_known {g : Gc} {H : Hp} {A : Addr → Prop} {v : V} {ds : List D} (i : Nat) (h : AtZ g H A v ds) : (∃ u, zAt g.K H v i u) ∨ zEnd g.K H v i := by
  by_cases hi : i < ds.length
  · obtain ⟨u, q, _⟩ := at_some h (List.getElem?_eq_getElem hi)
    exact .inl ⟨u, q⟩
  · exact .inr (at_none h (Nat.le_of_not_lt hi))
theorem good_zz {g : Gc} {v1 v2 : V} {xs ys : List D} : ItGood g (Itzz g.K v1 v2) (fun H A => AtZ g H A v1 xs ∧ AtZ g H A v2 ys) (zipD xs ys) := fun i H A ⟨h1, h2⟩ hA => by
  refine ⟨fun d hd => ?_, fun hl => ⟨at_known i h1, at_known i h2, ?_⟩⟩
  · rw [zipD_get] at hd
    cases e : xs[i]? with
    | none => rw [e] at hd; cases hd
    | some x =>
      cases e' : ys[i]? with
      | none => rw [e, e'] at hd; cases hd
      | some y =>
        rw [e, e'] at hd
        cases hd
        obtain ⟨u1, a1, b1⟩ := at_some h1 e
        obtain ⟨u2, a2, b2⟩ := at_some h2 e'
        refine ⟨⟨u1, u2, a1, a2⟩, fun z H' yd => ?_⟩
        obtain ⟨T, w1, w2, rfl, hT, rfl, q1, q2⟩ := yd
        exact new_pair (fun a h => (hA a h).ex) hT (.cons (b1 _ q1) (.cons (b2 _ q2) .nil))
  · rw [zipD_len] at hl
    by_cases hx : xs.length ≤ i
    · exact .inl (at_none h1 hx)
    · exact .inr (at_none h2 (by omega))
def chars (s : List Nat) : List D := s.map fun c => .str [c]
def oZipA : D → D → Option (List D)
  | .lst xs, .lst ys => some (zipD xs ys)
  | .str x, .str y => some (zipD (chars x) (chars y))
  | .str x, .lst ys => some (zipD (chars x) ys)
  | _, _ => none
def zipA (fa fb : M D) : M (List D) := andThen fa fun x => andThen fb fun y => lift (oZipA x y)
section
variable {X : Cx} {W : WX} {m1 m2 : Bool} {a b : Expr} {fa fb : M D} {pos : Pos}
theorem chars_S {s : List Nat} : chars s = (S s).cps.toList.map fun c => D.str [c] := rfl
theorem ji_zipA {p tpos : Pos} {elts : List Expr} {kk : Nat} (hg : Gl X "zip") (hm : X.mg "zip" = none) (ha : JE X W .im m1 a fa) (hb : JE X W .im m2 b fb) (hs : starEach [a, b] X.env = (false, eval a X.env) :: starEach [b] X.env := by rfl) (hs2 : starEach [b] X.env = (false, eval b X.env) :: starEach [] X.env := by rfl)
    (hpl : (backTo pos (starEach [b] X.env)).any (·.1) = false := by rfl) : JI X W (m1 || m2) (.Tuple elts kk tpos) (.Call (.Name "zip" p) [a, b] [] pos) (zipA fa fb) :=
  PI.weak (pi_zipA hg hm (pa_cons ha (pa_cons hb pa_nil hs2) hs) hs hpl) fun σ H R ⟨γ, τ, Re, h⟩ => by
    unfold zipA at h
    rw [fit_bind] at h
    refine tE_bin (Kc := fun x y H2 => (∃ a b xs ys, [x, y] = [V.ref a, V.ref b] ∧ SqL X.K H2 a xs ∧ SqL X.K H2 b ys ∧ R (Itzz X.K (.ref a) (.ref b)) H2) ∨ (∃ x' y', [x, y] = [V.str x', V.str y'] ∧ R (Itzz X.K (.str x') (.str y')) H2) ∨ ∃ x' b ys, [x, y] = [V.str x', V.ref b] ∧ SqL X.K H2 b ys ∧ R (Itzz X.K (.str x') (.ref b)) H2) (k1 := .im) (k2 := .im) (.inl (by decide)) Re (h.mono (fun d τ1 h => ?_) fun _ _ q => q)
    rw [fit_bind] at h
    refine h.mono (fun e τ2 h x y H2 s2 R2 kp vx vy => ?_) fun _ _ q => q
    obtain ⟨ds, ed, h⟩ := fit_lift.mp h
    have both : ∀ {v1 v2 : V} {xs ys : List D}, Lasts (fun H A => AtZ X.g H A v1 xs ∧ AtZ X.g H A v2 ys) := fun {v1 v2 xs ys} H A H2 A2 q k => ⟨lasts_z H A H2 A2 q.1 k, lasts_z H A H2 A2 q.2 k⟩
    unfold oZipA at ed
    split at ed
    · cases ed
      obtain ⟨a, vs, rfl, sa, ia⟩ := at_of_rep (show Rep _ _ _ _ _ from vx) (.inl rfl)
      obtain ⟨b, ws, rfl, sb, ib⟩ := at_of_rep (show Rep _ _ _ _ _ from vy) (.inl rfl)
      exact .inl ⟨a, b, vs, ws, rfl, sa, sb, h _ H2 _ s2 R2 kp ⟨ia, ib⟩ both (good_zz (v1 := .ref a) (v2 := .ref b))⟩
    · cases ed
      cases (show Rep _ _ _ _ _ from vx)
      cases (show Rep _ _ _ _ _ from vy)
      exact .inr (.inl ⟨_, _, rfl, h _ H2 _ s2 R2 kp ⟨chars_S, chars_S⟩ both good_zz⟩)
    · cases ed
      cases (show Rep _ _ _ _ _ from vx)
      obtain ⟨b, ws, rfl, sb, ib⟩ := at_of_rep (show Rep _ _ _ _ _ from vy) (.inl rfl)
      exact .inr (.inr ⟨_, b, ws, rfl, sb, h _ H2 _ s2 R2 kp ⟨chars_S, ib⟩ both (good_zz (v2 := .ref b))⟩)
    · cases ed
end
end PL

/-! PL24: a def called with values that are looked at; its answer is flat. -/
namespace PL
open PySem PySem.Spec PyProof.Rows L2
section
variable {X : Cx} {W : WX} {g : Gc} {γ : G} {τ τ1 : PS0} {σ : L2.St} {H H1 H2 : Hp} {A : Addr → Prop} {v : V} {d : D} {k kr : Kd} {e : Expr} {es : List Expr} {f : M D} {fs : M (List D)} {pos : Pos}
theorem LRep.bare (h : LRep g H A v d) : Rep g H (fun _ => False) v d := by
  have k0 : Kp A H (fun _ => False) H := Kp.less fun _ z => z.elim
  rcases h with h | ⟨a, rfl, c⟩
  · exact h.kp k0
  · exact (c.mono k0 rfl).rep fun z => z
def tAl (g : Gc) (W : WX) (f : M (List D)) : TA := fun σ H Q => ∃ γ τ, Rel g γ τ σ H ∧ Fit (f τ) (fun ds τ' => ∀ vs H', Same H H' → Rel g γ τ' σ H' → Kp (Own τ σ) H (Own τ' σ) H' → RepA g H' (fun _ => False) vs ds → Q vs H') (XW g W γ τ σ H)
abbrev JAl (X : Cx) (W : WX) (es : List Expr) (f : M (List D)) : Prop := PA X es (tAl X.g W f)
theorem jal_nil : JAl X W [] argN := pa_nil.weak fun σ H Q ⟨γ, τ, R, h⟩ => h [] H (Same.refl H) R Kp.refl .nil
theorem jal_cons (h : JE X W k false e f) (hs : JAl X W es fs) (hst : starEach (e :: es) X.env = (false, eval e X.env) :: starEach es X.env := by rfl) : JAl X W (e :: es) (argC f fs) := (pa_cons h hs hst).weak fun σ H Q ⟨γ, τ, R, h⟩ => by
  unfold argC at h
  rw [fit_bind] at h
  refine ⟨γ, τ, R, h.mono (fun d τ1 h v H1 s1 P1 => ?_) fun _ _ q => q⟩
  obtain ⟨R1, kp1, v1⟩ := P1.val
  rw [fit_bind] at h
  refine ⟨γ, τ1, R1, h.mono (fun ds τ2 h vs H2 s2 R2 kp2 rs => ?_) fun _ _ q => q.pre kp1⟩
  exact h (v :: vs) H2 ((s1 rfl).trans s2) R2 (kp1.trans kp2) (.cons (v1.l.bare.kp (PL.Same.kp s2 fun _ z => z)) rs)
def callL (mf : List D → DR) (fs : M (List D)) : M D := andThen fs fun ds τ => match mf ds with
  | .ret d _ => if flD d = true then .ok d τ else .stuck
  | .exc n _ => .exc n τ
  | .stuck => .stuck
theorem flat_any {B : Addr → Prop} {H' : Hp} (hf : flD d = true) (h : Rep g H A v d) : Rep g H' B v d := by
  cases d with
  | non => cases h; exact .non
  | bl b => cases h; exact .bl b
  | int i => cases h; exact .int i
  | str s => cases h; exact .str s
  | _ => cases hf
theorem je_callL {n : Nat} {mf : List D → DR} {kk : Nat} {fa : Addr} {fd : FuncData} {ps : List Str} {x : Str} {p : Pos} (hn : LenOk fs n) (F : FnOk X.prog X.w X.K X.mg X.base (L2.CX X.prog X.w) kk fa fd ps (spF X.g n .im mf)) (hr : Room kk X.A) (hm : X.mg x = some (.ref fa)) (hk : PySem.W.keepIn X.K (.ref fa) = true)
    (hb : Binds X.K fd ps []) (tk : Takes X W) (ha : JAl X W (e :: es) fs) (hg : Gl X x := by rfl) (hdb : (x == ("__debug__" : Str)) = false := by decide) (he : starEach (e :: es) X.env = (false, eval e X.env) :: starEach es X.env := by rfl)
    (hpl : (backTo pos (starEach es X.env)).any (·.1) = false := by rfl) : JE X W .im false (.Call (.Name x p) (e :: es) [] pos) (callL mf fs) :=
  (pe_callS F hr hg hm hk hb (fun σ => passAt tk σ) ha hdb he hpl).weak fun σ H Q ⟨γ, τ, R, h⟩ => by
    unfold callL at h
    rw [fit_bind] at h
    refine ⟨γ, τ, R, ?_⟩
    cases ef : fs τ with
    | stuck => rw [ef] at h; exact h.elim
    | exc nm τ1 => rw [ef] at h; exact h
    | ok ds τ1 =>
      rw [ef] at h
      intro vs H1 s1 R1 kp1 rs
      refine ⟨rs.length.trans (hn _ _ _ ef), fun _ => False, ds, fun _ z => z.elim, rs, ?_⟩
      simp only [Fit] at h
      cases em : mf ds with
      | stuck => rw [em] at h; exact h.elim
      | ret d o =>
        rw [em] at h
        simp only [] at h
        intro v H' ou
        by_cases hf : flD d = true
        · rw [if_pos hf] at h
          exact h v H' (fun _ => s1.trans ou.1) ⟨R1.same ou.1, kp1.trans (PL.Same.kp ou.1 fun _ z => z), flat_any hf ou.2⟩
        · rw [if_neg hf] at h
          exact h.elim
      | exc nm o =>
        rw [em] at h
        exact fun H' sm c hc => h H' (R1.same sm) (kp1.trans (PL.Same.kp sm fun _ z => z)) c hc
end
end PL

/-! PL25: what is no longer needed is let go: a slot may be forgotten at any time. -/
namespace PL
open PySem PySem.Spec PyProof.Rows L2
section
variable {X : Cx} {W : WX} {g : Gc} {γ : G} {τ τ' : PS0} {σ : L2.St} {H : Hp} {rk : Kd} {st : Stmt} {f : SM}
def killS (vs : List Nat) (f : SM) : SM := fun τ => match f τ with
  | .nx τ' => .nx (wipeP τ' vs)
  | r => r
theorem Rel.kill (R : Rel g γ τ σ H) : ∀ vs : List Nat, Rel g γ (wipeP τ vs) σ H ∧ Kp (Own τ σ) H (Own (wipeP τ vs) σ) H
  | [] => ⟨R, Kp.refl⟩
  | v :: vs => by
    obtain ⟨R1, k1⟩ := Rel.kill R vs
    have e : σ.set v (σ[v]?.getD none) = σ := by
      apply List.ext_getElem?
      intro j
      by_cases hj : j = v
      · subst hj
        by_cases hl : j < σ.length
        · rw [List.getElem?_set_self hl, List.getElem?_eq_getElem hl]
          rfl
        · rw [List.getElem?_eq_none_iff.mpr (by rw [List.length_set]; omega), List.getElem?_eq_none_iff.mpr (by omega)]
      · rw [List.getElem?_set_ne (Ne.symm hj)]
    have := R1.setNo v .no (σ[v]?.getD none) rfl fun d e => nomatch e
    rw [e] at this
    exact ⟨this.1, k1.trans this.2⟩
theorem js_kill (vs : List Nat) (h : JS X W rk st f) : JS X W rk st (killS vs f) := h.weak fun Dn σ H ⟨γ, τ, R, q⟩ => by
  refine ⟨γ, τ, R, ?_⟩
  unfold killS at q
  cases ef : f τ with
  | stuck => rw [ef] at q; exact q.elim
  | exc n τ' => rw [ef] at q; exact q
  | ret d τ' => rw [ef] at q; exact q
  | nx τ' =>
    rw [ef] at q
    intro σ' H' R' k'
    obtain ⟨R2, k2⟩ := R'.kill vs
    exact q σ' H' R2 (k'.trans k2)
end
end PL

/-! PL26: x += e of ints; divmod; a dict asked with a default; a dict of one's own stored into; a dict read. -/
namespace PL
open PySem PySem.Spec PyProof.Rows L2
theorem u1 {A : Around} {k : Nat} (r : Room k A) : A.units + 1 < cLine := by have := r.un; omega
section
variable {X : Cx} {W : WX} {g : Gc} {γ : G} {τ τ' τ1 τ2 : PS0} {σ : L2.St} {H H' H1 H2 : Hp} {A : Addr → Prop} {rk k k1 k2 k3 kr : Kd} {m m1 m2 m3 : Bool} {st : Stmt} {e a b c : Expr} {f fa fb fc : M D} {pos : Pos}
/-! ### x += e -/
def augI (i : Nat) (f : M D) : SM := fun τ => match τ[i]? with
  | some (.im (.int a)) => (match f τ with
    | .ok (.int b) τ1 => .nx (τ1.set i (.im (.int (a + b))))
    | .exc n τ1 => .exc n τ1
    | _ => .stuck)
  | _ => .stuck
theorem js_aug (i : Nat) {x : Str} {pos' : Pos} (hN : X.N.Nodup) (he : JE X W k m e f) (hi : X.N[i]? = some x := by rfl) (hx : Loc X.env.scope x := by first | exact .inl rfl | exact .inr rfl) (hf : X.fn x = true ∨ X.env.scope.names.lookup x = some .local := by first | exact .inl rfl | exact .inr rfl | assumption) :
    JS X W rk (.AugAssign (.Name x pos') .Add e pos) (augI i f) := (ps_aug hN hi hx he ip_add hf).weak fun Dn σ H ⟨γ, τ, R, q⟩ => by
  unfold augI at q
  split at q
  · rename_i a h
    obtain ⟨v, ev, r⟩ := R.im i _ h
    cases r
    refine ⟨.int a, ev, γ, τ, R, ?_⟩
    cases ef : f τ with
    | stuck => rw [ef] at q; exact q.elim
    | exc n τ1 => rw [ef] at q; exact XS.x q
    | ok d τ1 =>
      rw [ef] at q
      intro y H1 s1 P1
      obtain ⟨R1, kp1, v1⟩ := P1.val
      cases d with
      | int b =>
        obtain ⟨R2, k2⟩ := R1.setIm i (v := .int (a + b)) (d := .int (a + b)) (.int _)
        exact ⟨a, b, rfl, v1.l.int, q _ H1 R2 (kp1.trans k2)⟩
      | _ => exact q.elim
  · exact q.elim
/-! ### divmod -/
def oDivmod : D → D → Option D := fun d e => match d, e with
  | .int i, .int j => if 0 < j ∧ j < 1073741824 then some (.tup [.int (i / j), .int (i % j)]) else none
  | _, _ => none
theorem fn_divmod : Fn2 .im g (fun xs H Q => ∃ i j, xs = [.int i, .int j] ∧ CDiv i j ∧ ∀ p, H p = none → Q (.ref p) (upd H p (.tup [.int (i / j), .int (i % j)]))) oDivmod := fun H A x y d e z Q hA rx ry ho q => by
  unfold oDivmod at ho
  split at ho
  · split at ho
    · rename_i hz
      cases ho
      rw [rx.int, ry.int]
      exact ⟨_, _, rfl, ⟨by omega, by omega⟩, fun p hp => q _ _ (out_tup hA (.cons (.int _) (.cons (.int _) .nil)) hp)⟩
    · cases ho
  · cases ho
/-! ### dicts -/
theorem RepK.val {kvs : List (Key × V)} {es : List (Key × D)} {kk : Key} (h : RepK g H A kvs es) : (∀ d, getD' es kk = some d → ∃ v, valV kvs kk = some v ∧ Rep g H A v d) ∧ (getD' es kk = none → valV kvs kk = none) := by
  induction es generalizing kvs with
  | nil =>
    rcases h.un with ⟨rfl, _⟩ | ⟨_, _, _, _, _, _, z, _⟩
    · exact ⟨fun d z => (nomatch z), fun _ => rfl⟩
    · cases z
  | cons p es ih =>
    rcases h.un with ⟨_, z⟩ | ⟨k1, v1, d1, kvs', es', rfl, z, r, h'⟩
    · cases z
    · cases z
      by_cases hk : k1 = kk
      · subst hk
        have e1 : getD' ((k1, d1) :: es) k1 = some d1 := by unfold getD'; simp
        have e2 : valV ((k1, v1) :: kvs') k1 = some v1 := valV_pos (p := (k1, v1)) rfl
        rw [e1, e2]
        exact ⟨fun d z => by cases z; exact ⟨v1, rfl, r⟩, fun z => (nomatch z)⟩
      · have e1 : getD' ((k1, d1) :: es) kk = getD' es kk := by unfold getD'; simp [hk]
        have e2 : valV ((k1, v1) :: kvs') kk = valV kvs' kk := valV_neg (p := (k1, v1)) hk
        rw [e1, e2]
        exact ih h'
theorem keyD_v {d : D} {kk : Key} {v : V} (h : keyD d = some kk) (r : LRep g H A v d) : v = kV kk := by
  cases d with
  | int i => cases h; exact r.int
  | str s => cases h; exact r.str
  | _ => cases h
def asD : D → Option (List (Key × D))
  | .dK es => some es
  | _ => none
def keyM (f : M D) : M Key := andThen f fun d => lift (keyD d)
/-- d.get(k, x) -/
def getE (fa fk fx : M D) : M D := andThen fa fun x => andThen (lift (asD x)) fun es => andThen fk fun y => andThen (lift (keyD y)) fun kk => andThen fx fun z => ret ((getD' es kk).getD z)
theorem asD_v {d : D} {es : List (Key × D)} {v : V} (h : asD d = some es) (r : LRep g H A v d) : ∃ a kvs, v = .ref a ∧ H a = some (.dK kvs) ∧ RepK g H A kvs es := by
  cases d with
  | dK es' => cases h; obtain ⟨a, kvs, e, ha, ek, ra⟩ := r.dK; exact ⟨a, kvs, e, ha, ek, ra⟩
  | _ => cases h
theorem asD_dK {d : D} {es : List (Key × D)} (h : asD d = some es) : d = .dK es := by
  cases d with
  | dK es' => cases h; rfl
  | _ => cases h
theorem je_dget2 {apos : Pos} (hu : X.A.units + 1 < cLine) (ha : JE X W k1 m1 a fa) (hb : JE X W k2 m2 b fb) (hc : JE X W .im m3 c fc) (hm : M2 X a "get" apos b c pos := by exact ⟨rfl, rfl, rfl, rfl⟩) (hk : k1 ≠ .ln ∨ (m2 || m3) = false := by first | exact .inr rfl | exact .inl (by decide)) (hk2 : k2 ≠ .ln ∨ m3 = false := by first | exact .inr rfl | exact .inl (by decide)) :
    JE X W .im ((m1 || m2) || m3) (.Call (.Attribute a "get" apos) [b, c] [] pos) (getE fa fb fc) := (pe_dget2 hu ha hb hc hm).weak fun σ H Q ⟨γ, τ, R, h⟩ => by
  unfold getE at h
  rw [fit_bind] at h
  refine ⟨γ, τ, R, h.mono (fun d τ1 h x H1 s1 P1 => ?_) fun _ _ q => q⟩
  obtain ⟨R1, kp1, v1⟩ := P1.val
  rw [fit_bind, fit_lift] at h
  obtain ⟨es, ed, h⟩ := h
  obtain ⟨ad, kvs, rfl, hd, rk⟩ := asD_v ed v1.l
  refine ⟨ad, rfl, .inl ⟨kvs, .inl hd⟩, ?_⟩
  rw [fit_bind] at h
  refine ⟨γ, τ1, R1, h.mono (fun e τ2 h y H2 s2 P2 => ?_) fun _ _ q => q.pre kp1⟩
  obtain ⟨R2, kp2, v2⟩ := P2.val
  rw [fit_bind, fit_lift] at h
  obtain ⟨kk, ek, h⟩ := h
  rw [fit_bind] at h
  refine ⟨γ, τ2, R2, h.mono (fun z τ3 h w H3 s3 P3 => ?_) fun _ _ q => q.pre (kp1.trans kp2)⟩
  obtain ⟨R3, kp3, v3⟩ := P3
  have v1' := carry (k1 := k1) (m2 := m2 || m3) hk v1 (fun q => or_same s2 s3 q) (kp2.trans kp3)
  obtain ⟨ad', kvs', e', hd', rk'⟩ := asD_v ed v1'.l
  cases e'
  have ey : y = kV kk := keyD_v ek v2.l
  subst ey
  refine ⟨valV kvs' kk, DGet.k hd', ?_⟩
  have vv := rk'.val (kk := kk)
  refine h _ H3 (or_same (or_same s1 s2) s3) ⟨R3, (kp1.trans kp2).trans kp3, ?_⟩
  cases eg : getD' es kk with
  | none => rw [vv.2 eg]; exact v3
  | some dv =>
    obtain ⟨v, ev, rv⟩ := vv.1 _ eg
    rw [ev]
    exact rv
/-- d[k] -/
def dixE (fa fk : M D) : M D := andThen fa fun x => andThen fk fun y => andThen (lift (asD x)) fun es => andThen (lift (keyD y)) fun kk => lift (getD' es kk)
theorem je_dix (hu : X.A.units + 1 < cLine) (ha : JE X W k1 m1 a fa) (hb : JE X W k2 m2 b fb) (hk : k1 ≠ .ln ∨ m2 = false := by first | exact .inr rfl | exact .inl (by decide)) (hs : NoSl b := by exact fun _ _ => rfl) : JE X W .im (m1 || m2) (.Subscript a b pos) (dixE fa fb) := (pe_dget hu ha hb hs).weak fun σ H Q ⟨γ, τ, R, h⟩ => by
  unfold dixE at h
  rw [fit_bind] at h
  refine ⟨γ, τ, R, h.mono (fun d τ1 h x H1 s1 P1 => ?_) fun _ _ q => q⟩
  obtain ⟨R1, kp1, v1⟩ := P1.val
  rw [fit_bind] at h
  refine ⟨γ, τ1, R1, h.mono (fun e τ2 h y H2 s2 P2 => ?_) fun _ _ q => q.pre kp1⟩
  obtain ⟨R2, kp2, v2⟩ := P2.val
  rw [fit_bind, fit_lift] at h
  obtain ⟨es, ed, h⟩ := h
  rw [fit_bind, fit_lift] at h
  obtain ⟨kk, ek, h⟩ := h
  obtain ⟨dv, eg, h⟩ := fit_lift.mp h
  have v1' := carry (k1 := k1) hk v1 s2 kp2
  obtain ⟨ad', kvs', rfl, hd', rk'⟩ := asD_v ed v1'.l
  have ey : y = kV kk := keyD_v ek v2.l
  subst ey
  obtain ⟨v, ev, rv⟩ := (rk'.val (kk := kk)).1 _ eg
  exact ⟨ad', v, rfl, by rw [← ev]; exact DGet.k hd', h v H2 (or_same s1 s2) ⟨R2, kp1.trans kp2, rv⟩⟩
/-- x[k] = e, x a name that owns a dict -/
def oSetD : OMt
  | .dK es, [y, v] => if es.length < 16777216 then (keyD y).map fun kk => (.non, .dK (putD es kk v)) else none
  | _, _ => none
theorem js_dix (i : Nat) {x : Str} {px p3 : Pos} {fv fi : M D} {ei ev : Expr} (hu : X.A.units + 1 < cLine) (hv' : JE X W .im m1 ev fv) (hi' : JE X W .im m2 ei fi) (hN : X.N[i]? = some x := by rfl) (hv : Vis X.env.scope x := by first | exact Or.inl rfl | exact Or.inr (Or.inl rfl) | exact Or.inr (Or.inr rfl)) (hd : (x == ("__debug__" : Str)) = false := by decide) (hcd : (x == ("__classdict__" : Str)) = false := by decide)
    (hs : swapsWith ev (some (.Subscript (.Name x px) ei p3)) pos.line X.env = pure false := by rfl) :
    JS X W rk (.Assign [.Subscript (.Name x px) ei p3] ev pos) (stIx i fv fi oSetD) := (ps_dput hu (pe_var hN hv hd hcd) hi' hv' hs).weak fun Dn σ H ⟨γ, τ, R, q⟩ => by
  unfold stIx at q
  refine ⟨γ, τ, R, ?_⟩
  cases ef : fv τ with
  | stuck => rw [ef] at q; exact q.elim
  | exc n τ' => rw [ef] at q; exact XS.x q
  | ok d τ1 =>
    rw [ef] at q
    intro v H1 s1 P1
    obtain ⟨R1, kp1, r1⟩ := P1
    cases e1 : ownC τ1 i with
    | none => simp only [e1] at q; exact q.elim
    | some c1 =>
      simp only [e1] at q
      obtain ⟨a, s, hs, ho, hi, ct⟩ := R1.ownC e1
      refine ⟨.ref a, hi, γ, τ1, R1, ?_⟩
      cases ei' : fi τ1 with
      | stuck => simp only [ei'] at q; exact q.elim
      | exc n τ' => simp only [ei'] at q; exact (XS.x q).pre kp1
      | ok j τ2 =>
        simp only [ei'] at q
        intro iv H2 s2 P2
        obtain ⟨R2, kp2, r2⟩ := P2
        cases e2 : ownC τ2 i with
        | none => simp only [e2] at q; exact q.elim
        | some c2 =>
          simp only [e2] at q
          obtain ⟨a', s', hs', ho', hi'', ct'⟩ := R2.ownC e2
          have ea : a' = a := by rw [hi] at hi''; cases hi''; rfl
          subst ea
          cases eo : oSetD c2 [j, d] with
          | none => simp only [eo] at q; exact q.elim
          | some zc =>
            obtain ⟨z, c'⟩ := zc
            simp only [eo] at q
            unfold oSetD at eo
            split at eo
            · rename_i es yy vv heq
              cases heq
              split at eo
              · rename_i hz
                cases ek : keyD j with
                | none => rw [ek] at eo; cases eo
                | some kk =>
                  rw [ek] at eo
                  cases eo
                  cases ct' with
                  | @dK kvs _ hl hkk rl =>
                    rw [keyD_v ek (.inl r2)]
                    have oa : OwnAt τ2 σ i a' := ⟨⟨s', hs', ho'⟩, hi''⟩
                    have hA : Av γ τ2 σ a' := .inr ⟨i, oa⟩
                    have hlen : ∀ {kvs : List (Key × V)}, kvs.map (·.1) = es.map (·.1) → kvs.length < sizeLine := fun {kvs} q => by
                      have := congrArg List.length q
                      rw [List.length_map, List.length_map] at this
                      rw [this, sizeLine_eq]
                      exact hz
                    refine ⟨a', _, rfl, DPut.k hl (hlen hkk), ?_⟩
                    have rp : RepK X.g H2 (Av γ τ2 σ) _ es := ⟨hkk, rl⟩
                    have rp2 := (rp.put (k := kk) (r1.kp kp2.av)).kp (B := Av γ τ2 σ) (H' := upd H2 a' (.dK (putK kvs kk v))) fun b u e n => ⟨by rw [upd_ne (fun z => by rw [z] at n; exact n hA)]; exact e, n⟩
                    obtain ⟨R', k'⟩ := R2.put hs' oa upd_keep (Cont.dK upd_same rp2.k rp2.v)
                    unfold putC at q
                    rw [hs'] at q
                    exact q σ _ R' ((kp1.trans kp2).trans k')
              · cases eo
            · cases eo
end
end PL

/-! PL27: min, max, sorted of lists of data, in Python's order. -/
namespace PL
open PySem PySem.Spec PyProof.Rows L2
/-! ### the order, over our data -/
def alk (xs : List D) : Bool := xs.all fun x => xs.all fun y => PySem.W.alike (toPy x) (toPy y)
def noNon : D → Bool
  | .non => false
  | _ => true
def tupC : D → Bool
  | .tup (_ :: _) => true
  | _ => false
def noTup : D → Bool
  | .non => false
  | .tup _ => false
  | _ => true
def minDD (x : D) (xs : List D) : D := xs.foldl (fun a y => if PySem.W.dataLt (toPy y) (toPy a) = true then y else a) x
def maxDD (x : D) (xs : List D) : D := xs.foldl (fun a y => if PySem.W.dataLt (toPy a) (toPy y) = true then y else a) x
theorem minDD_py : ∀ {xs : List D} {x : D}, toPy (minDD x xs) = PySem.W.minD (toPy x) (toPyA xs)
  | [], _ => rfl
  | y :: ys, x => by
    show toPy (minDD (if PySem.W.dataLt (toPy y) (toPy x) = true then y else x) ys) = PySem.W.minD (if PySem.W.dataLt (toPy y) (toPy x) = true then toPy y else toPy x) (toPyA ys)
    rw [minDD_py]
    split <;> rfl
theorem maxDD_py : ∀ {xs : List D} {x : D}, toPy (maxDD x xs) = PySem.W.maxD (toPy x) (toPyA xs)
  | [], _ => rfl
  | y :: ys, x => by
    show toPy (maxDD (if PySem.W.dataLt (toPy x) (toPy y) = true then y else x) ys) = PySem.W.maxD (if PySem.W.dataLt (toPy x) (toPy y) = true then toPy y else toPy x) (toPyA ys)
    rw [maxDD_py]
    split <;> rfl
theorem minDD_mem : ∀ {xs : List D} {x : D}, minDD x xs ∈ x :: xs
  | [], _ => List.mem_cons_self
  | y :: ys, x => by
    show minDD (if PySem.W.dataLt (toPy y) (toPy x) = true then y else x) ys ∈ _
    have := minDD_mem (xs := ys) (x := if PySem.W.dataLt (toPy y) (toPy x) = true then y else x)
    rcases List.mem_cons.mp this with h | h
    · rw [h]
      split
      · exact List.mem_cons_of_mem _ List.mem_cons_self
      · exact List.mem_cons_self
    · exact List.mem_cons_of_mem _ (List.mem_cons_of_mem _ h)
theorem maxDD_mem : ∀ {xs : List D} {x : D}, maxDD x xs ∈ x :: xs
  | [], _ => List.mem_cons_self
  | y :: ys, x => by
    show maxDD (if PySem.W.dataLt (toPy x) (toPy y) = true then y else x) ys ∈ _
    have := maxDD_mem (xs := ys) (x := if PySem.W.dataLt (toPy x) (toPy y) = true then y else x)
    rcases List.mem_cons.mp this with h | h
    · rw [h]
      split
      · exact List.mem_cons_of_mem _ List.mem_cons_self
      · exact List.mem_cons_self
    · exact List.mem_cons_of_mem _ (List.mem_cons_of_mem _ h)
mutual
theorem toPy_inj : ∀ (n : Nat) (d e : D), pl n d = true → pl n e = true → toPy d = toPy e → d = e
  | n, .non, e, _, h, q => by cases e <;> first | rfl | (unfold pl at h; cases h; done) | (cases q; done)
  | n, .bl _, e, _, h, q => by cases e <;> first | (cases q; rfl) | cases q
  | n, .int _, e, _, h, q => by cases e <;> first | (cases q; rfl) | cases q
  | n, .str x, e, _, h, q => by
    cases e <;> first | (cases q; done) | skip
    rename_i y
    have q : PyData.str (S x) = PyData.str (S y) := q
    injection q with q
    rw [S_inj q]
  | n, .lst xs, e, h1, h, q => by
    cases e <;> first | (cases q; done) | skip
    rename_i ys
    cases n with
    | zero => unfold pl at h; cases h
    | succ n =>
      unfold pl at h h1
      have q : PyData.list (toPyA xs) = PyData.list (toPyA ys) := q
      injection q with q
      rw [toPyA_inj n xs ys h1 h q]
  | n, .tup xs, e, h1, h, q => by
    cases e <;> first | (cases q; done) | skip
    rename_i ys
    cases n with
    | zero => unfold pl at h; cases h
    | succ n =>
      unfold pl at h h1
      have q : PyData.tuple (toPyA xs) = PyData.tuple (toPyA ys) := q
      injection q with q
      rw [toPyA_inj n xs ys h1 h q]
  | n, .dK _, e, h, _, _ => by unfold pl at h; cases h
  | n, .dT _, e, h, _, _ => by unfold pl at h; cases h
  | n, .exc _, e, h, _, _ => by unfold pl at h; cases h
  | n, .fz _, e, h, _, _ => by unfold pl at h; cases h
  | n, .mt _, e, h, _, _ => by unfold pl at h; cases h
  | n, .fk _, e, h, _, _ => by unfold pl at h; cases h
  | n, .ft _, e, h, _, _ => by unfold pl at h; cases h
theorem toPyA_inj : ∀ (n : Nat) (xs ys : List D), plA n xs = true → plA n ys = true → toPyA xs = toPyA ys → xs = ys
  | n, [], [], _, _, _ => rfl
  | n, [], _ :: _, _, _, q => by cases q
  | n, _ :: _, [], _, _, q => by cases q
  | n, x :: xs, y :: ys, h1, h2, q => by
    unfold plA at h1 h2
    rw [Bool.and_eq_true] at h1 h2
    have q : toPy x :: toPyA xs = toPy y :: toPyA ys := q
    injection q with q1 q2
    rw [toPy_inj n x y h1.1 h2.1 q1, toPyA_inj n xs ys h1.2 h2.2 q2]
end
theorem plA_mem {n : Nat} {xs : List D} (h : plA n xs = true) {x : D} (hx : x ∈ xs) : pl n x = true := by
  rw [plA_all] at h
  exact List.all_eq_true.mp h x hx
theorem toPyA_get {xs : List D} {i : Nat} : (toPyA xs)[i]? = (xs[i]?).map toPy := by rw [toPyA_map, List.getElem?_map]
theorem alk_of {xs : List D} (h : alk xs = true) : ∀ x ∈ toPyA xs, ∀ y ∈ toPyA xs, PySem.W.alike x y = true := fun x hx y hy => by
  rw [toPyA_map] at hx hy
  obtain ⟨d, hd, rfl⟩ := List.mem_map.mp hx
  obtain ⟨e, he, rfl⟩ := List.mem_map.mp hy
  unfold alk at h
  exact List.all_eq_true.mp (List.all_eq_true.mp h d hd) e he
theorem noNon_of {xs : List D} {n : Nat} (p : plA n xs = true) (h : xs.all noNon = true) : ∀ x ∈ toPyA xs, x ≠ PyData.none := fun x hx e => by
  rw [toPyA_map] at hx
  obtain ⟨d, hd, rfl⟩ := List.mem_map.mp hx
  have h1 := List.all_eq_true.mp h d hd
  have h2 := plA_mem p hd
  cases d with
  | non => cases h1
  | dK _ => unfold pl at h2; cases h2
  | dT _ => unfold pl at h2; cases h2
  | exc _ => unfold pl at h2; cases h2
  | fz _ => unfold pl at h2; cases h2
  | mt _ => unfold pl at h2; cases h2
  | fk _ => unfold pl at h2; cases h2
  | ft _ => unfold pl at h2; cases h2
  | _ => cases e

/-! ### min(xs), max(xs) -/
def rPickL (K : PySem.W.Frag) (pick : PyData → List PyData → PyData) : List V → Hp → VK → Prop := fun vs H Q => ∃ (a : Addr) (xs : List V) (d : PyData) (ds : List PyData), vs = [V.ref a] ∧ SqL K H a xs ∧ DpAll K H xs (d :: ds) ∧ PySem.W.AlikeAll (d :: ds) ∧ PyData.depthAll (d :: ds) ≤ 60 ∧
  ∀ (i : Nat) (x : V), xs[i]? = some x → (d :: ds)[i]? = some (pick d ds) → Q x H
section
variable {X : Cx}
theorem vals_at {xs : List V} {us : List Value} (r : Vals xs us) {i : Nat} {u : Value} (h : us[i]? = some u) : ∃ x, xs[i]? = some x ∧ RelV x u := by
  have hi : i < xs.length := by
    rw [L2.Vals.length r]
    exact (List.getElem?_eq_some_iff.mp h).1
  obtain ⟨u', e, ru⟩ := L2.Vals.get r (List.getElem?_eq_getElem hi)
  rw [h] at e
  cases e
  exact ⟨_, List.getElem?_eq_getElem hi, ru⟩
theorem cr_minL (hc : X.calm = true) (hu : X.A.units + 64 < cLine) : CallR X (.builtin "min") (rPickL X.K PySem.W.minD) := by
  intro pins s σ H vs us Q I r h
  obtain ⟨a, xs, d, ds, rfl, hs, hd, al, dp, q⟩ := h
  obtain ⟨its, rv, hl, _⟩ := I.list hs
  rw [Vals.ref1 r]
  obtain ⟨as, hr⟩ := Dp.readsAll I _ _ _ hd rv
  refine PySem.W.min_list_data (I.ok.hd hc) hl.isList hr al (by omega) fun i v h' tk bs hi rr hk => ?_
  have hi' : its[i]? = some v := by simpa using hi
  obtain ⟨x, hx, rx⟩ := vals_at rv hi'
  obtain ⟨cs, r0, hlt, _, _⟩ := PySem.W.readsAll_at hr i v hi'
  refine ⟨x, H, I.kept hk, rx, q i x hx ?_⟩
  have e := (PyProof.Rows.reads_det (fun b o e _ => hk b o e) r0 rr).1
  rw [List.getD_eq_getElem?_getD, List.getElem?_eq_getElem hlt] at e
  rw [List.getElem?_eq_getElem hlt]
  exact congrArg some e.symm
theorem cr_maxL (hc : X.calm = true) (hu : X.A.units + 64 < cLine) : CallR X (.builtin "max") (rPickL X.K PySem.W.maxD) := by
  intro pins s σ H vs us Q I r h
  obtain ⟨a, xs, d, ds, rfl, hs, hd, al, dp, q⟩ := h
  obtain ⟨its, rv, hl, _⟩ := I.list hs
  rw [Vals.ref1 r]
  obtain ⟨as, hr⟩ := Dp.readsAll I _ _ _ hd rv
  refine PySem.W.max_list_data (I.ok.hd hc) hl.isList hr al (by omega) fun i v h' tk bs hi rr hk => ?_
  have hi' : its[i]? = some v := by simpa using hi
  obtain ⟨x, hx, rx⟩ := vals_at rv hi'
  obtain ⟨cs, r0, hlt, _, _⟩ := PySem.W.readsAll_at hr i v hi'
  refine ⟨x, H, I.kept hk, rx, q i x hx ?_⟩
  have e := (PyProof.Rows.reads_det (fun b o e _ => hk b o e) r0 rr).1
  rw [List.getD_eq_getElem?_getD, List.getElem?_eq_getElem hlt] at e
  rw [List.getElem?_eq_getElem hlt]
  exact congrArg some e.symm
end
def pickOk (xs : List D) : Bool := plA 50 xs && alk xs && xs.all noNon
def oMinL : D → Option D
  | .lst (x :: xs) => if pickOk (x :: xs) = true then some (minDD x xs) else none
  | _ => none
def oMaxL : D → Option D
  | .lst (x :: xs) => if pickOk (x :: xs) = true then some (maxDD x xs) else none
  | _ => none
section
variable {g : Gc} {H H' : Hp} {A : Addr → Prop}
theorem pick_core {x z : D} {xs : List D} {pick : PyData → List PyData → PyData} {Q : VK} (hz : pickOk (x :: xs) = true) (hm : z ∈ x :: xs) (hp : toPy z = pick (toPy x) (toPyA xs)) {v : V} (rx : LRep g H A v (.lst (x :: xs))) (q : ∀ v H', Out .im g H A H' v z → Q v H') : rPickL g.K pick [v] H Q := by
  unfold pickOk at hz
  rw [Bool.and_eq_true, Bool.and_eq_true] at hz
  obtain ⟨⟨h1, h2⟩, h3⟩ := hz
  obtain ⟨a, vs, rfl, ha, ra⟩ := rx.lst
  refine ⟨a, vs, toPy x, toPyA xs, rfl, .inl (.inl ha), ra.dp h1, ⟨alk_of h2, noNon_of h1 h3⟩, Nat.le_trans (plA_lay 50 _ h1).2 (by decide), fun i y hy hi => ?_⟩
  have hi : (toPyA (x :: xs))[i]? = some (toPy z) := by rw [hp]; exact hi
  rw [toPyA_get] at hi
  cases e : (x :: xs)[i]? with
  | none => rw [e] at hi; cases hi
  | some w =>
    rw [e] at hi
    have hw : toPy w = toPy z := Option.some.inj hi
    have ew : w = z := toPy_inj 50 w z (plA_mem h1 (List.mem_of_getElem? e)) (plA_mem h1 hm) hw
    subst ew
    obtain ⟨y', hy', ry⟩ := ra.get e
    rw [hy] at hy'
    cases hy'
    exact q y H ⟨Same.refl H, ry⟩
theorem fn_minL : Fn1 .im g (rPickL g.K PySem.W.minD) oMinL := fun H A x d z Q hA rx ho q => by
  unfold oMinL at ho
  split at ho
  · split at ho
    · rename_i hz
      cases ho
      exact pick_core hz minDD_mem minDD_py rx q
    · cases ho
  · cases ho
theorem fn_maxL : Fn1 .im g (rPickL g.K PySem.W.maxD) oMaxL := fun H A x d z Q hA rx ho q => by
  unfold oMaxL at ho
  split at ho
  · split at ho
    · rename_i hz
      cases ho
      exact pick_core hz maxDD_mem maxDD_py rx q
    · cases ho
  · cases ho
end
/-! ### sorted(xs) -/
abbrev leD : D → D → Bool := PySem.W.dataLe false toPy
def rSortD (K : PySem.W.Frag) : List V → Hp → VK → Prop := fun vs H Q => ∃ (a : Addr) (xs : List V) (bs : List D), vs = [V.ref a] ∧ SqL K H a xs ∧ DpAll K H xs (toPyA bs) ∧ PySem.W.AllAlike (bs.map toPy) ∧ PySem.W.Sortable (bs.map toPy) ∧ (∀ b, b ∈ bs → (toPy b).depth ≤ 60) ∧
  ∀ (ys : List V) (p : Addr), PySem.W.EachIs (fun y b => ∃ i : Nat, xs[i]? = some y ∧ bs[i]? = some b) ys (bs.mergeSort leD) → H p = none → Q (.ref p) (upd H p (.lst ys))
section
variable {X : Cx}
theorem each_reads {h : Heap} : ∀ {us : List Value} {bs : List D} {as : List Addr}, ReadsAll h us (toPyA bs) as → PySem.W.EachIs (fun v b => ∃ as, Reads h v (toPy b) as) us bs
  | _, [], _, r => by cases r; exact .nil
  | _, b :: bs, _, r => by
    cases r with
    | cons r1 r2 => exact .cons ⟨_, r1⟩ (each_reads r2)
theorem each_vals : ∀ {xs : List V} {us : List Value} {bs : List D} (xs0 : List V) (bs0 : List D) (n : Nat), Vals xs us → xs.length = bs.length → (∀ i, xs[i]? = xs0[n + i]?) → (∀ i, bs[i]? = bs0[n + i]?) → PySem.W.EachIs (fun u b => ∃ (x : V) (i : Nat), RelV x u ∧ xs0[i]? = some x ∧ bs0[i]? = some b) us bs
  | [], _, [], _, _, _, r, _, _, _ => by cases r; exact .nil
  | [], _, _ :: _, _, _, _, _, h, _, _ => by simp at h
  | _ :: _, _, [], _, _, _, _, h, _, _ => by simp at h
  | x :: xs, _, b :: bs, xs0, bs0, n, r, hl, h1, h2 => by
    cases r with
    | cons r1 r2 =>
      refine .cons ⟨x, n, r1, ?_, ?_⟩ (each_vals xs0 bs0 (n + 1) r2 (by simpa using hl) (fun i => ?_) fun i => ?_)
      · have := h1 0
        simpa using this.symm
      · have := h2 0
        simpa using this.symm
      · have := h1 (i + 1)
        rw [List.getElem?_cons_succ] at this
        rw [this, show n + (i + 1) = n + 1 + i by omega]
      · have := h2 (i + 1)
        rw [List.getElem?_cons_succ] at this
        rw [this, show n + (i + 1) = n + 1 + i by omega]
theorem each_split {xs0 : List V} {bs0 : List D} : ∀ {us : List Value} {bs : List D}, PySem.W.EachIs (fun u b => ∃ (x : V) (i : Nat), RelV x u ∧ xs0[i]? = some x ∧ bs0[i]? = some b) us bs → ∃ ys : List V, Vals ys us ∧ PySem.W.EachIs (fun y b => ∃ i : Nat, xs0[i]? = some y ∧ bs0[i]? = some b) ys bs
  | _, _, .nil => ⟨[], .nil, .nil⟩
  | _, _, .cons ⟨x, i, r, h1, h2⟩ t => let ⟨ys, v, e⟩ := each_split t; ⟨x :: ys, .cons r v, .cons ⟨i, h1, h2⟩ e⟩
theorem dpAll_len {K : PySem.W.Frag} {H : Hp} : ∀ {xs : List V} {ds : List PyData}, DpAll K H xs ds → xs.length = ds.length
  | _, _, .nil => rfl
  | _, _, .cons _ t => congrArg (· + 1) (dpAll_len t)
theorem cr_sortD (hu : X.A.units + 64 < cLine) : CallR X (.builtin "sorted") (rSortD X.K) := by
  intro pins s σ H vs us Q I r h
  obtain ⟨a, xs, bs, rfl, hs, hd, al, sr, dp, q⟩ := h
  obtain ⟨its, rv, hl, hz⟩ := I.list hs
  rw [Vals.ref1 r]
  obtain ⟨as, hr⟩ := Dp.readsAll I _ _ _ hd rv
  have hlen : xs.length = bs.length := by
    have := dpAll_len hd
    rwa [toPyA_map, List.length_map] at this
  refine PySem.W.sorted_data (vs := its) (bs := bs) (enc := toPy) hl.isList (each_vals xs bs 0 rv hlen (fun i => by rw [Nat.zero_add]) fun i => by rw [Nat.zero_add]) (each_reads hr) al sr (by rw [← hlen]; exact hz) (fun b hb => by have := dp b hb; omega) fun out ho e => ?_
  obtain ⟨ys, v, e2⟩ := each_split e
  obtain ⟨ep, he'⟩ := PyProof.Rows.sortedAll_at s.heap its out.toArray
  have hy : ys.length ≤ sizeLine := by
    rw [L2.Vals.length v, ho, ← hlen]
    exact hz
  exact ⟨.ref _, upd H (s.heap.objs.size + 1) (.lst ys), I.laid (t' := s.toks) (fun _ _ => PyProof.Rows.sortedAll_old) (Nat.le_succ _) ⟨hy, out, ep, v, he'⟩, rfl, q ys _ e2 (I.hok.fresh (Nat.le_succ _))⟩
end
def sortOk (xs : List D) : Bool := plA 50 xs && alk xs && (xs.all tupC || xs.all noTup)
def oSortD : D → Option D
  | .lst xs => if sortOk xs = true then some (.lst (xs.mergeSort leD)) else none
  | _ => none
theorem sortable_of {xs : List D} {n : Nat} (p : plA n xs = true) (h : (xs.all tupC || xs.all noTup) = true) : PySem.W.Sortable (xs.map toPy) := by
  rw [Bool.or_eq_true] at h
  rcases h with h | h
  · refine .inl fun d hd => ?_
    obtain ⟨e, he, rfl⟩ := List.mem_map.mp hd
    have := List.all_eq_true.mp h e he
    cases e with
    | tup ys =>
      cases ys with
      | nil => cases this
      | cons y ys => exact ⟨toPy y, toPyA ys, rfl⟩
    | _ => cases this
  · refine .inr fun d hd => ?_
    obtain ⟨e, he, rfl⟩ := List.mem_map.mp hd
    have h1 := List.all_eq_true.mp h e he
    have h2 := plA_mem p he
    cases e with
    | non => cases h1
    | tup _ => cases h1
    | dK _ => unfold pl at h2; cases h2
    | dT _ => unfold pl at h2; cases h2
    | exc _ => unfold pl at h2; cases h2
    | fz _ => unfold pl at h2; cases h2
    | mt _ => unfold pl at h2; cases h2
    | fk _ => unfold pl at h2; cases h2
    | ft _ => unfold pl at h2; cases h2
    | _ => exact ⟨fun z => (by cases z), fun _ z => (by cases z)⟩
theorem repA_each {g : Gc} {H : Hp} {A : Addr → Prop} {xs : List V} {bs : List D} (r : RepA g H A xs bs) : ∀ {ys : List V} {cs : List D}, PySem.W.EachIs (fun y b => ∃ i : Nat, xs[i]? = some y ∧ bs[i]? = some b) ys cs → RepA g H A ys cs
  | _, _, .nil => .nil
  | _, _, .cons ⟨i, h1, h2⟩ t => by
    obtain ⟨v, hv, rv⟩ := r.get h2
    rw [h1] at hv
    cases hv
    exact .cons rv (repA_each r t)
theorem fn_sortD {g : Gc} {k : Kd} (hk : k ≠ .ln) : Fn1 k g (rSortD g.K) oSortD := fun H A x d z Q hA rx ho q => by
  unfold oSortD at ho
  split at ho
  · rename_i xs
    split at ho
    · rename_i hz
      cases ho
      unfold sortOk at hz
      rw [Bool.and_eq_true, Bool.and_eq_true] at hz
      obtain ⟨⟨h1, h2⟩, h3⟩ := hz
      obtain ⟨a, vs, rfl, ha, ra⟩ := rx.lst
      have al : PySem.W.AllAlike (xs.map toPy) := by
        rw [← toPyA_map]
        exact alk_of h2
      refine ⟨a, vs, xs, rfl, .inl (.inl ha), ra.dp h1, al, sortable_of h1 h3, fun b hb => Nat.le_trans (pl_lay 50 b (plA_mem h1 hb)).2 (by decide), fun ys p e hp => ?_⟩
      exact q _ _ (out_lst hk hA (repA_each ra e) hp)
    · cases ho
  · cases ho
end PL

/-! PL28: a list of one's own is walked, and stays one's own: for the while its slot has a fixed place. -/
namespace PL
open PySem PySem.Spec PyProof.Rows L2
def noMu : Slot → Bool
  | .mu _ => false
  | _ => true
def unpinP (i : Nat) (τ : PS0) : Option PS0 := match τ[i]? with
  | some (.mu d) => if (τ.set i (.ow d)).all noMu = true then some (τ.set i (.ow d)) else none
  | _ => none
def unpin (i : Nat) : SR → SR
  | .nx τ => (match unpinP i τ with
    | some τ' => .nx τ'
    | none => .stuck)
  | .ret d τ => (match unpinP i τ with
    | some τ' => .ret d τ'
    | none => .stuck)
  | .exc n τ => (match unpinP i τ with
    | some τ' => .exc n τ'
    | none => .stuck)
  | .stuck => .stuck
def pinS (i : Nat) (f : SM) : SM := fun τ => match τ[i]? with
  | some (.ow d) => if τ.all noMu = true then unpin i (f (τ.set i (.mu d))) else .stuck
  | _ => .stuck
section
variable {X : Cx} {W : WX} {g : Gc} {γ : G} {τ τ' τ1 τ2 : PS0} {σ σ' : L2.St} {H H' : Hp} {a p : Addr} {d : D} {v : V} {rk : Kd} {st : Stmt} {f : SM} {i : Nat}
theorem ownAt_pin {j : Nat} {s t : Slot} (hs : τ[i]? = some s) (h1 : s.isOwn = true) (h2 : t.isOwn = true) : OwnAt (τ.set i t) σ j a ↔ OwnAt τ σ j a := by
  have hl : i < τ.length := (List.getElem?_eq_some_iff.mp hs).1
  unfold OwnAt
  by_cases hj : j = i
  · subst hj
    rw [List.getElem?_set_self hl, hs]
    exact ⟨fun ⟨_, q⟩ => ⟨⟨s, rfl, h1⟩, q⟩, fun ⟨_, q⟩ => ⟨⟨t, rfl, h2⟩, q⟩⟩
  · rw [List.getElem?_set_ne (Ne.symm hj)]
theorem own_pin {s t : Slot} (hs : τ[i]? = some s) (h1 : s.isOwn = true) (h2 : t.isOwn = true) : Own (τ.set i t) σ a ↔ Own τ σ a := ⟨fun ⟨j, h⟩ => ⟨j, (ownAt_pin hs h1 h2).mp h⟩, fun ⟨j, h⟩ => ⟨j, (ownAt_pin hs h1 h2).mpr h⟩⟩
theorem noMu_at (h : τ.all noMu = true) {j : Nat} {d : D} (e : τ[j]? = some (.mu d)) : False := by
  have := List.all_eq_true.mp h _ (List.mem_of_getElem? e)
  cases this
theorem Rel.pin (R : Rel g γ τ σ H) (h : τ[i]? = some (.ow d)) (hm : τ.all noMu = true) : ∃ a, Rel g ⟨γ.P, a⟩ (τ.set i (.mu d)) σ H := by
  have hl : i < τ.length := (List.getElem?_eq_some_iff.mp h).1
  obtain ⟨a, ea, ca⟩ := R.ow i d h
  have av : ∀ b, Av ⟨γ.P, a⟩ (τ.set i (.mu d)) σ b → Av γ τ σ b := fun b q => q.elim .inl fun z => .inr ((own_pin h rfl rfl).mp z)
  have kA : Kp (Av γ τ σ) H (Av ⟨γ.P, a⟩ (τ.set i (.mu d)) σ) H := Kp.less av
  refine ⟨a, by rw [List.length_set]; exact R.len, fun j e hj => ?_, fun j e hj => ?_, fun j e hj => ?_, fun j l b h1 h2 => R.inj j l b ((ownAt_pin h rfl rfl).mp h1) ((ownAt_pin h rfl rfl).mp h2), fun b hb => ⟨(R.pal b hb).1, fun z => (R.pal b hb).2 ((own_pin h rfl rfl).mp z)⟩⟩
  · have ne : j ≠ i := fun z => by
      subst z
      rw [List.getElem?_set_self hl] at hj
      cases hj
    rw [List.getElem?_set_ne (Ne.symm ne)] at hj
    obtain ⟨v, e1, r⟩ := R.im j e hj
    exact ⟨v, e1, r.kp kA⟩
  · have ne : j ≠ i := fun z => by
      subst z
      rw [List.getElem?_set_self hl] at hj
      cases hj
    rw [List.getElem?_set_ne (Ne.symm ne)] at hj
    obtain ⟨b, e1, c⟩ := R.ow j e hj
    exact ⟨b, e1, c.mono kA rfl⟩
  · by_cases ne : j = i
    · subst ne
      rw [List.getElem?_set_self hl] at hj
      cases hj
      exact ⟨ea, ca.mono kA rfl⟩
    · rw [List.getElem?_set_ne (Ne.symm ne)] at hj
      exact (noMu_at hm hj).elim
theorem Rel.unpin {a : Addr} {P : Addr → Prop} {M : Addr} (R : Rel g ⟨P, a⟩ τ σ H) (h : τ[i]? = some (.mu d)) (hm : (τ.set i (.ow d)).all noMu = true) : Rel g ⟨P, M⟩ (τ.set i (.ow d)) σ H := by
  have hl : i < τ.length := (List.getElem?_eq_some_iff.mp h).1
  obtain ⟨ea, ca⟩ := R.mu i d h
  have av : ∀ b, Av ⟨P, M⟩ (τ.set i (.ow d)) σ b → Av ⟨P, a⟩ τ σ b := fun b q => q.elim .inl fun z => .inr ((own_pin h rfl rfl).mp z)
  have kA : Kp (Av ⟨P, a⟩ τ σ) H (Av ⟨P, M⟩ (τ.set i (.ow d)) σ) H := Kp.less av
  refine ⟨by rw [List.length_set]; exact R.len, fun j e hj => ?_, fun j e hj => ?_, fun j e hj => (noMu_at hm hj).elim, fun j l b h1 h2 => R.inj j l b ((ownAt_pin h rfl rfl).mp h1) ((ownAt_pin h rfl rfl).mp h2), fun b hb => ⟨(R.pal b hb).1, fun z => (R.pal b hb).2 ((own_pin h rfl rfl).mp z)⟩⟩
  · have ne : j ≠ i := fun z => by
      subst z
      rw [List.getElem?_set_self hl] at hj
      cases hj
    rw [List.getElem?_set_ne (Ne.symm ne)] at hj
    obtain ⟨v, e1, r⟩ := R.im j e hj
    exact ⟨v, e1, r.kp kA⟩
  · by_cases ne : j = i
    · subst ne
      rw [List.getElem?_set_self hl] at hj
      cases hj
      exact ⟨a, ea, ca.mono kA rfl⟩
    · rw [List.getElem?_set_ne (Ne.symm ne)] at hj
      obtain ⟨b, e1, c⟩ := R.ow j e hj
      exact ⟨b, e1, c.mono kA rfl⟩
theorem unpinP_eq {τ' : PS0} (h : unpinP i τ = some τ') : ∃ d, τ[i]? = some (.mu d) ∧ (τ.set i (.ow d)).all noMu = true ∧ τ' = τ.set i (.ow d) := by
  unfold unpinP at h
  split at h
  · rename_i d e
    split at h
    · rename_i hm
      cases h
      exact ⟨d, e, hm, rfl⟩
    · cases h
  · cases h
theorem Kp.pin {O : Addr → Prop} {s t : Slot} (hs : τ[i]? = some s) (h1 : s.isOwn = true) (h2 : t.isOwn = true) (k : Kp O H (Own τ σ) H') : Kp O H (Own (τ.set i t) σ) H' := fun b o e n => ⟨(k b o e n).1, fun z => (k b o e n).2 ((own_pin hs h1 h2).mp z)⟩
theorem Kp.pre {O' : Addr → Prop} {s t : Slot} (hs : τ[i]? = some s) (h1 : s.isOwn = true) (h2 : t.isOwn = true) (k : Kp (Own (τ.set i t) σ) H O' H') : Kp (Own τ σ) H O' H' := fun b o e n => k b o e fun z => n ((own_pin hs h1 h2).mp z)
theorem PostE.unpin {P : Addr → Prop} {M : Addr} {t : Slot} (h0 : τ[i]? = some (.ow d)) {a : Addr} {e : D} {dv : D} (h : τ'[i]? = some (.mu e)) (hm : (τ'.set i (.ow e)).all noMu = true) (q : PostE rk g ⟨P, a⟩ (τ.set i (.mu d)) σ H τ' σ' H' v dv) : PostE rk g ⟨P, M⟩ τ σ H (τ'.set i (.ow e)) σ' H' v dv := by
  have av : ∀ {P : Addr → Prop} b, Av ⟨P, M⟩ (τ'.set i (.ow e)) σ' b → Av ⟨P, a⟩ τ' σ' b := fun b q => q.elim .inl fun z => .inr ((own_pin h rfl rfl).mp z)
  cases rk with
  | im =>
    obtain ⟨R, k, r⟩ := q
    exact ⟨R.unpin h hm, (k.pre h0 rfl rfl).pin h rfl rfl, r.kp (Kp.less av)⟩
  | ln =>
    obtain ⟨R, k, r⟩ := q
    refine ⟨R.unpin h hm, (k.pre h0 rfl rfl).pin h rfl rfl, ?_⟩
    rcases r with r | ⟨b, eb, c⟩
    · exact .inl (r.kp (Kp.less av))
    · exact .inr ⟨b, eb, c.mono (Kp.less av) rfl⟩
  | fr =>
    obtain ⟨p, ep, R, np, k, c⟩ := q
    refine ⟨p, ep, Rel.unpin (P := fun b => P b ∨ b = p) (M := M) (a := a) R h hm, np, fun b o eb n => ?_, c.mono (Kp.less (av (P := fun b => P b ∨ b = p))) rfl⟩
    obtain ⟨q1, q2⟩ := k b o eb fun z => n ((own_pin h0 rfl rfl).mp z)
    exact ⟨q1, fun z => q2 (z.elim (fun y => .inl ((own_pin h rfl rfl).mp y)) .inr)⟩
theorem js_pin (i : Nat) (h : JS X W rk st f) : JS X W rk st (pinS i f) := h.weak fun Dn σ H ⟨γ, τ, R, q⟩ => by
  obtain ⟨P, M⟩ := γ
  unfold pinS at q
  split at q
  · rename_i d h0
    split at q
    · rename_i hm
      obtain ⟨a, R'⟩ := R.pin h0 hm
      refine ⟨⟨P, a⟩, τ.set i (.mu d), R', ?_⟩
      cases ef : f (τ.set i (.mu d)) with
      | stuck => rw [ef] at q; exact q.elim
      | nx τ1 =>
        rw [ef] at q
        unfold PL.unpin at q
        cases eu : unpinP i τ1 with
        | none => simp only [eu] at q; exact q.elim
        | some τ2 =>
          simp only [eu] at q
          obtain ⟨e, h1, h2, rfl⟩ := unpinP_eq eu
          exact fun σ' H' R1 k1 => q σ' H' (R1.unpin h1 h2) ((k1.pre h0 rfl rfl).pin h1 rfl rfl)
      | exc n τ1 =>
        rw [ef] at q
        unfold PL.unpin at q
        cases eu : unpinP i τ1 with
        | none => simp only [eu] at q; exact q.elim
        | some τ2 =>
          simp only [eu] at q
          obtain ⟨e, h1, h2, rfl⟩ := unpinP_eq eu
          exact fun σ' H' R1 k1 c hc => q σ' H' (R1.unpin h1 h2) ((k1.pre h0 rfl rfl).pin h1 rfl rfl) c hc
      | ret dv τ1 =>
        rw [ef] at q
        unfold PL.unpin at q
        cases eu : unpinP i τ1 with
        | none => simp only [eu] at q; exact q.elim
        | some τ2 =>
          simp only [eu] at q
          obtain ⟨e, h1, h2, rfl⟩ := unpinP_eq eu
          exact fun σ' v H' P1 => q σ' v H' (PostE.unpin (t := .no) h0 h1 h2 P1)
    · exact q.elim
  · exact q.elim
open Classical in
noncomputable def forML (i : Nat) (xs : List D) (h : D → PS0 → Option PS0) (body : SM) : List D → SM
  | [], τ => if τ[i]? = some (.mu (.lst xs)) then .nx τ else .stuck
  | d :: ds, τ => if τ[i]? = some (.mu (.lst xs)) then (match h d τ with
    | some τ1 => (match body τ1 with
      | .nx τ2 => forML i xs h body ds τ2
      | r => r)
    | none => .stuck) else .stuck
noncomputable def forM (i : Nat) (h : D → PS0 → Option PS0) (body : SM) : SM := fun τ => match τ[i]? with
  | some (.mu (.lst xs)) => forML i xs h body xs τ
  | _ => .stuck
theorem js_forM (i : Nat) {x : Str} {px pos : Pos} {tg : Expr} {sts : List Stmt} {h : D → PS0 → Option PS0} {ts : List Nat} {body : SM} (hp : PassesOwn (model X.prog X.w) X.A X.env X.xe) (hc : X.calm = true) (hg : JG X tg h ts) (hb : JB X W rk sts body)
    (hN : X.N[i]? = some x := by rfl) (hv : Vis X.env.scope x := by first | exact Or.inl rfl | exact Or.inr (Or.inl rfl) | exact Or.inr (Or.inr rfl)) (hd : (x == ("__debug__" : Str)) = false := by decide) (hcd : (x == ("__classdict__" : Str)) = false := by decide)
    (hs : ∀ y, foldedSetIterable (.Name x px) X.env y = pure y := by intro _; rfl) : JS X W rk (.For tg (.Name x px) sts [] pos) (forM i h body) := (ps_for hp hc (pi_list (pe_var hN hv hd hcd)) hg hb hs).weak fun Dn σ H ⟨γ, τ, R, q⟩ => by
  unfold forM at q
  split at q
  · rename_i xs h0
    obtain ⟨ea, ca⟩ := R.mu i _ h0
    cases ca with
    | lst hl ra =>
      refine ⟨.ref γ.M, ea, γ.M, rfl, ⟨_, .inl (.inl hl)⟩, ?_⟩
      refine ⟨fun n mm σ' H' => mm = xs.length - n ∧ n ≤ xs.length ∧ ∃ τi, Rel X.g γ τi σ' H' ∧ Kp (Own τ σ) H (Own τi σ') H' ∧ FitS (forML i xs h body (xs.drop n) τi) (NS X.g γ τ σ H Dn.nx) (RS X.g rk γ τ σ H Dn.rt) (XS X.g W γ τ σ H),
        ⟨xs.length, by simp, Nat.zero_le _, τ, R, Kp.refl, q⟩, ?_⟩
      rintro n mm σ' H' ⟨rfl, hn, τi, Ri, ki, qi⟩
      by_cases hlt : n < xs.length
      · rw [List.drop_eq_getElem_cons hlt] at qi
        unfold forML at qi
        by_cases hτ : τi[i]? = some (.mu (.lst xs))
        · rw [if_pos hτ] at qi
          obtain ⟨_, ci⟩ := Ri.mu i _ hτ
          cases ci with
          | lst hl' ri =>
            obtain ⟨w, hw, rw'⟩ := ri.get (List.getElem?_eq_getElem hlt)
            refine .inr ⟨⟨_, w, .inl (.inl hl'), hw⟩, fun σ2 H2 => ∃ mm', mm' < xs.length - n ∧ (mm' = xs.length - (n + 1) ∧ n + 1 ≤ xs.length ∧ ∃ τi, Rel X.g γ τi σ2 H2 ∧ Kp (Own τ σ) H (Own τi σ2) H2 ∧ FitS (forML i xs h body (xs.drop (n + 1)) τi) (NS X.g γ τ σ H Dn.nx) (RS X.g rk γ τ σ H Dn.rt) (XS X.g W γ τ σ H)), fun _ _ z => z, fun y H2 yd => ?_⟩
            obtain ⟨e2, yd⟩ := yd
            subst e2
            have ey := yd _ (.inl (.inl hl'))
            rw [hw] at ey
            cases ey
            cases eh : h xs[n] τi with
            | none => rw [eh] at qi; exact qi.elim
            | some τh =>
              rw [eh] at qi
              refine ⟨γ, τi, xs[n], τh, Ri, rw', eh, fun σ3 R3 k3 _ _ => ?_⟩
              have kk := ki.trans k3
              refine ⟨γ, τh, R3, ?_⟩
              cases eb : body τh with
              | stuck => simp only [eb] at qi; exact qi.elim
              | ret dr τr => simp only [eb] at qi; exact RS.pre kk qi
              | exc nm τr => simp only [eb] at qi; exact XS.pre kk qi
              | nx τn =>
                simp only [eb] at qi
                exact fun σ4 H4 R4 k4 => ⟨xs.length - (n + 1), by omega, rfl, hlt, τn, R4, kk.trans k4, qi⟩
        · rw [if_neg hτ] at qi
          exact qi.elim
      · have e : n = xs.length := by omega
        subst e
        rw [List.drop_length] at qi
        unfold forML at qi
        by_cases hτ : τi[i]? = some (.mu (.lst xs))
        · rw [if_pos hτ] at qi
          obtain ⟨_, ci⟩ := Ri.mu i _ hτ
          cases ci with
          | lst hl' ri => exact .inl ⟨⟨_, .inl (.inl hl'), by rw [ri.length]; exact Nat.le_refl _⟩, qi σ' H' Ri ki⟩
        · rw [if_neg hτ] at qi
          exact qi.elim
  · exact q.elim
end
end PL

/-! PL29: index, count of lists; index of a tuple of the module; find of texts. -/
namespace PL
open PySem PySem.Spec PyProof.Rows L2
section
variable {X : Cx} {W : WX} {g : Gc} {γ : G} {τ : PS0} {σ : L2.St} {H H' : Hp} {A : Addr → Prop} {k k1 k2 kr : Kd} {m m1 m2 : Bool} {a b : Expr} {fa fb : M D} {pos : Pos}
/-! ### a method of a list, one argument, the list stays -/
def asL : D → Option Unit
  | .lst _ => some ()
  | _ => none
def lmM (fa fb : M D) (o : D → D → Option D) : M D := andThen fa fun x => andThen (lift (asL x)) fun _ => andThen fb fun y => lift (o x y)
def Lm2 (g : Gc) (rm : V → List V → Hp → VK → Prop) (o : D → D → Option D) : Prop := ∀ (H : Hp) (A : Addr → Prop) (x y : V) (d e z : D) (Q : VK), (∀ a, A a → ∃ u, H a = some u) → LRep g H A x d → LRep g H A y e → o d e = some z → (∀ v H', Out .im g H A H' v z → Q v H') → rm x [y] H Q
theorem je_lm1 {name : Str} {id : String} {apos : Pos} {rm : V → List V → Hp → VK → Prop} {o : D → D → Option D} (slot : PySem.Slot "list" name id) (ty : typeOf (.builtin id) = pure (.type "method_descriptor")) (rule : MtR X id rm) (hr : Lm2 X.g rm o) (ha : JE X W k1 m1 a fa) (hb : JE X W k2 m2 b fb)
    (hk : k1 ≠ .ln ∨ m2 = false := by first | exact .inr rfl | exact .inl (by decide))
    (hbase : attributeBase a name X.env (eval a X.env) = eval a X.env := by rfl)
    (hfew : ((backTo pos (starEach [b] X.env)).all (fun x => !x.1) && (backToKw pos (keywordEach [] X.env)).all (fun x => x.1.isSome)
      && decide (([b] : List Expr).length + ([] : List Keyword).length + (if ([] : List Keyword).isEmpty then 0 else 1) < 30)) = true := by rfl)
    (hline : (apos.endLine == pos.line) = true := by rfl) (hs : starEach [b] X.env = (false, eval b X.env) :: starEach [] X.env := by rfl) (hplain : (backTo pos (starEach [] X.env)).any (·.1) = false := by rfl) :
    JE X W .im (m1 || m2) (.Call (.Attribute a name apos) [b] [] pos) (lmM fa fb o) := (pe_bm PySem.F.plainAttrs_list slot ty rule ha (pa_cons hb pa_nil hs) hbase hfew hline hs hplain).weak fun σ H Q ⟨γ, τ, R, h⟩ => by
  unfold lmM at h
  rw [fit_bind] at h
  refine ⟨γ, τ, R, h.mono (fun d τ1 h x H1 s1 P1 => ?_) fun _ _ q => q⟩
  obtain ⟨R1, kp1, v1⟩ := P1.val
  rw [fit_bind, fit_lift] at h
  obtain ⟨_, ed, h⟩ := h
  cases d with
  | lst xs =>
    obtain ⟨ad, vs, rfl, hl, ra⟩ := v1.l.lst
    refine ⟨.inl ⟨rfl, _, .inl (.inl hl)⟩, ?_⟩
    rw [fit_bind] at h
    refine ⟨γ, τ1, R1, h.mono (fun e τ2 h y H2 s2 P2 => ?_) fun _ _ q => q.pre kp1⟩
    obtain ⟨R2, kp2, v2⟩ := P2.val
    obtain ⟨z, ez, h⟩ := fit_lift.mp h
    have v1' := carry (k1 := k1) hk v1 s2 kp2
    exact hr H2 (Av γ τ2 σ) _ y _ e z Q R2.avT v1'.l v2.l ez fun v' H' ou => h v' H' (fun q => (or_same s1 s2 q).trans ou.1) (PostE.of_out R2 (kp1.trans kp2) (by decide) ou)
  | _ => cases ed
/-- xs.index(y), y among them -/
def oIndex : D → D → Option D
  | .lst xs, y => if (pl 60 (.lst xs) && pl 60 y) = true then (xs.findIdx? fun x => eqD x y).map fun j => .int (j : Nat) else none
  | _, _ => none
theorem lm_index : Lm2 g (rIndexD g.K) oIndex := fun H A x y d e z Q hA rx ry ho q => by
  unfold oIndex at ho
  split at ho
  · rename_i xs
    split at ho
    · rename_i hz
      rw [Bool.and_eq_true] at hz
      obtain ⟨h1, h2⟩ := hz
      cases ej : xs.findIdx? fun x => eqD x e with
      | none => rw [ej] at ho; cases ho
      | some j =>
        rw [ej] at ho
        cases ho
        obtain ⟨hj, hp, hn⟩ := List.findIdx?_eq_some_iff_getElem.mp ej
        have px := plA_up _ _ (pl_lst h1)
        have d1 := rx.dp h1
        obtain ⟨a, vs, rfl, ha, ra⟩ := rx.lst
        refine ⟨a, y, toPy e, toPyA xs, j, toPy xs[j], rfl, rfl, d1, ry.dp h2, pl_shaped (by decide) h1, pl_shaped (by decide) h2, ?_, ?_, fun m z' hm hz' => ?_, q _ _ (out_flat fun _ _ => .int _)⟩
        · rw [toPyA_get, List.getElem?_eq_getElem hj]
          rfl
        · rw [eqD_py 60 _ _ (plA_mem px (List.getElem_mem hj)) h2]
          exact hp
        · rw [toPyA_get] at hz'
          have hml : m < xs.length := by omega
          rw [List.getElem?_eq_getElem hml] at hz'
          cases hz'
          rw [eqD_py 60 _ _ (plA_mem px (List.getElem_mem hml)) h2]
          have := hn m hm
          simpa using this
    · cases ho
  · cases ho
/-- xs.count(y) -/
def rCountD (K : PySem.W.Frag) : V → List V → Hp → VK → Prop := fun x xs H Q => ∃ (a : Addr) (y : V) (d : PyData) (ds : List PyData), x = V.ref a ∧ xs = [y] ∧ Dp K H (V.ref a) (.list ds) ∧ Dp K H y d ∧ SeqAt.shaped (.list ds) = true ∧ SeqAt.shaped d = true ∧ Q (.int ((ds.countP fun z => PyData.eqv z d : Nat) : Int)) H
theorem mt_countD (hu : X.A.units + 65 < cLine) : MtR X "list.count" (rCountD X.K) := by
  intro pins s σ H x xs v us Q I rx rxs h
  obtain ⟨a, y, d, ds, rfl, rfl, hl, hy, sl, sd, q⟩ := h
  cases rx
  cases rxs with
  | cons ry rt =>
    rename_i uy ut
    cases rt
    obtain ⟨bs, r1⟩ := Dp.reads I d y uy hy ry
    have hxs : PyData.canLayAll0 ds = true := SeqAt.canLay_of_shaped sl
    have hd : d.canLay0 = true := SeqAt.canLay_of_shaped sd
    have hroom : X.A.units + 1 + min (PyData.depthAll ds) d.depth < cLine := room_in_shaped sd hu
    cases hl with
    | lst hs ha =>
      obtain ⟨its, rv, hli, hlen⟩ := I.list hs
      obtain ⟨as, h4⟩ := Dp.readsAll I ds _ its ha rv
      have hp : PyData.plainAll ds = true := PySem.PyData.plainAll_of_canLay0 ds hxs
      exact PySem.SeqAt.count_list_data hli.isList h4 r1 hp (PySem.PyData.plain_of_canLay0 d hd) hroom ⟨.int _, H, I.tok _, ⟨_, rfl⟩, q⟩
def oCount : D → D → Option D
  | .lst xs, y => if (pl 60 (.lst xs) && pl 60 y) = true then some (.int ((xs.countP fun x => eqD x y : Nat) : Int)) else none
  | _, _ => none
theorem lm_count : Lm2 g (rCountD g.K) oCount := fun H A x y d e z Q hA rx ry ho q => by
  unfold oCount at ho
  split at ho
  · rename_i xs
    split at ho
    · rename_i hz
      cases ho
      rw [Bool.and_eq_true] at hz
      obtain ⟨h1, h2⟩ := hz
      have px := plA_up _ _ (pl_lst h1)
      have d1 := rx.dp h1
      obtain ⟨a, vs, rfl, ha, ra⟩ := rx.lst
      refine ⟨a, y, toPy e, toPyA xs, rfl, rfl, d1, ry.dp h2, pl_shaped (by decide) h1, pl_shaped (by decide) h2, ?_⟩
      have ec : (toPyA xs).countP (fun z => PyData.eqv z (toPy e)) = xs.countP fun x => eqD x e := by
        rw [toPyA_map, List.countP_map]
        refine List.countP_congr fun x hx => ?_
        show (PyData.eqv (toPy x) (toPy e) = true) ↔ _
        rw [eqD_py 60 _ _ (plA_mem px hx) h2]
      rw [ec]
      exact q _ _ (out_flat fun _ _ => .int _)
    · cases ho
  · cases ho
/-! ### a tuple of texts of the module -/
structure GT (g : Gc) (x : Str) (ss : List (List Nat)) : Prop where
  ex : ∃ (c : Addr) (its : Array Value) (n : Nat) (sl : Array (Option Value)), g.mg x = some (.ref c) ∧ g.K.lookup c = some ⟨.type "tuple", none, .seq its n, sl⟩ ∧ its.size ≤ sizeLine ∧ Vals (ss.map fun s => V.str (S s)) its.toList
def oTix (ss : List (List Nat)) : D → Option D
  | .str s => (ss.findIdx? fun x => x == s).map fun j => .int (j : Nat)
  | _ => none
def tixE (ss : List (List Nat)) (fb : M D) : M D := andThen fb fun y => lift (oTix ss y)
theorem je_tix {x : Str} {px apos : Pos} {ss : List (List Nat)} (t : GT X.g x ss) (hb : JE X W k2 m2 b fb) (hg : Gl X x := by rfl) (hd : (x == ("__debug__" : Str)) = false := by decide)
    (hbase : attributeBase (.Name x px) "index" X.env (eval (.Name x px) X.env) = eval (.Name x px) X.env := by rfl)
    (hfew : ((backTo pos (starEach [b] X.env)).all (fun x => !x.1) && (backToKw pos (keywordEach [] X.env)).all (fun x => x.1.isSome)
      && decide (([b] : List Expr).length + ([] : List Keyword).length + (if ([] : List Keyword).isEmpty then 0 else 1) < 30)) = true := by rfl)
    (hline : (apos.endLine == pos.line) = true := by rfl) (hs : starEach [b] X.env = (false, eval b X.env) :: starEach [] X.env := by rfl) (hplain : (backTo pos (starEach [] X.env)).any (·.1) = false := by rfl) :
    JE X W .im m2 (.Call (.Attribute (.Name x px) "index" apos) [b] [] pos) (tixE ss fb) := by
  obtain ⟨c, its, n, sl, hm, hk, hz, hv⟩ := t.ex
  refine (pe_bm PySem.F.plainAttrs_tuple PySem.F.slot_tuple_index PySem.F.type_tuple_index mt_tup_index (pe_glob (v := .ref c) hg hm rfl hd) (pa_cons hb pa_nil hs) hbase hfew hline hs hplain).weak fun σ H Q ⟨γ, τ, R, h⟩ => ?_
  refine ⟨.inr (.inl ⟨rfl, _, hk, rfl, rfl⟩), ?_⟩
  unfold tixE at h
  rw [fit_bind] at h
  refine ⟨γ, τ, R, h.mono (fun e τ2 h y H2 s2 P2 => ?_) fun _ _ q => q⟩
  obtain ⟨R2, kp2, v2⟩ := P2.val
  obtain ⟨z, ez, h⟩ := fit_lift.mp h
  cases e with
  | str s =>
    have ez : (ss.findIdx? fun x => x == s).map (fun j => D.int ((j : Nat) : Int)) = some z := ez
    cases ej : ss.findIdx? fun x => x == s with
    | none => rw [ej] at ez; cases ez
    | some j =>
      rw [ej] at ez
      cases ez
      obtain ⟨hj, hp, hn⟩ := List.findIdx?_eq_some_iff_getElem.mp ej
      rw [v2.l.str]
      refine ⟨c, ss.map S, S s, j, rfl, rfl, .inr ⟨_, its, n, hk, rfl, rfl, hz, by rw [List.map_map]; exact hv⟩, ?_, fun m hm hms => ?_, h _ H2 s2 ⟨R2, kp2, .int _⟩⟩
      · rw [List.getElem?_map, List.getElem?_eq_getElem hj]
        have : ss[j] = s := by simpa using hp
        rw [this]
        rfl
      · have hml : m < ss.length := by omega
        rw [List.getElem?_map, List.getElem?_eq_getElem hml] at hms
        have : S ss[m] = S s := Option.some.inj hms
        have := S_inj this
        have hn := hn m hm
        rw [this] at hn
        simp at hn
  | _ => cases ez
/-! ### s.find(t) -/
def oFind : D → D → Option D
  | .str s, .str t => some (.int (Txt.find (S s) (S t)))
  | _, _ => none
theorem o2_find : Op2 .im g (tM1r fun x xs H Q => ∃ a b, x = .str a ∧ xs = [.str b] ∧ Q (.int (Txt.find a b)) H) oFind := fun H A x y d e z Q hA rx ry ho q => by
  unfold oFind at ho
  split at ho
  · cases ho
    rw [rx.str, ry.str]
    exact ⟨⟨_, rfl⟩, _, _, rfl, rfl, q _ _ (out_flat fun _ _ => .int _)⟩
  · cases ho
theorem je_find {apos : Pos} (ha : JE X W k1 m1 a fa) (hb : JE X W k2 m2 b fb) (hk : k1 ≠ .ln ∨ m2 = false := by first | exact .inr rfl | exact .inl (by decide))
    (hs : starEach [b] X.env = [(false, eval b X.env)] := by rfl) (hbase : attributeBase a "find" X.env (eval a X.env) = eval a X.env := by rfl) (hline : (apos.endLine == pos.line) = true := by rfl) :
    JE X W .im (m1 || m2) (.Call (.Attribute a "find" apos) [b] [] pos) (strM fa fb oFind) :=
  je_sm1 F.slot_str_find F.type_str_find mt_find o2_find (fun d e z h => by cases d <;> first | exact ⟨_, rfl⟩ | (unfold oFind at h; cases h)) ha hb hk (by decide) hs hbase hline
end
section
variable {K : PySem.W.Frag} {mg : Str → Option Value}
theorem gt_tup {x : Str} {c : Addr} {its : Array Value} {n : Nat} {sl : Array (Option Value)} {ss : List (List Nat)} (m : mg x = some (.ref c)) (l : K.lookup c = some ⟨.type "tuple", none, .seq its n, sl⟩)
    (v : Vals (ss.map fun s => V.str (S s)) its.toList) (hz : ss.length ≤ 1000) : GT ⟨K, mg⟩ x ss := by
  refine ⟨c, its, n, sl, m, l, ?_, v⟩
  have e : its.size = ss.length := by
    have := (L2.Vals.length v).symm
    rw [List.length_map] at this
    exact this
  rw [e, sizeLine_eq]
  exact Nat.le_trans hz (by decide)
end
end PL

/-! PL30: d.update(e), d.clear() of a dict of one's own. -/
namespace PL
open PySem PySem.Spec PyProof.Rows L2
section
variable {X : Cx} {g : Gc}
def rUpd : V → List V → Hp → VK → Prop := fun x vs H Q => ∃ l b kvs more, x = .ref l ∧ vs = [.ref b] ∧ l ≠ b ∧ H l = some (.dK kvs) ∧ H b = some (.dK more) ∧ kvs.length + more.length ≤ sizeLine ∧ Q .non (upd H l (.dK (mergeK kvs more)))
theorem mt_upd : MtM X "dict.update" rUpd := by
  intro pins s σ H x vs v us Q I rx rv h
  obtain ⟨l, b, kvs, more, rfl, rfl, hne, hH, hB, hz, q⟩ := h
  cases rx
  obtain ⟨u, rfl, ru⟩ := rv.one
  cases ru
  obtain ⟨z, hd, ws, rel, dd⟩ := dk_of I.hok hH
  obtain ⟨z2, hd2, ws2, rel2, dd2⟩ := dk_of I.hok hB
  refine call_meetsIn PySem.F.slot_dict_update dd.typeIs PySem.F.entry_dict_update (PySem.F.args_dict_update_2 _ _) (meets_dict_update (mixKind X.prog X.w) l b hne hd2)
    ⟨ws, ws2, dd, dd2, by rw [← rel.length, ← rel2.length]; exact hz, fun h' dd' _ hs => ?_⟩
  have he : ∃ q, h'.get? l = some q := let ⟨q, _, _, hq, _⟩ := dd'; ⟨q, hq⟩
  exact ⟨.non, _, d_write (t' := s.toks) I (by rw [hH]; exact True.intro) hs he (dk_new (Nat.le_trans (length_mergeK more kvs) hz) hd (rel2.merge rel) dd'), rfl, q⟩
def oUpd : OMt
  | .dK es, [.dK fs] => if es.length + fs.length ≤ 16777216 then some (.non, .dK (mergeD es fs)) else none
  | _, _ => none
theorem mo_upd : MtO g "dict" rUpd oUpd := fun H A a c vs ds z c' Q hA ct rs ho q => by
  unfold oUpd at ho
  split at ho
  · rename_i es fs
    split at ho
    · rename_i hz
      cases ho
      cases ct with
      | @dK kvs _ hl hk rl =>
        cases rs with
        | cons ry rt =>
          cases rt
          cases ry with
          | @dK b more _ hb nb hk2 rl2 =>
            have e1 := congrArg List.length hk
            have e2 := congrArg List.length hk2
            rw [List.length_map, List.length_map] at e1 e2
            have rm : RepK g H A (mergeK kvs more) (mergeD es fs) := RepK.merge ⟨hk2, rl2⟩ ⟨hk, rl⟩
            have rm' := rm.kp (B := A) (H' := upd H a (.dK (mergeK kvs more))) fun c u e n => ⟨by rw [upd_ne (fun z => by rw [z] at n; exact n hA)]; exact e, n⟩
            exact ⟨a, b, kvs, more, rfl, rfl, fun z => nb (z ▸ hA), hl, hb, by rw [e1, e2, sizeLine_eq]; exact hz, q _ _ upd_keep (.dK upd_same rm'.k rm'.v) .non⟩
    · cases ho
  · cases ho
def rClrD : V → List V → Hp → VK → Prop := fun x vs H Q => ∃ l kvs, x = .ref l ∧ vs = [] ∧ H l = some (.dK kvs) ∧ Q .non (upd H l (.dK []))
theorem mt_clrD : MtM X "dict.clear" rClrD := by
  intro pins s σ H x vs v us Q I rx rv h
  obtain ⟨l, kvs, rfl, rfl, hH, q⟩ := h
  cases rx
  have hus := rv.zero
  subst hus
  exact d_clear I hH fun s' I' => ⟨.non, _, I', rfl, q⟩
def oClrD : OMt
  | .dK _, [] => some (.non, .dK [])
  | _, _ => none
theorem mo_clrD : MtO g "dict" rClrD oClrD := fun H A a c vs ds z c' Q hA ct rs ho q => by
  unfold oClrD at ho
  split at ho
  · cases ho
    cases ct with
    | dK h hk r =>
      cases rs
      exact ⟨a, _, rfl, rfl, h, q _ _ upd_keep (.dK upd_same rfl .nil) .non⟩
  · cases ho
end
end PL

/-! PL31: dicts that are alike (whole numbers as values), compared. -/
namespace PL
open PySem PySem.Spec PyProof.Rows L2
section
variable {X : Cx} {g : Gc}
def sameV : D → Option D → Bool
  | .int i, some (.int j) => i == j
  | _, _ => false
def sameK (es fs : List (Key × D)) : Bool := es.length == fs.length && es.all fun p => sameV p.2 (getD' fs p.1)
def oEqK : D → D → Option D
  | .dK es, .dK fs => if sameK es fs = true then some (.bl true) else none
  | _, _ => none
def oNeK : D → D → Option D
  | .dK es, .dK fs => if sameK es fs = true then some (.bl false) else none
  | _, _ => none
theorem repK_mem {H : Hp} {A : Addr → Prop} : ∀ {es : List (Key × D)} {kvs : List (Key × V)}, RepK g H A kvs es → ∀ p ∈ kvs, ∃ d, (p.1, d) ∈ es ∧ Rep g H A p.2 d
  | [], kvs, h, p, hp => by
    rcases h.un with ⟨rfl, _⟩ | ⟨_, _, _, _, _, _, z, _⟩
    · cases hp
    · cases z
  | q :: es, kvs, h, p, hp => by
    rcases h.un with ⟨_, z⟩ | ⟨k1, v1, d1, kvs', es', rfl, z, r, h'⟩
    · cases z
    · cases z
      rcases List.mem_cons.mp hp with rfl | hp
      · exact ⟨d1, List.mem_cons_self, r⟩
      · obtain ⟨d, hd, rd⟩ := repK_mem h' p hp
        exact ⟨d, List.mem_cons_of_mem _ hd, rd⟩
theorem core_K {H : Hp} {A : Addr → Prop} {x y : V} {es fs : List (Key × D)} (rx : LRep g H A x (.dK es)) (ry : LRep g H A y (.dK fs)) (hs : sameK es fs = true) :
    ∃ a b ks ls, x = .ref a ∧ y = .ref b ∧ H a = some (.dK ks) ∧ H b = some (.dK ls) ∧ ks.length = ls.length ∧ ∀ p ∈ ks, valV ls p.1 = some p.2 ∧ flatB p.2 = true := by
  obtain ⟨a, ks, rfl, ha, ka, ra⟩ := rx.dK
  obtain ⟨b, ls, rfl, hb, kb, rb⟩ := ry.dK
  unfold sameK at hs
  rw [Bool.and_eq_true, beq_iff_eq] at hs
  have e1 := congrArg List.length ka
  have e2 := congrArg List.length kb
  rw [List.length_map, List.length_map] at e1 e2
  refine ⟨a, b, ks, ls, rfl, rfl, ha, hb, by omega, fun p hp => ?_⟩
  obtain ⟨d, hd, rd⟩ := repK_mem (g := g) (A := A) (H := H) (⟨ka, ra⟩ : RepK g H A ks es) p hp
  have hv := List.all_eq_true.mp hs.2 _ hd
  cases d with
  | int i =>
    cases eg : getD' fs p.1 with
    | none => rw [eg] at hv; cases hv
    | some f =>
      rw [eg] at hv
      cases f with
      | int j =>
        have hij : i = j := by simpa [sameV] using hv
        subst hij
        obtain ⟨v, ev, rv⟩ := (RepK.val (kk := p.1) (⟨kb, rb⟩ : RepK g H A ls fs)).1 _ eg
        rw [LRep.int (.inl rd), ev, LRep.int (.inl rv)]
        exact ⟨rfl, rfl⟩
      | _ => cases hv
  | _ => cases hv
theorem o2_eqK : Op2 .im g rEqDA oEqK := fun H A x y d e z Q hA rx ry ho q => by
  unfold oEqK at ho
  split at ho
  · split at ho
    · rename_i hz
      cases ho
      obtain ⟨a, b, ks, ls, rfl, rfl, h1, h2, h3, h4⟩ := core_K rx ry hz
      exact ⟨a, b, ks, ls, rfl, rfl, h1, h2, h3, h4, q _ _ (out_flat fun _ _ => .bl _)⟩
    · cases ho
  · cases ho
theorem o2_neK : Op2 .im g rNeDA oNeK := fun H A x y d e z Q hA rx ry ho q => by
  unfold oNeK at ho
  split at ho
  · split at ho
    · rename_i hz
      cases ho
      obtain ⟨a, b, ks, ls, rfl, rfl, h1, h2, h3, h4⟩ := core_K rx ry hz
      exact ⟨a, b, ks, ls, rfl, rfl, h1, h2, h3, h4, q _ _ (out_flat fun _ _ => .bl _)⟩
    · cases ho
  · cases ho
end
end PL

/-! PL32: t[::-1] of a tuple. -/
namespace PL
open PySem PySem.Spec PyProof.Rows L2
section
variable {prog : Program} {w : World} {A : Around} {E : Value → Shared → Prop} {s : Shared}
theorem part_m1 {vs : Value} {Q : Option Int → Shared → Prop} (p : IsPart vs (some (-1))) (h : Q (some (-1)) s) : wpAny (model prog w) A (Builtin.Slice.slicePartIndex vs) Q E s := HT.slicePart_ p h
theorem applied_rev {sl : Addr} {vl vu vs : Value} {n : Nat} {Q : Int × Int × Nat → Shared → Prop} (hs : s.heap.IsSliceOf sl vl vu vs) (pl : IsPart vl none) (pu : IsPart vu none) (ps : IsPart vs (some (-1)))
    (h : Q ((n : Int) - 1, -1, n) s) : wpAny (model prog w) A (Builtin.Slice.sliceApplied (.ref sl) (pure (n : Int))) Q E s := by
  obtain ⟨os, hos, hcs, hds⟩ := id hs
  unfold Builtin.Slice.sliceApplied Builtin.Slice.sliceFields
  refine wpAny_bind (wpAny_bind (wpAny_field hos hds (x := vl) rfl (wpAny_bind (wpAny_field hos hds (x := vu) rfl (wpAny_bind (wpAny_field hos hds (x := vs) rfl (wpAny_pure ?_)))))))
  refine wpAny_bind (HT.slicePart_ ps ?_)
  show wpAny _ _ (if ((-1 : Int) == 0) = true then _ else _) _ _ s
  rw [if_neg (by decide)]
  refine wpAny_bind (HT.slicePart_ pl (wpAny_bind (HT.slicePart_ pu (wpAny_bind (wpAny_pure ?_)))))
  show wpAny _ _ (match Builtin.Slice.sliceAdjust none none (-1) (n : Int) with | (lo, hi) => pure (lo, (-1 : Int), Builtin.Slice.slicePlaces lo hi (-1))) _ _ s
  have e1 : Builtin.Slice.sliceAdjust none none (-1) (n : Int) = ((n : Int) - 1, -1) := by
    first
    | rfl
    | (unfold Builtin.Slice.sliceAdjust; simp)
  have e2 : Builtin.Slice.slicePlaces ((n : Int) - 1) (-1) (-1) = n := by
    unfold Builtin.Slice.slicePlaces
    rw [if_neg (by decide)]
    split
    · rw [show (- -1 : Int) = 1 by decide, Int.ediv_one]
      omega
    · omega
  rw [e1]
  show wpAny _ _ (pure ((n : Int) - 1, (-1 : Int), Builtin.Slice.slicePlaces ((n : Int) - 1) (-1) (-1))) _ _ s
  rw [e2]
  exact wpAny_pure h
theorem fm_congr {α β : Type} {f g : α → Option β} : ∀ {l : List α}, (∀ a, a ∈ l → f a = g a) → l.filterMap f = l.filterMap g
  | [], _ => rfl
  | a :: l, h => by
    rw [List.filterMap_cons, List.filterMap_cons, h a List.mem_cons_self, fm_congr fun b hb => h b (List.mem_cons_of_mem _ hb)]
theorem pick_revT (xs : Array Value) : ((List.range xs.size).filterMap fun (k : Nat) => xs[(((xs.size : Int) - 1) + (k : Int) * (-1)).toNat]?).toArray = xs.toList.reverse.toArray := by
  congr 1
  have e : ((List.range xs.size).filterMap fun (k : Nat) => xs[(((xs.size : Int) - 1) + (k : Int) * (-1)).toNat]?) = ((List.range xs.size).map fun k => xs.size - 1 - k).filterMap (xs[·]?) := by
    rw [List.filterMap_map]
    refine fm_congr fun k hk => ?_
    have hk := List.mem_range.mp hk
    show _ = xs[xs.size - 1 - k]?
    rw [show (((xs.size : Int) - 1) + (k : Int) * (-1)).toNat = xs.size - 1 - k by omega]
  rw [e, PySem.W.krv_range, List.filterMap_reverse, PySem.W.krv_all]
theorem getItem_tuple_rev {t sl : Addr} {items : Array Value} {vl vu vs : Value} {Q : Value → Shared → Prop} (ht : IsTup s.heap t items) (hs : s.heap.IsSliceOf sl vl vu vs) (pl : IsPart vl none) (pu : IsPart vu none) (ps : IsPart vs (some (-1)))
    (h : Q (.ref s.heap.objs.size) { s with heap := s.heap.push { cls := .type "tuple", data := .seq items.toList.reverse.toArray } }) (hsz : items.size ≤ sizeLine) : wpAny (model prog w) A (getItem (.ref t) (.ref sl)) Q E s := by
  have hok : sizeOk (.seq items.toList.reverse.toArray) := by
    show items.toList.reverse.toArray.size ≤ sizeLine
    rw [List.size_toArray, List.length_reverse, Array.length_toList]
    exact hsz
  obtain ⟨os, hos, hcs, hds⟩ := id hs
  have hTs : s.TypeIs (.ref sl) "slice" := ⟨os, hos, hcs⟩
  unfold getItem
  try with_reducible refine wpAny_holding ?_
  first | refine wpAny_bind (wpAny_pure ?_) | skip
  refine wpAny_bind (wpAny_sequenceKey ht.typeIs (by decide) ?_)
  refine wpAny_bind (wpAny_callSpecial?_slot (name := Str.ofString "__getitem__") ht.typeIs PyProof.Rows.slot_tuple_getitem
    (wpAny_call_entry PyProof.Rows.slot_tuple_getitem ht.typeIs entry_tuple_getitem ?_ (args_tuple_getitem _ _)))
  show wpAny _ _ (Builtin.Tuple.tupleItemsOf (.ref t) >>= _) _ _ s
  refine wpAny_bind (tupleItemsOf_ ht ?_)
  refine wpAny_bind (wpAny_typeOf hTs ?_)
  rw [if_pos (by decide)]
  refine wpAny_bind (applied_rev hs pl pu ps ?_)
  have hno : ¬ ((((items.size : Int) - 1) == 0 && (-1 : Int) == 1 && items.size == items.size) = true) := by
    rw [show ((-1 : Int) == 1) = false by decide, Bool.and_false, Bool.false_and]
    exact Bool.false_ne_true
  show wpAny _ _ (if (((items.size : Int) - 1) == 0 && (-1 : Int) == 1 && items.size == items.size) = true then _ else _) _ _ s
  rw [if_neg hno, pick_revT]
  first
    | exact wpAny_bind (m := Builtin.Tuple.tupleExact _) (wpAny_newObj_type (wpAny_pure ⟨_, rfl, wpAny_pure h⟩) hok)
    | exact wpAny_bind (m := Builtin.Tuple.tupleExact _) (wpAny_newObj_type (wpAny_bind (wpAny_pure (wpAny_pure ⟨_, rfl, wpAny_pure h⟩))) hok)
    | exact wpAny_bind (wpAny_bind (m := Builtin.Tuple.tupleExact _) (wpAny_newObj_type (wpAny_pure (wpAny_pure ⟨_, rfl, wpAny_pure h⟩)) hok))
    | exact wpAny_bind (wpAny_bind (m := Builtin.Tuple.tupleExact _) (wpAny_newObj_type (wpAny_pure ⟨_, rfl, wpAny_pure h⟩) hok))
end
section
variable {X : Cx} {W : WX} {g : Gc} {k : Kd} {m : Bool} {e : Expr} {f : M D} {pos : Pos}
def tRevT (K : PySem.W.Frag) (te : TE) : TE := fun σ H Q => te σ H fun x H1 => ∃ a xs, x = .ref a ∧ SqT K H1 a xs ∧ ∀ p, H1 p = none → Q (.ref p) (upd H1 p (.tup xs.reverse))
theorem pe_revT {te : TE} {kk : Nat} {p1 p2 p3 : Pos} (he : PE X e te) : PE X (.Subscript e (.Slice none none (some (.UnaryOp .USub (.Constant (.int 1) kk p1) p2)) p3) pos) (tRevT X.K te) := by
  refine ⟨fun pins s σ H Q I h => ?_⟩
  refine Subscript_ (thn (he.run pins s σ H _ I h) fun v s1 ⟨x, H1, I1, r1, q1⟩ => ?_)
  obtain ⟨a, xs, ex, hx, q⟩ := q1
  subst ex
  cases r1
  have hst : PO X (some (.UnaryOp .USub (.Constant (.int 1) kk p1) p2)) (tPart (tUn (rU fun i => .int (-i)) (tC (.int 1)))) := po_some (pe_un un_neg pe_int)
  refine wpAny_Slice (thn (po_none.run pins s1 σ H1 (fun o H2 => o = none ∧ H2 = H1) I1 ⟨rfl, rfl⟩) fun vl s2 ⟨l, H2, I2, pl, el, e2⟩ => ?_)
  subst el e2
  refine thn (po_none.run pins s2 σ H2 (fun o H3 => o = none ∧ H3 = H2) I2 ⟨rfl, rfl⟩) fun vu s3 ⟨u, H3, I3, pu, eu, e3⟩ => ?_
  subst eu e3
  refine thn (hst.run pins s3 σ H3 (fun o H4 => o = some (-1) ∧ H4 = H3) I3 ⟨1, rfl, -1, rfl, rfl, rfl⟩) fun vs s4 ⟨o, H4, I4, ps, eo, e4⟩ => ?_
  subst eo e4
  have I5 : Inv X pins σ H4 { s4 with heap := s4.heap.push { cls := .type "slice", data := .fields #[vl, vu, vs] } } := I4.kept (t' := s4.toks) fun b ob q => Heap.get?_push_of_some _ q
  obtain ⟨its, r, ht, hz⟩ := I5.tuple hx
  have hlen := L2.Vals.length r
  show wpAny (model X.prog X.w) X.A (subscriptTail e (.Slice none none (some (.UnaryOp .USub (.Constant (.int 1) kk p1) p2)) p3) (.ref a) (.ref s4.heap.objs.size)) (EP X pins σ Q) X.xe { s4 with heap := s4.heap.push { cls := .type "slice", data := .fields #[vl, vu, vs] } }
  refine tail_any (ops := [.ref a, .ref s4.heap.objs.size]) ht.typeIs (PyProof.Rows.slot_tuple_getitem.lookup) ?_ (by with_unfolding_all rfl)
  refine getItem_tuple_rev ht (Heap.IsSliceOf.new _ vl vu vs) pl pu ps ?_ (by rw [List.size_toArray]; omega)
  refine ⟨.ref _, _, I5.laid (t' := s4.toks) (o := .tup xs.reverse) (fun b ob q => Heap.get?_push_of_some _ q) (Nat.le_refl _) ?_, rfl, q _ (I5.hok.fresh (Nat.le_refl _))⟩
  exact ⟨by rw [List.length_reverse]; exact hz, _, r.reverse, ⟨_, Heap.get?_push_size _ rfl, rfl, _, rfl⟩⟩
def oRevT : D → Option D
  | .tup xs => some (.tup xs.reverse)
  | _ => none
theorem je_revT {kk : Nat} {p1 p2 p3 : Pos} (h : JE X W k m e f) : JE X W .im m (.Subscript e (.Slice none none (some (.UnaryOp .USub (.Constant (.int 1) kk p1) p2)) p3) pos) (op1 oRevT f) := (pe_revT h).weak fun σ H Q ⟨γ, τ, R, q⟩ => by
  unfold op1 at q
  rw [fit_bind] at q
  refine ⟨γ, τ, R, q.mono (fun d τ1 q v H1 s1 P1 => ?_) fun _ _ q => q⟩
  obtain ⟨R1, kp1, v1⟩ := P1.val
  obtain ⟨z, ez, q⟩ := fit_lift.mp q
  unfold oRevT at ez
  split at ez
  · cases ez
    obtain ⟨a, vs, rfl, ha, ra⟩ := v1.l.tup
    refine ⟨a, vs, rfl, .inl (.inl ha.1), fun p hp => ?_⟩
    have ou := out_tup R1.avT ra.reverse hp
    exact q _ _ (fun z => (s1 z).trans ou.1) (PostE.of_out R1 kp1 (by decide) ou)
  · cases ez
/-- (a, b, ..) = a list -/
def tgL (n : Nat) (hs : List D → PS0 → Option PS0) : D → PS0 → Option PS0
  | .lst ds, τ => if ds.length = n then hs ds τ else none
  | _, _ => none
theorem jg_lst {es : List Expr} {hs : List D → PS0 → Option PS0} {ts : List Nat} {kk n : Nat} (hc : X.calm = true) (h : JGs X es hs ts) (hn : (assignEach es X.env).length = n := by rfl) (hst : (assignEach es X.env).findIdx? (·.1) = none := by rfl) : JG X (.Tuple es kk pos) (tgL n hs) ts :=
  PG.weak (pg_unl hc h hn hst) fun v σ H Q ⟨γ, τ, d, τ', R, r, e, q⟩ => by
    unfold tgL at e
    split at e
    · split at e
      · rename_i ds hl
        obtain ⟨a, vs, rfl, ha, ra⟩ := LRep.lst (.inl r)
        exact ⟨a, vs, rfl, .inl (.inl ha), ra.length.trans hl, γ, τ, ds, τ', R, ra, e, q⟩
      · cases e
    · cases e
end
end PL

/-! PL33: promises of defs that are called with no repr under way. -/
namespace PL
open PySem PySem.Spec PyProof.Rows L2
/-- a promise at a call with nothing under way -/
structure FnG (P : Program) (w : World) (K : PySem.W.Frag) (mg : Str → Option Value) (base : Heap) (CX : CXT) (k : Nat) (f : Addr) (fd : FuncData) (ps : List Str) (sp : Sp) : Prop where
  len : ∀ vs H Q E, sp vs H Q E → vs.length = ps.length
  run : ∀ (A : Around) (outer : List Env) (s : Shared) (H : Hp) (args : Args) (us : List Value) (vs : List V) (Q : VK) (E : XK), Room k A → A.guards = some [] → Env0 P w K mg base A outer s H → BindsTo s fd args (ps.zip us) → Vals vs us → sp vs H Q E →
    codeAny (model P w) A (.call (.ref f) args) (CR CX outer P w H s Q E) s
section
variable {P : Program} {w : World} {K : PySem.W.Frag} {mg : Str → Option Value} {base : Heap}
theorem FnG.mono {CX : CXT} {j k : Nat} {f : Addr} {fd : FuncData} {ps : List Str} {sp : Sp} (F : FnG P w K mg base CX j f fd ps sp) (h : j ≤ k) : FnG P w K mg base CX k f fd ps sp :=
  ⟨F.len, fun A outer s H args us vs Q E hr => F.run A outer s H args us vs Q E (hr.mono h)⟩
/-- from the body -/
theorem fnG_of {x qual : Str} {st : Stmt} {f : Addr} {fd : FuncData} {N ps : List Str} {k : Nat} {sp : Sp} (F : Fun K x qual st f fd) (S : FnScope N ps (defScope st)) (len : ∀ vs H Q E, sp vs H Q E → vs.length = ps.length)
    (hbody : ∀ (cdv : Value) (A : Around) (outer : List Env) (s : Shared) (H : Hp) (vs : List V) (Q : VK) (E : XK), Room k (A.deeper (envOfC qual (defScope st) s.heap.objs.size f cdv)) → (A.deeper (envOfC qual (defScope st) s.heap.objs.size f cdv)).guards = some [] → sp vs H Q E →
      ∃ t, PSs (cxOf (L2.CX P w) P w K mg base N qual (defScope st) f cdv A outer s H E) (defBody st) t ∧ t { nx := fun _ H' => Q .non H', rt := Q } (start N vs) H) : FnG P w K mg base (L2.CX P w) (k + 1) f fd ps sp := by
  obtain ⟨oc, od, kV, doc, pm, an, cdv, ct, osl, rfl, lk, hcd⟩ := F.ex
  refine ⟨len, fun A outer s H args us vs Q E hr hg e0 hb r hsp => ?_⟩
  have hl := len _ _ _ _ hsp
  have KX : K.In s.heap := e0.mod.kin.keeps fun b o e => (e0.bs b o e).1
  have lim : s.heap.NoLimit := e0.mod.nolimit.keeps fun b o e => (e0.bs b o e).1
  refine codeAny_call_function hr.depth (KX _ _ lk) rfl S.co S.gen rfl (PySem.W.codeRec_of KX hcd) (hb _ _ _ _ ?_)
  refine wpAny_newFunctionEnv_cells S.kind (fun ⟨n, v⟩ hy => ?_) fun env he s1 x => ?_
  · rcases S.par n (List.of_mem_zip hy).1 with q | q
    · exact .inl q
    · exact .inr ⟨q, PySem.W.cellsFrom_some _ _ _ (.inl q)⟩
  · subst he
    refine ⟨lim.keeps x.toInCall.keep, codeAny_func ?_⟩
    obtain ⟨t, ht, hq⟩ := hbody cdv A outer s H vs Q E (hr.deeper _) hg hsp
    have I := inv_start (CX := L2.CX P w) (E := E) S hr.hd e0 hl r x
    refine wpAny_mono (ht.run [] s1 (start N vs) H _ I hq) (fun fl s' hs => ?_) fun e s' hs => hs
    cases fl with
    | ret u =>
      obtain ⟨v, σ', H', J, rv, q⟩ := hs
      exact ⟨v, H', J.os, J.bare, J.base, J.hok, rv, q⟩
    | next =>
      obtain ⟨σ', H', J, q⟩ := hs
      exact ⟨.non, H', J.os, J.bare, J.base, J.hok, rfl, q⟩
    | brk => obtain ⟨_, _, _, q⟩ := hs; exact False.elim q
    | cont => obtain ⟨_, _, _, q⟩ := hs; exact False.elim q
end
section
variable {X : Cx} {CX : CXT} {k : Nat} {f : Addr} {fd : FuncData} {ps : List Str} {sp : Sp} {E : L2.St → XK} {x : Str} {p pos : Pos} {e : Expr} {es : List Expr} {t : TA}
theorem run_fnG {pins : List (Addr × Obj)} {σ : L2.St} {H : Hp} {s : Shared} {Q : VK} {us : List Value} {vs : List V} (F : FnG X.prog X.w X.K X.mg X.base CX k f fd ps sp) (hr : Room k X.A) (hgd : X.A.guards = some []) (hb : Binds X.K fd ps []) (hx : PassesAt CX X σ (E σ))
    (I : Inv X pins σ H s) (r : Vals vs us) (h : sp vs H Q (E σ)) : wpAny (model X.prog X.w) X.A (call (.ref f) us) (EP X pins σ Q) X.xe s := by
  have b := hb s us I.kIn (by rw [List.append_nil, ← L2.Vals.length r]; exact F.len _ _ _ _ h)
  rw [List.append_nil] at b
  refine wpAny_call (codeAny_mono (F.run X.A X.stack s H ⟨us, []⟩ us vs Q (E σ) hr hgd I.env0 b r h) fun r s' hq => ?_)
  match r, hq with
  | .error e, hq => exact hx pins H s e s' I hq
  | .ok (.ret u), hq => exact I.after hq
theorem pe_callG (F : FnG X.prog X.w X.K X.mg X.base CX k f fd ps sp) (hr : Room k X.A) (hgd : X.A.guards = some []) (hg : Gl X x) (hm : X.mg x = some (.ref f)) (hk : PySem.W.keepIn X.K (.ref f) = true) (hb : Binds X.K fd ps []) (hx : ∀ σ, PassesAt CX X σ (E σ))
    (ha : PA X (e :: es) t) (hdb : (x == ("__debug__" : Str)) = false := by decide) (he : starEach (e :: es) X.env = (false, eval e X.env) :: starEach es X.env := by rfl) (hpl : (backTo pos (starEach es X.env)).any (·.1) = false := by rfl) :
    PE X (.Call (.Name x p) (e :: es) [] pos) (tCallS sp E t) :=
  ⟨fun pins s σ H Q I h => wpAny_Call_Name_kw (ld_glob I hg hm (PySem.W.callWith_K (h₀ := X.base) I.ok.mod.kin hk (thn (ha.run pos pins s σ H _ I h) fun us s1 ⟨vs, H1, I1, r, q⟩ => ⟨I1.kIn, run_fnG F hr hgd hb (hx σ) I1 r q⟩) he hpl) hdb)⟩
end
section
variable {X : Cx} {W : WX} {g : Gc} {kr : Kd} {m : Bool} {e : Expr} {es : List Expr} {fs : M (List D)} {pos : Pos}
theorem je_callG {n : Nat} {mf : List D → DR} {kk : Nat} {fa : Addr} {fd : FuncData} {ps : List Str} {x : Str} {p : Pos} (hn : LenOk fs n) (F : FnG X.prog X.w X.K X.mg X.base (L2.CX X.prog X.w) kk fa fd ps (spF X.g n kr mf)) (hr : Room kk X.A) (hgd : X.A.guards = some []) (hm : X.mg x = some (.ref fa)) (hk : PySem.W.keepIn X.K (.ref fa) = true)
    (hb : Binds X.K fd ps []) (tk : Takes X W) (ha : JA X W m (e :: es) fs) (hg : Gl X x := by rfl) (hkr : kr ≠ .ln := by decide) (hdb : (x == ("__debug__" : Str)) = false := by decide) (he : starEach (e :: es) X.env = (false, eval e X.env) :: starEach es X.env := by rfl)
    (hpl : (backTo pos (starEach es X.env)).any (·.1) = false := by rfl) : JE X W kr m (.Call (.Name x p) (e :: es) [] pos) (callF mf fs) :=
  (pe_callG F hr hgd hg hm hk hb (fun σ => passAt tk σ) ha hdb he hpl).weak fun σ H Q ⟨γ, τ, R, h⟩ => by
    unfold callF at h
    rw [fit_bind] at h
    refine ⟨γ, τ, R, ?_⟩
    cases ef : fs τ with
    | stuck => rw [ef] at h; exact h.elim
    | exc nm τ1 => rw [ef] at h; exact h
    | ok ds τ1 =>
      rw [ef] at h
      exact fun vs H1 s1 R1 kp1 rs => spF_post (hn _ _ _ ef) hkr R1 kp1 s1 rs h
end
section
variable {P : Program} {w : World} {K : PySem.W.Frag} {mg : Str → Option Value} {base : Heap}
theorem fn_FG {x qual : Str} {st : Stmt} {f : Addr} {fd : FuncData} {N ps : List Str} {k : Nat} {rk : Kd} {body : SM} (F : Fun K x qual st f fd) (S : FnScope N ps (defScope st)) (hrk : rk ≠ .ln)
    (hb : ∀ (cdv : Value) (A : Around) (outer : List Env) (s : Shared) (H : Hp) (E : XK), Room k (A.deeper (envOfC qual (defScope st) s.heap.objs.size f cdv)) → (A.deeper (envOfC qual (defScope st) s.heap.objs.size f cdv)).guards = some [] → JB (cxOf (L2.CX P w) P w K mg base N qual (defScope st) f cdv A outer s H E) (fun c d _ H => E c d H) rk (defBody st) body) :
    FnG P w K mg base (L2.CX P w) (k + 1) f fd ps (spF ⟨K, mg⟩ ps.length rk (runF N.length rk body)) := by
  refine fnG_of F S (fun vs H Q E h => h.1) (fun cdv A outer s H vs Q E hr hg h => ⟨_, hb cdv A outer s H E hr hg, ?_⟩)
  obtain ⟨hl, A, ds, hA, rs, h⟩ := h
  have R := start_im (γ := ⟨A, 0⟩) (N.length - vs.length) rs hA
  refine ⟨⟨A, 0⟩, _, R, ?_⟩
  have nO : ∀ a, ¬ Own (ds.map Slot.im ++ List.replicate (N.length - vs.length) .no) (start N vs) a := fun a ⟨i, ⟨s, hs, ho⟩, _⟩ => by
    have hm := List.mem_of_getElem? hs
    rcases List.mem_append.mp hm with q | q
    · obtain ⟨d, _, e⟩ := List.mem_map.mp q
      subst e; cases ho
    · rw [List.eq_of_mem_replicate q] at ho; cases ho
  have e0 : N.length - vs.length = N.length - ds.length := by rw [rs.length]
  unfold runF at h
  rw [← e0] at h
  have same : ∀ {τ' : PS0} {σ' : L2.St} {H' : Hp}, Kp (Own (ds.map Slot.im ++ List.replicate (N.length - vs.length) .no) (start N vs)) H (Own τ' σ') H' → Same H H' := fun k a o e => (k a o e (nO a)).1
  cases eb : body (ds.map .im ++ List.replicate (N.length - vs.length) .no) with
  | stuck => rw [eb] at h; exact h.elim
  | nx τ' =>
    rw [eb] at h
    intro σ' H' R' k'
    cases rk with
    | im => exact h .non H' ⟨same k', .non⟩
    | ln => exact h.elim
    | fr => exact h.elim
  | exc n τ' =>
    rw [eb] at h
    exact fun σ' H' R' k' c hc => h H' (same k') c hc
  | ret d τ' =>
    rw [eb] at h
    intro σ' v H' P'
    refine h v H' ?_
    cases rk with
    | ln => exact absurd rfl hrk
    | im => exact ⟨same P'.2.1, P'.2.2.kp (Kp.less fun a z => .inl z)⟩
    | fr =>
      obtain ⟨p, rfl, R', np, k', c⟩ := P'
      refine ⟨fun a o e => (k' a o e (nO a)).1, p, rfl, ?_, c.mono (Kp.less fun a z => z.elim (fun y => .inl (.inl y)) fun y => .inl (.inr y)) rfl⟩
      cases e : H p with
      | none => rfl
      | some o => exact absurd (.inr rfl) (k' p o e (nO p)).2
end
/-! ### the law's def, called -/
section
variable {P : Program} {w : World} {K : PySem.W.Frag} {mg mb : Str → Option Value} {CX : CXT} {k : Nat} {fa a : Addr} {fd : FuncData} {x : Str} {sp : Sp} {s₁ : Shared} {vs : List Value} {ns : List Int}
/-- the heap that the law's def meets: the script alone is tracked, unless the module owns it -/
theorem call_at {H : Hp} (KX : K.In s₁.heap) (hns : s₁.heap.Ns mainGlobals mg) (hb : s₁.heap.Ns builtinsNs mb) (hbb : ∀ x : Str, x ≠ "__name__" → mb x = bootBuiltins x) (hlim : s₁.heap.NoLimit) (hg : s₁.gens = #[])
    (ha : s₁.heap.get? a = some { cls := .type "list", data := .seq vs.toArray }) (hr : Room k callerA)
    (F : ∀ base : Heap, K.In base → base.Ns mainGlobals mg → FnG P w K mg base CX k fa fd [x] sp) (hbind : ∀ (s : Shared) (u : Value), BindsTo s fd ⟨[u], []⟩ [(x, u)])
    (hsp : sp [.ref a] H (fun v _ => v = .bl true) fun _ _ _ => False) (hCX : ∀ e s', CX [] H s₁ (fun _ _ _ => False) e s' → False)
    (hO : Only H) (hok : HOk P w H s₁.heap) (hA : ∀ b, H b ≠ none → b = a) (hK : H a ≠ none → K.lookup a = none) :
    codeAny (model P w) callerA (.call (.ref fa) ⟨[.ref a], []⟩) (fun r s' => r = .ok (.ret (.bool true)) ∧ OldK s₁.heap s'.heap ∧ s'.os = s₁.os ∧ AllBare s'.gens) s₁ := by
  have none_of : ∀ {b : Addr}, (b = a → False) → H b = none := fun {b} n => by
    cases q : H b with
    | none => rfl
    | some u => exact (n (hA b (by rw [q]; exact Option.some_ne_none u))).elim
  have nsK : ∀ {b : Addr} {m : Str → Option Value}, s₁.heap.Ns b m → (hidT s₁.heap H).Ns b m := fun {b m} ⟨o, es, ep, e, d, r⟩ =>
    ⟨o, es, ep, hidT_get e (none_of fun z => by
      subst z
      rw [ha] at e
      cases e
      exact nomatch (show Data.seq vs.toArray _ = Data.dict es ep from d)), d, r⟩
  have hKb : K.In (hidT s₁.heap H) := fun b o e => hidT_get (KX b o e) (by
    cases q : H b with
    | none => rfl
    | some u =>
      have z := hA b (by rw [q]; exact Option.some_ne_none u)
      subst z
      rw [hK (by rw [q]; exact Option.some_ne_none u)] at e
      cases e)
  have e0 : Env0 P w K mg (hidT s₁.heap H) callerA [] s₁ H :=
    ⟨rfl, ⟨hKb, nsK hns, ⟨mb, nsK hb, hbb⟩, let ⟨mc, h1, h2⟩ := hlim; ⟨mc, nsK h1, h2⟩⟩, fun b o e => of_hidT e, Nat.le_of_eq (hidT_size _ _), trivial, fun b z => absurd (show b ∈ ([] : List Addr) from z) List.not_mem_nil, hok, .of_eq hg⟩
  refine codeAny_mono ((F _ hKb (nsK hns)).run callerA [] s₁ H ⟨[.ref a], []⟩ [.ref a] [.ref a] _ _ hr rfl e0 (hbind s₁ (.ref a)) (.cons rfl .nil) hsp) fun r s' h => ?_
  match r, h with
  | .error e, h => exact (hCX e s' h).elim
  | .ok (.ret u), ⟨v, H', os, bare, un, hok', r', q⟩ =>
    have q : v = .bl true := q
    subst q
    obtain rfl : u = Value.bool true := r'
    refine ⟨rfl, OldK.of_keep fun b o e => ?_, os, bare⟩
    cases q : H b with
    | none => exact un.keep b o e q (fun z => absurd (show b ∈ ([] : List Addr) from z) List.not_mem_nil) List.not_mem_nil
    | some u =>
      rcases hO b with z | ⟨ob, xs, z⟩
      · rw [q] at z; cases z
      · obtain ⟨e1, _⟩ := hok b _ z
        rw [e] at e1
        cases e1
        exact (hok' b _ (un.frzs b _ _ z)).1
theorem law_callG (KX : K.In s₁.heap) (hns : s₁.heap.Ns mainGlobals mg) (hb : s₁.heap.Ns builtinsNs mb) (hbb : ∀ x : Str, x ≠ "__name__" → mb x = bootBuiltins x) (hlim : s₁.heap.NoLimit) (hg : s₁.gens = #[])
    (ha : s₁.heap.get? a = some { cls := .type "list", data := .seq vs.toArray }) (hi : IntsAre vs ns) (hl : ns.length ≤ sizeLine) (hr : Room k callerA)
    (F : ∀ base : Heap, K.In base → base.Ns mainGlobals mg → FnG P w K mg base CX k fa fd [x] sp) (hbind : ∀ (s : Shared) (u : Value), BindsTo s fd ⟨[u], []⟩ [(x, u)])
    (hsp : ∀ H : Hp, Only H → SqL K H a (ns.map V.int) → sp [.ref a] H (fun v _ => v = .bl true) fun _ _ _ => False)
    (hCX : ∀ H e s', CX [] H s₁ (fun _ _ _ => False) e s' → False) :
    codeAny (model P w) callerA (.call (.ref fa) ⟨[.ref a], []⟩) (fun r s' => r = .ok (.ret (.bool true)) ∧ OldK s₁.heap s'.heap ∧ s'.os = s₁.os ∧ AllBare s'.gens) s₁ := by
  have rv := vals_ints hi
  cases hk : K.lookup a with
  | some o =>
    have e := KX a o hk
    rw [ha] at e
    cases e
    have hO : Only fun _ => none := fun _ => .inl rfl
    exact call_at KX hns hb hbb hlim hg ha hr F hbind (hsp _ hO (.inr ⟨_, vs.toArray, _, hk, rfl, rfl, rfl, by rw [List.size_toArray, hi.length]; exact hl, by simpa using rv⟩)) (hCX _) hO (fun b u z => nomatch (show (none : Option HO) = some u from z)) (fun b z => absurd rfl z) fun z => absurd rfl z
  | none =>
    have at_a : ∀ {u : HO}, (if (a : Addr) = a then some u else none) = some u := if_pos rfl
    have hO : Only fun b => if b = a then some (.frz { cls := .type "list", data := .seq vs.toArray } (.lst (ns.map V.int))) else none := fun b => by
      by_cases z : b = a
      · exact .inr ⟨_, _, if_pos z⟩
      · exact .inl (if_neg z)
    refine call_at KX hns hb hbb hlim hg ha hr F hbind (hsp _ hO (.inl (.inr ⟨{ cls := .type "list", data := .seq vs.toArray }, if_pos rfl⟩))) (hCX _) hO (fun b u z => ?_) (fun b z => ?_) fun _ => hk
    · by_cases y : b = a
      · have z := (if_pos y).symm.trans z
        cases z
        subst y
        exact ⟨ha, by rw [List.length_map]; exact hl, vs, _, rv, ha⟩
      · exact nomatch (if_neg y).symm.trans z
    · by_cases y : b = a
      · exact y
      · exact absurd (if_neg y) z
end
theorem walk_ofG {l : PySem.W.OpenLaw} {n k : Nat} {q : Program} {loose : List Str} {XP : (Str → Option Value) → Heap → Prop} {YP : World → Heap → Prop} {d : DefRec} {K : Params → PySem.W.Frag} {CX : World → CXT} {sp : World → Sp} {x : Str}
    (hn : l.most = some n) (hn2 : n ≤ sizeLine) (hdf : d.params.defaults = []) (hr : Room k callerA)
    (hY : ∀ (w : World) (h : Heap), YP w h → (K w.params).In h)
    (F : ∀ (w : World) (mg : Str → Option Value) (fa : Addr) (h : Heap), (K w.params).In h → h.Ns mainGlobals mg → mg d.name = some (.ref fa) →
      ∃ fd : FuncData, (∀ (s : Shared) (u : Value), BindsTo s fd ⟨[u], []⟩ [(x, u)]) ∧
        ∀ base : Heap, (K w.params).In base → base.Ns mainGlobals mg → FnG l.prog w (K w.params) mg base (CX w) k fa fd [x] (sp w))
    (hsp : ∀ (w : World) (H : Hp) (a : Addr) (ns : List Int), ns.length ≤ n → Only H → SqL (K w.params) H a (ns.map V.int) → sp w [.ref a] H (fun v _ => v = .bl true) fun _ _ _ => False)
    (hCX : ∀ (w : World) (H : Hp) (s : Shared) (e : Value) (s' : Shared), CX w [] H s (fun _ _ _ => False) e s' → False) :
    PySem.W.WalkO q loose XP YP l.row.toRowW d [] (fun f vs => PySem.call f vs) := by
  refine Att.attach_call hn hdf fun w s₀ s₁ mg mb fa o pm cd doc a vs ns G Y ho hd hcd hmg hobj hints hlen hg => ?_
  have KX := hY w _ Y
  obtain ⟨fd, hb, hF⟩ := F w mg fa _ KX G.T.g hmg
  exact law_callG KX G.T.g G.T.b G.T.builtins G.T.nolimit hg hobj hints (Nat.le_trans hlen hn2) hr hF hb (fun H hO hS => hsp w H a ns hlen hO hS) fun H e s' => hCX w H s₁ e s'
end PL

/-! PL34: repr of data, dicts within, where nothing is under way. -/
namespace PL
open PySem PySem.Spec PyProof.Rows L2
def kPy : Key → PyData
  | .inl i => .int i
  | .inr x => .str x
mutual
def toPR : D → PyData
  | .bl b => .bool b
  | .int i => .int i
  | .str x => .str (S x)
  | .lst xs => .list (toPRA xs)
  | .tup xs => .tuple (toPRA xs)
  | .dK es => .dict (toPRK es)
  | _ => .none
def toPRA : List D → List PyData
  | [] => []
  | x :: xs => toPR x :: toPRA xs
def toPRK : List (Key × D) → List (PyData × PyData)
  | [] => []
  | (k, d) :: es => (kPy k, toPR d) :: toPRK es
end
def kOk : Key → Bool
  | .inl i => decide (i.natAbs.log2 < 1920)
  | .inr _ => true
mutual
def rp : D → Bool
  | .non => true
  | .bl _ => true
  | .str _ => true
  | .int i => decide (i.natAbs.log2 < 1920)
  | .lst xs => rpA xs
  | .tup xs => rpA xs
  | .dK es => rpK es
  | _ => false
def rpA : List D → Bool
  | [] => true
  | x :: xs => rp x && rpA xs
def rpK : List (Key × D) → Bool
  | [] => true
  | (k, d) :: es => kOk k && rp d && rpK es
end
theorem toPRK_fst : ∀ es : List (Key × D), (toPRK es).map (·.1) = es.map fun kv => kPy kv.1
  | [] => by unfold toPRK; rfl
  | (k, d) :: es => by unfold toPRK; rw [List.map_cons, List.map_cons, toPRK_fst es]
theorem toPRK_snd : ∀ es : List (Key × D), (toPRK es).map (·.2) = toPRA (es.map (·.2))
  | [] => by unfold toPRK; rw [List.map_nil, List.map_nil]; unfold toPRA; rfl
  | (k, d) :: es => by unfold toPRK; rw [List.map_cons, List.map_cons, toPRK_snd es]; conv => rhs; unfold toPRA
theorem rpK_vals : ∀ {es : List (Key × D)}, rpK es = true → rpA (es.map (·.2)) = true ∧ ∀ kv ∈ es, kOk kv.1 = true
  | [], _ => ⟨by rw [List.map_nil]; unfold rpA; rfl, fun _ h => nomatch h⟩
  | (k, d) :: es, h => by
    unfold rpK at h
    rw [Bool.and_eq_true, Bool.and_eq_true] at h
    obtain ⟨h1, h2⟩ := rpK_vals h.2
    refine ⟨by rw [List.map_cons]; unfold rpA; rw [h1, h.1.2]; rfl, fun kv hkv => ?_⟩
    rcases List.mem_cons.mp hkv with rfl | q
    · exact h.1.1
    · exact h2 kv q
section
variable {X : Cx} {pins : List (Addr × Obj)} {σ : L2.St} {H : Hp} {s : Shared} {A : Addr → Prop}
/-- repr of it, called -/
def CallsRepr (X : Cx) (s : Shared) (u : Value) (d : PyData) : Prop := ∀ (A : Around) (E : Value → Shared → Prop) (Q : Value → Shared → Prop), A.guards = some [] → A.units + (d.depth + 2) < cLine → d.shown.length ≤ sizeLine →
  (∀ h' t tk, (∀ b o, s.heap.get? b = some o → h'.get? b = some o) → Q (.str d.shown t) { s with heap := h', toks := tk }) → wpAny (model X.prog X.w) A (call (.builtin "repr") [u]) Q E s
def ShowOk (X : Cx) (s : Shared) (u : Value) (d : PyData) : Prop := ((∃ as, Reads s.heap u d as) ∧ ∃ bs, ReadAtMost s.heap d.depth bs ∧ ReprK X.prog X.w bs s.heap d.depth u d.shown) ∧ CallsRepr X s u d
def ShowAll (X : Cx) (h : Heap) (us : List Value) (ds : List PyData) : Prop := (∃ as, ReadsAll h us ds as) ∧ ∃ bs, ReadAtMost h (PyData.depthAll ds) bs ∧ ReprAllK X.prog X.w bs h (PyData.depthAll ds) us (PyData.shownAll ds)
theorem show_is {u : Value} {d : PyData} (r : Reads s.heap u d []) (q : ReprIs X.prog X.w u d.shown) (c : CallsRepr X s u d) : ShowOk X s u d := ⟨⟨⟨_, r⟩, [], (fun _ z => nomatch z), .of_is q _ _ _⟩, c⟩
theorem repr_ref {A : Around} {E : Value → Shared → Prop} {Q : Value → Shared → Prop} {a : Addr} {o : Obj} {T idr : String} (hu : A.units + 1 < cLine) (ho : s.heap.get? a = some o) (hc : o.cls = .type T) (slot : SlotG T "__repr__" idr)
    (hc2 : wpAny (model X.prog X.w) A.in1 (call (.builtin idr) [.ref a]) (fun r s1 => ∃ x t, r = .str x t ∧ Q r s1) E s) : wpAny (model X.prog X.w) A (call (.builtin "repr") [.ref a]) Q E s :=
  call_repr_slot hu ⟨o, ho, hc⟩ slot hc2
theorem show_list {a : Addr} {its : List Value} {ds : List PyData} (hp : PlainL s.heap a its.toArray) (h : ShowAll X s.heap its ds) : ShowOk X s (.ref a) (.list ds) := by
  obtain ⟨⟨as, hr⟩, bs, hb, hk⟩ := h
  obtain ⟨o, n, ho, hc, _, hd⟩ := hp
  have r0 : Reads s.heap (.ref a) (.list ds) (a :: as) := .list ho hc hd (by simpa using hr)
  have hna : a ∉ bs := not_mem_of_deeper r0 (by simp only [PyData.depth]; omega) hb
  refine ⟨⟨⟨_, r0⟩, a :: bs, ReadAtMost.cons r0 (by simp only [PyData.depth]; omega) hb, ?_⟩, fun A E Q hg hu hz hQ => repr_ref (by omega) ho hc F.slot_list_repr.toG ?_⟩
  · simp only [PyData.depth, PyData.shown]
    cases its with
    | nil =>
      cases hr
      simp only [PyData.shownAll, listText_nil]
      exact ReprK.listEmpty ho hc hd
    | cons x l => exact ReprK.list ho hc hd hna (by simpa using hk.length_eq) (fun i y e => hk.item i y (by simpa using e))
  · simp only [PyData.depth, PyData.shown] at hu hz hQ
    cases its with
    | nil =>
      cases hr
      simp only [PyData.shownAll, listText_nil] at hQ
      exact call_list_repr_empty ⟨o, ho, hc⟩ ho hd ⟨_, _, rfl, hQ s.heap _ _ fun _ _ e => e⟩
    | cons x l => exact call_list_reprK ho hc hd hna (by simpa using hk.length_eq) (fun i y e => hk.item i y (by simpa using e)) hg (fun b _ => Clear.nil b) (by show A.units + 1 + _ < cLine; omega) (fun _ _ e => e) (fun h' u tk k => ⟨_, _, rfl, hQ h' u tk k⟩) hz
theorem show_tup {a : Addr} {its : List Value} {ds : List PyData} (hp : IsTup s.heap a its.toArray) (h : ShowAll X s.heap its ds) : ShowOk X s (.ref a) (.tuple ds) := by
  obtain ⟨⟨as, hr⟩, bs, hb, hk⟩ := h
  obtain ⟨o, ho, hc, n, hd⟩ := hp
  have r0 : Reads s.heap (.ref a) (.tuple ds) as := .tuple ho hc hd (by simpa using hr)
  have hna : a ∉ bs := not_mem_of_deeper r0 (by simp only [PyData.depth]; omega) hb
  refine ⟨⟨⟨_, r0⟩, a :: bs, ReadAtMost.cons r0 (by simp only [PyData.depth]; omega) hb, ?_⟩, fun A E Q hg hu hz hQ => repr_ref (by omega) ho hc F.slot_tuple_repr ?_⟩
  · simp only [PyData.depth, PyData.shown]
    exact ReprK.tuple ho hc hd hna (by simpa using hk)
  · simp only [PyData.depth, PyData.shown] at hu hz hQ
    exact call_tuple_reprK ho hc hd hna (by simpa using hk) hg (fun b _ => Clear.nil b) (by show A.units + 1 + _ < cLine; omega) (fun _ _ e => e) (fun h' u tk k => ⟨_, _, rfl, hQ h' u tk k⟩) hz
theorem pairs_keys : ∀ {es : List DictEntry} {vs : List (Key × Value)}, Pairs (mixKind X.prog X.w) es vs → es.map (·.val) = vs.map (·.2) ∧ ∀ {ds : List (Key × D)}, vs.map (·.1) = ds.map (·.1) → (∀ kv ∈ ds, kOk kv.1 = true) → ∃ as, ReadsAll s.heap (es.map (·.key)) (ds.map fun kv => kPy kv.1) as ∧ PyData.showableAll (ds.map fun kv => kPy kv.1) = true ∧ PyData.hasDictAll (ds.map fun kv => kPy kv.1) = false
  | _, _, .nil => ⟨rfl, fun {ds} e _ => by
    cases ds with
    | nil => exact ⟨_, .nil, rfl, rfl⟩
    | cons _ _ => cases e⟩
  | _, _, .cons (e := e) (kv := kv) h1 h2 t => by
    obtain ⟨i1, i2⟩ := pairs_keys t
    refine ⟨by rw [List.map_cons, List.map_cons, i1, h2], fun {ds} q ok => ?_⟩
    cases ds with
    | nil => cases q
    | cons d ds =>
      rw [List.map_cons, List.map_cons] at q
      injection q with q1 q2
      obtain ⟨as, r, sh, hd⟩ := i2 q2 fun kv hkv => ok kv (List.mem_cons_of_mem _ hkv)
      have ok1 := ok d List.mem_cons_self
      rcases keyIs_shape h1 with ⟨i, t, e1, e2⟩ | ⟨x, t, e1, e2⟩
      · have e3 : d.1 = .inl i := q1.symm.trans e1
        rw [e3] at ok1
        refine ⟨_, by rw [List.map_cons, List.map_cons, e2, e3]; exact .cons (.int i t) r, ?_, ?_⟩
        · rw [List.map_cons, e3]
          unfold PyData.showableAll
          rw [sh]
          simp only [kPy, PyData.showable, Bool.and_true]
          exact ok1
        · rw [List.map_cons, e3]
          unfold PyData.hasDictAll
          rw [hd]
          simp only [kPy, PyData.hasDict, Bool.or_false]
      · have e3 : d.1 = .inr x := q1.symm.trans e1
        refine ⟨_, by rw [List.map_cons, List.map_cons, e2, e3]; exact .cons (.str x t) r, ?_, ?_⟩
        · rw [List.map_cons, e3]
          unfold PyData.showableAll
          rw [sh]
          simp only [kPy, PyData.showable, Bool.and_true]
        · rw [List.map_cons, e3]
          unfold PyData.hasDictAll
          rw [hd]
          simp only [kPy, PyData.hasDict, Bool.or_false]
theorem kv_vals : ∀ {kvs : List (Key × V)} {vs : List (Key × Value)}, KV kvs vs → Vals (kvs.map (·.2)) (vs.map (·.2))
  | _, _, .nil => .nil
  | _, _, .cons h t => .cons h.2 (kv_vals t)
theorem show_dict (I : Inv X pins σ H s) {a : Addr} {kvs : List (Key × V)} {ds : List (Key × D)} (hH : H a = some (.dK kvs)) (hk : kvs.map (·.1) = ds.map (·.1)) (ok : ∀ kv ∈ ds, kOk kv.1 = true) (hz : (PyData.dict (toPRK ds)).shown.length ≤ sizeLine)
    (h : ∀ us, Vals (kvs.map (·.2)) us → ShowAll X s.heap us (toPRA (ds.map (·.2)))) : ShowOk X s (.ref a) (.dict (toPRK ds)) := by
  have hz' : (dictText (PyData.shownKv (toPRK ds))).length ≤ sizeLine := by simpa only [PyData.shown] using hz
  obtain ⟨_, hsys, vs, rel, o, es, ep, ho, hx, hd, _, hp, _⟩ := dk_of I.hok hH
  have ek := rel.keys
  obtain ⟨e1, e2⟩ := pairs_keys (s := s) (X := X) hp
  obtain ⟨as1, hr1, sh1, nd1⟩ := e2 (ds := ds) (ek.symm.trans hk) ok
  have rv := kv_vals rel
  obtain ⟨⟨as2, hr2⟩, bs2, hb2, hk2⟩ := h _ rv
  rw [← e1] at hr2 hk2
  rw [← toPRK_fst] at hr1 sh1 nd1
  rw [← toPRK_snd] at hr2 hk2 hb2
  obtain ⟨bs1, hb1, hk1⟩ := ReprAllK.of_readsAll (prog := X.prog) (w := X.w) hr1 sh1 (fun z => by rw [nd1] at z; cases z) (fun t ht => let ⟨p, hp, hl⟩ := PyData.shownKv_key_le _ t ht; Nat.le_trans hl (Nat.le_trans (dictText_mem_le hp) hz'))
  have r0 : Reads s.heap (.ref a) (.dict (toPRK ds)) (a :: as1 ++ as2) := .dict ho hx.1 hd (by simpa using hr1) (by simpa using hr2)
  have hb : ReadAtMost s.heap (PyData.depthKv (toPRK ds)) (bs1 ++ bs2) := (hb1.mono (PyData.depthAll_keys_le _)).append (hb2.mono (PyData.depthAll_vals_le _))
  have hna : a ∉ bs1 ++ bs2 := not_mem_of_deeper r0 (by simp only [PyData.depth]; omega) hb
  have hE := ReprEntriesK.of_two es.toList _ _ (hk1.more_le (fun b hb => List.mem_append_left _ hb) (PyData.depthAll_keys_le _)) (hk2.more_le (fun b hb => List.mem_append_right _ hb) (PyData.depthAll_vals_le _))
  refine ⟨⟨⟨_, r0⟩, a :: (bs1 ++ bs2), ReadAtMost.cons r0 (by simp only [PyData.depth]; omega) hb, ?_⟩, fun A E Q hg hu hz hQ => repr_ref (by omega) ho hx.1 F.slot_dict_repr ?_⟩
  · simp only [PyData.depth, PyData.shown, PyData.shownKv_eq]
    exact ReprK.dict ho hx.1 hd hsys hna hE
  · simp only [PyData.depth, PyData.shown, PyData.shownKv_eq] at hu hz hQ
    exact call_dict_reprK ho hx.1 hd hsys hna hE hg (fun b _ => Clear.nil b) (by show A.units + 1 + _ < cLine; omega) (fun _ _ e => e) (fun h' u tk k => ⟨_, _, rfl, hQ h' u tk k⟩) hz
mutual
theorem Rep.shw (I : Inv X pins σ H s) : ∀ {d : D} {v : V}, Rep X.g H A v d → ∀ u, RelV v u → rp d = true → (toPR d).shown.length ≤ sizeLine → ShowOk X s u (toPR d)
  | _, _, .non, u, r, _, _ => by
    obtain rfl : u = Value.none := r
    exact show_is .none ReprIs.none fun A E Q _ _ _ hQ => P.repr_of_none (hQ s.heap _ _ fun _ _ e => e)
  | _, _, .bl b, u, r, _, _ => by
    obtain rfl : u = Value.bool b := r
    exact show_is (.bool b) (ReprIs.bool b) fun A E Q _ _ _ hQ => P.repr_of_bool (hQ s.heap _ _ fun _ _ e => e)
  | _, _, .int i, u, r, p, _ => by
    obtain ⟨t, rfl⟩ := r
    have p' : i.natAbs.log2 < 1920 := by unfold rp at p; exact of_decide_eq_true p
    exact show_is (.int i t) (ReprIs.int t p') fun A E Q _ _ _ hQ => P.repr_of_int p' (hQ s.heap _ _ fun _ _ e => e)
  | _, _, .str x, u, r, _, z => by
    obtain ⟨t, rfl⟩ := r
    have z' : (reprText (S x)).length ≤ sizeLine := by simpa only [toPR, PyData.shown] using z
    exact show_is (.str _ t) (ReprIs.str _ t z') fun A E Q _ _ _ hQ => P.repr_of_str (hQ s.heap _ _ fun _ _ e => e) z'
  | _, _, .lst (ds := ds) h _ ra, u, r, p, z => by
    obtain ⟨its, rv, pl, _⟩ := I.list (.inl (.inl h))
    unfold rp at p
    unfold toPR at z ⊢
    have z' : (listText (PyData.shownAll (toPRA ds))).length ≤ sizeLine := by simpa only [PyData.shown] using z
    cases r
    exact show_list pl (ra.shw I its rv p fun t ht => Nat.le_trans (listText_mem_le ht) z')
  | _, _, .tup (ds := ds) h ra, u, r, p, z => by
    obtain ⟨its, rv, pl, _⟩ := I.tuple (.inl (.inl h.1))
    unfold rp at p
    unfold toPR at z ⊢
    have z' : (tupleText (PyData.shownAll (toPRA ds))).length ≤ sizeLine := by simpa only [PyData.shown] using z
    cases r
    exact show_tup pl (ra.shw I its rv p fun t ht => Nat.le_trans (tupleText_mem_le ht) z')
  | _, _, .dK (es := ds) h _ e ra, u, r, p, z => by
    unfold rp at p
    unfold toPR at z ⊢
    have z' : (dictText (PyData.shownKv (toPRK ds))).length ≤ sizeLine := by simpa only [PyData.shown] using z
    cases r
    exact show_dict I h e (rpK_vals p).2 z fun us rv => ra.shw I us rv (rpK_vals p).1 fun t ht => by
      rw [← toPRK_snd] at ht
      obtain ⟨q, hq, hl⟩ := PyData.shownKv_val_le _ t ht
      exact Nat.le_trans hl (Nat.le_trans (dictText_mem_le hq) z')
  | _, _, .fz _ _, _, _, p, _ => by unfold rp at p; cases p
  | _, _, .dT _ _ _ _, _, _, p, _ => by unfold rp at p; cases p
  | _, _, .exc _ _ _, _, _, p, _ => by unfold rp at p; cases p
  | _, _, .mt _ _, _, _, p, _ => by unfold rp at p; cases p
  | _, _, .fk _ _ _ _, _, _, p, _ => by unfold rp at p; cases p
  | _, _, .ft _ _ _ _, _, _, p, _ => by unfold rp at p; cases p
theorem RepA.shw (I : Inv X pins σ H s) : ∀ {ds : List D} {vs : List V}, RepA X.g H A vs ds → ∀ us, Vals vs us → rpA ds = true → (∀ t ∈ PyData.shownAll (toPRA ds), t.length ≤ sizeLine) → ShowAll X s.heap us (toPRA ds)
  | _, _, .nil, us, r, _, _ => by
    cases r
    unfold toPRA
    exact ⟨⟨_, .nil⟩, [], (fun _ z => nomatch z), by simp only [PyData.shownAll]; exact .nil⟩
  | _, _, .cons (d := d) (ds := ds) h ra, us, r, p, z => by
    unfold rpA at p
    rw [Bool.and_eq_true] at p
    unfold toPRA at z ⊢
    cases r with
    | @cons _ u _ us r1 r2 =>
      obtain ⟨⟨⟨as1, q1⟩, b1, hb1, k1⟩, _⟩ := h.shw I u r1 p.1 (z _ (by simp only [PyData.shownAll]; exact List.mem_cons_self))
      obtain ⟨⟨as2, q2⟩, b2, hb2, k2⟩ := ra.shw I us r2 p.2 (fun t ht => z t (by simp only [PyData.shownAll]; exact List.mem_cons_of_mem _ ht))
      refine ⟨⟨_, .cons q1 q2⟩, b1 ++ b2, ?_, ?_⟩
      · have m1 : ReadAtMost s.heap (PyData.depthAll (toPR d :: toPRA ds)) b1 := hb1.mono (by simp only [PyData.depthAll]; exact Nat.le_max_left _ _)
        have m2 : ReadAtMost s.heap (PyData.depthAll (toPR d :: toPRA ds)) b2 := hb2.mono (by simp only [PyData.depthAll]; exact Nat.le_max_right _ _)
        exact m1.append m2
      · simp only [PyData.depthAll, PyData.shownAll]
        exact .cons ((k1.more fun b hb => List.mem_append_left _ hb).level_le (Nat.le_max_left _ _)) (k2.more_le (fun b hb => List.mem_append_right _ hb) (Nat.le_max_right _ _))
end
theorem LRep.shw (I : Inv X pins σ H s) {d : D} {v : V} (h : LRep X.g H A v d) {u : Value} (r : RelV v u) (p : rp d = true) (z : (toPR d).shown.length ≤ sizeLine) : CallsRepr X s u (toPR d) := by
  rcases h with h | ⟨a, rfl, c⟩
  · exact (h.shw I u r p z).2
  · cases c with
    | @lst vs ds h ra =>
      obtain ⟨its, rv, pl, _⟩ := I.list (.inl (.inl h))
      unfold rp at p
      unfold toPR at z ⊢
      have z' : (listText (PyData.shownAll (toPRA ds))).length ≤ sizeLine := by simpa only [PyData.shown] using z
      cases r
      exact (show_list pl (ra.shw I its rv p fun t ht => Nat.le_trans (listText_mem_le ht) z')).2
    | @dK kvs ds h e ra =>
      unfold rp at p
      unfold toPR at z ⊢
      have z' : (dictText (PyData.shownKv (toPRK ds))).length ≤ sizeLine := by simpa only [PyData.shown] using z
      cases r
      exact (show_dict I h e (rpK_vals p).2 z fun us rv => ra.shw I us rv (rpK_vals p).1 fun t ht => by
        rw [← toPRK_snd] at ht
        obtain ⟨q, hq, hl⟩ := PyData.shownKv_val_le _ t ht
        exact Nat.le_trans hl (Nat.le_trans (dictText_mem_le hq) z')).2
    | dT _ _ _ => unfold rp at p; cases p
end
/-! ### repr(x) -/
def reprOk (d : D) : Bool := rp d && decide ((toPR d).depth ≤ 60) && decide ((toPR d).shown.length ≤ 16777216)
def shD (d : D) : List Nat := (toPR d).shown.cps.toList
def oRepr (d : D) : Option D := if reprOk d = true then some (.str (shD d)) else none
def rRepr (g : Gc) : List V → Hp → VK → Prop := fun vs H Q => ∃ A v d, vs = [v] ∧ LRep g H A v d ∧ reprOk d = true ∧ Q (.str (toPR d).shown) H
section
variable {X : Cx}
theorem cr_repr (hg : X.A.guards = some []) (hu : X.A.units + 65 < cLine) : CallR X (.builtin "repr") (rRepr X.g) := by
  intro pins s σ H vs us Q I r h
  obtain ⟨A, v, d, rfl, rx, ok, q⟩ := h
  unfold reprOk at ok
  rw [Bool.and_eq_true, Bool.and_eq_true] at ok
  obtain ⟨⟨o1, o2⟩, o3⟩ := ok
  have o2 := of_decide_eq_true o2
  have o3 := of_decide_eq_true o3
  have o3' : (toPR d).shown.length ≤ sizeLine := by rw [sizeLine_eq]; exact o3
  obtain ⟨u, rfl, ru⟩ := r.one
  exact rx.shw I ru o1 o3' X.A _ _ hg (by omega) o3' fun h' t tk k => ⟨.str _, H, I.kept k, ⟨_, rfl⟩, q⟩
theorem fn_repr {g : Gc} : Fn1 .im g (rRepr g) oRepr := fun H A x d z Q hA rx ho q => by
  unfold oRepr at ho
  split at ho
  · rename_i hz
    cases ho
    refine ⟨A, x, d, rfl, rx, hz, ?_⟩
    have e : (toPR d).shown = S (shD d) := (S_of _).symm
    rw [e]
    exact q _ _ (out_flat fun _ _ => .str _)
  · cases ho
end
end PL

/-! PL35: what is known of a def that is called with nothing under way. -/
namespace PL
open PySem PySem.Spec PyProof.Rows L2
section
variable {P : Program} {w : World} {K : PySem.W.Frag} {mg : Str → Option Value} {base : Heap}
structure KnG (P : Program) (w : World) (K : PySem.W.Frag) (mg : Str → Option Value) (base : Heap) (x : Str) (ps : List Str) (f : Addr) (fd : FuncData) (k : Nat) (sp : Sp) : Prop where
  g : mg x = some (.ref f)
  kp : PySem.W.keepIn K (.ref f) = true
  b : Binds K fd ps []
  ok : FnG P w K mg base (L2.CX P w) k f fd ps sp
theorem FnG.imp {CX : CXT} {k : Nat} {f : Addr} {fd : FuncData} {ps : List Str} {sp sp' : Sp} (F : FnG P w K mg base CX k f fd ps sp) (h : ∀ vs H Q E, sp' vs H Q E → sp vs H Q E) : FnG P w K mg base CX k f fd ps sp' :=
  ⟨fun vs H Q E q => F.len vs H Q E (h _ _ _ _ q), fun A outer s H args us vs Q E hr hg he hb hv hs => F.run A outer s H args us vs Q E hr hg he hb hv (h _ _ _ _ hs)⟩
theorem law_impG {k : Nat} {f : Addr} {fd : FuncData} {m : List D → DR} (F : FnG P w K mg base (L2.CX P w) k f fd ["script"] (spF ⟨K, mg⟩ 1 .im m)) (h : ∀ ns : List Int, ns.length ≤ 63 → m [.fz (ns.map .int)] = .ret (.bl true) .non) :
    FnG P w K mg base (L2.CX P w) k f fd ["script"] (spLaw K) := F.imp fun vs H Q E q => by
  obtain ⟨a, ns, rfl, hS, hl, hO, q⟩ := q
  have hf : AtF ⟨K, mg⟩ H (fun _ => False) a (ns.map V.int) := by
    rcases hS with (z | z) | z
    · rcases hO a with y | ⟨o, xs, y⟩
      · rw [y] at z; cases z
      · rw [y] at z; cases z
    · obtain ⟨o, z⟩ := z
      exact .inl ⟨o, z, fun z => z⟩
    · exact .inr (.inr z)
  refine ⟨rfl, fun _ => False, [.fz (ns.map .int)], fun _ z => z.elim, .cons (.fz hf (repA_ints ns)) .nil, ?_⟩
  rw [h ns hl]
  intro v H' o
  have := o.2
  cases this
  exact q H'
end
section
variable {g : Gc}
/-- xs * n, a new list -/
def oRepL : D → D → Option D
  | .lst xs, .int n => if -(2 ^ 31) < n ∧ n < 2 ^ 31 ∧ xs.length * n.toNat ≤ 16777216 then some (.lst (repD n.toNat xs)) else none
  | _, _ => none
theorem o2_repL : Op2 .fr g rRep oRepL := fun H A x y d e z Q hA rx ry ho q => by
  unfold oRepL at ho
  split at ho
  · split at ho
    · rename_i hz
      cases ho
      obtain ⟨a, vs, rfl, ha, ra⟩ := rx.lst
      rw [ry.int]
      exact ⟨a, _, vs, rfl, rfl, ha, by omega, by omega, by rw [ra.length, sizeLine_eq]; exact hz.2.2, fun p hp => q _ _ (out_lst (by decide) hA (ra.rep _) hp)⟩
    · cases ho
  · cases ho
end
end PL

/-! PL36: lists of unlike lengths compared, whatever they hold. -/
namespace PL
open PySem PySem.Spec PyProof.Rows L2
section
variable {X : Cx} {g : Gc}
def rLenU (k : Bool) (K : PySem.W.Frag) : R2 := fun x y H Q => ∃ a b xs ys, x = .ref a ∧ y = .ref b ∧ SqL K H a xs ∧ SqL K H b ys ∧ xs.length ≠ ys.length ∧ Q (.bl k) H
theorem op_lenEq (hu : X.A.units < cLine) : OpR X (compareOp .Eq) (rLenU false X.K) := by
  intro pins s σ H x y v u Q I rx ry h
  obtain ⟨a, b, xs, ys, rfl, rfl, ha, hb, hn, q⟩ := h
  cases rx
  cases ry
  obtain ⟨its, r1, p1, _⟩ := I.list ha
  obtain ⟨its2, r2, p2, _⟩ := I.list hb
  have e1 := L2.Vals.length r1
  have e2 := L2.Vals.length r2
  exact PySem.SeqAt.RcAt.lists_lengths p1.isList p2.isList (by simp; omega) hu _ _ _ _ ⟨.bl false, H, I, rfl, q⟩
theorem op_lenNe (hu : X.A.units < cLine) : OpR X (compareOp .NotEq) (rLenU true X.K) := by
  intro pins s σ H x y v u Q I rx ry h
  obtain ⟨a, b, xs, ys, rfl, rfl, ha, hb, hn, q⟩ := h
  cases rx
  cases ry
  obtain ⟨its, r1, p1, _⟩ := I.list ha
  obtain ⟨its2, r2, p2, _⟩ := I.list hb
  have e1 := L2.Vals.length r1
  have e2 := L2.Vals.length r2
  exact PySem.SeqAt.RcNeAt.lists_lengths p1.isList p2.isList (by simp; omega) hu _ _ _ _ ⟨.bl true, H, I, rfl, q⟩
def lenX : D → D → Bool
  | .lst xs, .lst ys => decide (xs.length ≠ ys.length)
  | _, _ => false
def oEqE : D → D → Option D := fun d e => if lenX d e = true then some (.bl false) else oEq d e
def oNeE : D → D → Option D := fun d e => if lenX d e = true then some (.bl true) else oNe d e
theorem lenX_lst {H : Hp} {A : Addr → Prop} {d e : D} {x y : V} (h : lenX d e = true) (rx : LRep g H A x d) (ry : LRep g H A y e) : ∃ a b xs ys, x = .ref a ∧ y = .ref b ∧ SqL g.K H a xs ∧ SqL g.K H b ys ∧ xs.length ≠ ys.length := by
  unfold lenX at h
  split at h
  · obtain ⟨a, vs, rfl, ha, ra⟩ := rx.lst
    obtain ⟨b, ws, rfl, hb, rb⟩ := ry.lst
    have h := of_decide_eq_true h
    exact ⟨a, b, vs, ws, rfl, rfl, .inl (.inl ha), .inl (.inl hb), by rw [ra.length, rb.length]; exact h⟩
  · cases h
theorem op_eqE (hu : X.A.units + 64 < cLine) : OpR X (compareOp .Eq) (r2or (rLenU false X.K) (rEqAll X.K)) := OpR.or' (op_lenEq (by omega)) (op_eqAll hu)
theorem op_neE (hu : X.A.units + 64 < cLine) : OpR X (compareOp .NotEq) (r2or (rLenU true X.K) (rNeAll X.K)) := OpR.or' (op_lenNe (by omega)) (op_neAll hu)
theorem o2_eqE : Op2 .im g (r2or (rLenU false g.K) (rEqAll g.K)) oEqE := fun H A x y d e z Q hA rx ry ho q => by
  unfold oEqE at ho
  split at ho
  · rename_i h
    cases ho
    obtain ⟨a, b, xs, ys, e1, e2, h1, h2, h3⟩ := lenX_lst h rx ry
    exact .inl ⟨a, b, xs, ys, e1, e2, h1, h2, h3, q _ _ (out_flat fun _ _ => .bl _)⟩
  · exact .inr (o2_eq H A x y d e z Q hA rx ry ho q)
theorem o2_neE : Op2 .im g (r2or (rLenU true g.K) (rNeAll g.K)) oNeE := fun H A x y d e z Q hA rx ry ho q => by
  unfold oNeE at ho
  split at ho
  · rename_i h
    cases ho
    obtain ⟨a, b, xs, ys, e1, e2, h1, h2, h3⟩ := lenX_lst h rx ry
    exact .inl ⟨a, b, xs, ys, e1, e2, h1, h2, h3, q _ _ (out_flat fun _ _ => .bl _)⟩
  · exact .inr (o2_ne H A x y d e z Q hA rx ry ho q)
end
end PL

/-! PL37: dict displays that leave the heap. -/
namespace PL
open PySem PySem.Spec PyProof.Rows L2
section
variable {g : Gc} {H H' : Hp} {A B : Addr → Prop}
variable {X : Cx} {W : WX} {pos : Pos} {ks : List (Option Expr)} {vs : List Expr} {f : M (List (D × D))} {fk fv : M D} {m m1 m2 : Bool} {k v : Expr}
theorem je_dictM (h : JP X W m pos ks vs f) (hall : ks.all (·.isSome) = true := by rfl) (hl : ks.length = vs.length := by rfl) (h0 : ks ≠ [] := by simp) (h15 : ks.length ≤ 15 := by decide) : JE X W .fr m (.Dict ks vs pos) (dispE f) := by
  obtain ⟨trs, pp, w⟩ := h.ex
  refine (pe_disp pp hall hl h0 h15).weak fun σ H Q ⟨γ, τ, R, h⟩ p hp => ?_
  unfold dispE at h
  rw [fit_bind] at h
  have sm : Same H (upd H p (.dK [])) := fun b u e => by
    rw [upd_ne (ne_of_none e hp)]
    exact e
  have R0 : Rel X.g (γ.with p) τ σ (upd H p (.dK [])) := R.newS hp sm ⟨_, upd_same, fun _ z => nomatch z⟩
  have k0 : Kp (Own τ σ) H (Own τ σ) (upd H p (.dK [])) := PL.Same.kp sm fun _ z => z
  refine w σ _ _ ⟨γ.with p, τ, R0, h.mono (fun ps τ1 h vs H1 s1 R1 kp1 a b => ?_) fun n τ1 q H1 R1 kp1 c hc => q H1 R1.drop (k0.trans kp1) c hc⟩
  obtain ⟨z, ez, h⟩ := fit_lift.mp h
  unfold oDisp at ez
  split at ez
  · rename_i hz
    cases er : keysD ps with
    | none => rw [er] at ez; cases ez
    | some r =>
      rw [er] at ez
      cases ez
      obtain ⟨kvs, e, rk, hlen⟩ := keys_of a b er
      have nO : ¬ Own τ σ p := (R0.pal p (.inr rfl)).2
      have e1 : H1 p = some (.dK []) := (kp1 p _ upd_same nO).1
      refine ⟨e1, kvs, e, by rw [hlen]; exact hz, ?_⟩
      have R2 : Rel X.g (γ.with p) τ1 σ (upd H1 p (.dK (mergeK [] kvs))) := R1.updP (.inr rfl)
      have kA : Kp (Av (γ.with p) τ1 σ) H1 (Av (γ.with p) τ1 σ) (upd H1 p (.dK (mergeK [] kvs))) := fun b u e n => ⟨by rw [upd_ne (fun q => n (.inl (.inr q)))]; exact e, n⟩
      have rm := (RepK.merge rk (kvs := []) (ds := []) .nil).kp kA
      refine h (.ref p) _ (fun z b u e => by
        have hb : b ≠ p := ne_of_none e hp
        rw [upd_ne hb]
        exact s1 z b u (by rw [upd_ne hb]; exact e)) ⟨p, rfl, R2, fun q => ?_, fun b u e n => ?_, .dK upd_same rm.k rm.v⟩
      · obtain ⟨u, e⟩ := (R.pal p q).1.ex
        rw [hp] at e
        cases e
      · have hb : b ≠ p := ne_of_none e hp
        obtain ⟨q1, q2⟩ := kp1 b u (by rw [upd_ne hb]; exact e) n
        exact ⟨by rw [upd_ne hb]; exact q1, fun z => z.elim q2 hb⟩
  · cases ez
end
end PL

/-! PL38: what one owns is held as a fixed value from here on. -/
namespace PL
open PySem PySem.Spec PyProof.Rows L2
section
variable {X : Cx} {W : WX} {g : Gc} {γ : G} {τ τ' : PS0} {σ : L2.St} {H : Hp} {rk : Kd} {st : Stmt} {f : SM}
def frzO (i : Nat) (τ : PS0) : Option PS0 := match τ[i]? with
  | some (.ow d) => some (τ.set i (.im d))
  | _ => none
def frzS (i : Nat) (f : SM) : SM := fun τ => match f τ with
  | .nx τ' => (match frzO i τ' with
    | some τ2 => .nx τ2
    | none => .stuck)
  | r => r
theorem Rel.frz (R : Rel g γ τ σ H) {i : Nat} {d : D} (h : τ[i]? = some (.ow d)) : Rel g γ (τ.set i (.im d)) σ H ∧ Kp (Own τ σ) H (Own (τ.set i (.im d)) σ) H := by
  obtain ⟨a, ea, c⟩ := R.ow i d h
  have hl : i < σ.length := (List.getElem?_eq_some_iff.mp ea).1
  have e : σ.set i (some (.ref a)) = σ := by
    apply List.ext_getElem?
    intro j
    by_cases hj : j = i
    · subst hj
      rw [List.getElem?_set_self hl, ea]
    · rw [List.getElem?_set_ne (Ne.symm hj)]
  have oi : OwnAt τ σ i a := ⟨⟨_, h, rfl⟩, ea⟩
  have less : ∀ b, Av γ (τ.set i (.im d)) (σ.set i (some (.ref a))) b → Av γ τ σ b := fun b z => z.elim .inl fun z => .inr (own_set_sub rfl z)
  have na : ¬ Av γ (τ.set i (.im d)) (σ.set i (some (.ref a))) a := fun z => by
    rcases z with z | ⟨j, ⟨s, hs, ho⟩, hj⟩
    · exact (R.pal a z).2 ⟨i, oi⟩
    · by_cases q : j = i
      · subst q
        rw [List.getElem?_set_self (List.getElem?_eq_some_iff.mp h).1] at hs
        cases hs
        cases ho
      · rw [List.getElem?_set_ne (Ne.symm q)] at hs
        rw [List.getElem?_set_ne (Ne.symm q)] at hj
        exact q (R.inj j i a ⟨⟨s, hs, ho⟩, hj⟩ oi)
  have r : Rep g H (Av γ (τ.set i (.im d)) (σ.set i (some (.ref a)))) (.ref a) d := by
    cases c with
    | lst hH ra => exact .lst hH na (ra.kp (Kp.less less))
    | dK hH hk ra => exact .dK hH na hk (ra.kp (Kp.less less))
    | dT hH hk ra => exact .dT hH na hk (ra.kp (Kp.less less))
  have := R.setNo i (.im d) (some (.ref a)) rfl fun d' q => by
    cases q
    exact ⟨.ref a, rfl, r⟩
  rw [e] at this
  exact this
theorem js_frz (i : Nat) (h : JS X W rk st f) : JS X W rk st (frzS i f) := h.weak fun Dn σ H ⟨γ, τ, R, q⟩ => by
  refine ⟨γ, τ, R, ?_⟩
  unfold frzS at q
  cases ef : f τ with
  | stuck => rw [ef] at q; exact q.elim
  | exc n τ' => rw [ef] at q; exact q
  | ret d τ' => rw [ef] at q; exact q
  | nx τ' =>
    rw [ef] at q
    intro σ' H' R' k'
    unfold frzO at q
    cases e : τ'[i]? with
    | none => simp only [e] at q; exact q.elim
    | some s =>
      cases s with
      | ow d =>
        simp only [e] at q
        obtain ⟨R2, k2⟩ := R'.frz e
        exact q σ' H' R2 (k'.trans k2)
      | _ => simp only [e] at q; exact q.elim
end
end PL

/-! PL39: defs that are called whatever error is handled (within an except suite). -/
namespace PL
open PySem PySem.Spec PyProof.Rows L2
open L2H (RoomH)
/-- a promise, whatever is handled -/
structure FnA (P : Program) (w : World) (K : PySem.W.Frag) (mg : Str → Option Value) (base : Heap) (CX : CXT) (k : Nat) (f : Addr) (fd : FuncData) (ps : List Str) (sp : Sp) : Prop where
  len : ∀ vs H Q E, sp vs H Q E → vs.length = ps.length
  run : ∀ (A : Around) (outer : List Env) (s : Shared) (H : Hp) (args : Args) (us : List Value) (vs : List V) (Q : VK) (E : XK), RoomH k A → Env0 P w K mg base A outer s H → BindsTo s fd args (ps.zip us) → Vals vs us → sp vs H Q E →
    codeAny (model P w) A (.call (.ref f) args) (CR CX outer P w H s Q E) s
section
variable {P : Program} {w : World} {K : PySem.W.Frag} {mg : Str → Option Value} {base : Heap}
/-- the context of its body -/
def cxA (P : Program) (w : World) (K : PySem.W.Frag) (mg : Str → Option Value) (base : Heap) (N : List Str) (qual : Str) (scope : Scope) (f : Addr) (cd : Value) (A : Around) (outer : List Env) (s : Shared) (H : Hp) (E : XK) : Cx :=
  { cxOf (L2.CX P w) P w K mg base N qual scope f cd A outer s H E with calm := false }
theorem inv_startA {N ps : List Str} {qual : Str} {scope : Scope} {f : Addr} {cd : Value} {A : Around} {outer : List Env} {s s1 : Shared} {H : Hp} {E : XK} {us : List Value} {vs : List V}
    (S : FnScope N ps scope) (e0 : Env0 P w K mg base A outer s H) (hl : vs.length = ps.length) (r : Vals vs us)
    (x : InCallC s s.heap.objs.size (bindL (envOfC qual scope s.heap.objs.size f cd).kindOf (ps.zip us) fun _ => none) (cellsFrom (s.heap.objs.size + 1) scope.names []) (bindC (envOfC qual scope s.heap.objs.size f cd).kindOf (ps.zip us) fun _ => none) s1) :
    Inv (cxA P w K mg base N qual scope f cd A outer s H E) [] (start N vs) H s1 := by
  have e1 : Env0 P w K mg base { A with handled := none } outer s H := ⟨e0.frames, e0.mod, e0.bs, e0.bsz, e0.funs, e0.frf, e0.hok, e0.bare⟩
  have J := inv_start (CX := L2.CX P w) (E := E) S (A := { A with handled := none }) rfl e1 hl r x
  exact { ok := ⟨J.ok.mod, J.ok.kind, J.ok.glob, J.ok.blt, J.ok.above, J.ok.inj, J.ok.has, J.ok.cab, fun z => Bool.noConfusion (show false = true from z), Around.frames_deeper e0.frames, J.ok.stk, J.ok.exf, J.ok.bs, J.ok.bsz, J.ok.noex, J.ok.exfs, J.ok.funs, J.ok.frf⟩,
          os := J.os, bare := J.bare, base := J.base, loc := J.loc, cell := J.cell, free := J.free, freeC := J.freeC, pin := J.pin, hok := J.hok, len := J.len }
theorem fnA_of {x qual : Str} {st : Stmt} {f : Addr} {fd : FuncData} {N ps : List Str} {k : Nat} {sp : Sp} (F : Fun K x qual st f fd) (S : FnScope N ps (defScope st)) (len : ∀ vs H Q E, sp vs H Q E → vs.length = ps.length)
    (hbody : ∀ (cdv : Value) (A : Around) (outer : List Env) (s : Shared) (H : Hp) (vs : List V) (Q : VK) (E : XK), RoomH k (A.deeper (envOfC qual (defScope st) s.heap.objs.size f cdv)) → sp vs H Q E →
      ∃ t, PSs (cxA P w K mg base N qual (defScope st) f cdv A outer s H E) (defBody st) t ∧ t { nx := fun _ H' => Q .non H', rt := Q } (start N vs) H) : FnA P w K mg base (L2.CX P w) (k + 1) f fd ps sp := by
  obtain ⟨oc, od, kV, doc, pm, an, cdv, ct, osl, rfl, lk, hcd⟩ := F.ex
  refine ⟨len, fun A outer s H args us vs Q E hr e0 hb r hsp => ?_⟩
  have hl := len _ _ _ _ hsp
  have KX : K.In s.heap := e0.mod.kin.keeps fun b o e => (e0.bs b o e).1
  have lim : s.heap.NoLimit := e0.mod.nolimit.keeps fun b o e => (e0.bs b o e).1
  refine codeAny_call_function hr.depth (KX _ _ lk) rfl S.co S.gen rfl (PySem.W.codeRec_of KX hcd) (hb _ _ _ _ ?_)
  refine wpAny_newFunctionEnv_cells S.kind (fun ⟨n, v⟩ hy => ?_) fun env he s1 x => ?_
  · rcases S.par n (List.of_mem_zip hy).1 with q | q
    · exact .inl q
    · exact .inr ⟨q, PySem.W.cellsFrom_some _ _ _ (.inl q)⟩
  · subst he
    refine ⟨lim.keeps x.toInCall.keep, codeAny_func ?_⟩
    obtain ⟨t, ht, hq⟩ := hbody cdv A outer s H vs Q E (hr.deeper _) hsp
    have I := inv_startA (E := E) S e0 hl r x
    refine wpAny_mono (ht.run [] s1 (start N vs) H _ I hq) (fun fl s' hs => ?_) fun e s' hs => hs
    cases fl with
    | ret u =>
      obtain ⟨v, σ', H', J, rv, q⟩ := hs
      exact ⟨v, H', J.os, J.bare, J.base, J.hok, rv, q⟩
    | next =>
      obtain ⟨σ', H', J, q⟩ := hs
      exact ⟨.non, H', J.os, J.bare, J.base, J.hok, rfl, q⟩
    | brk => obtain ⟨_, _, _, q⟩ := hs; exact False.elim q
    | cont => obtain ⟨_, _, _, q⟩ := hs; exact False.elim q
structure KnA (P : Program) (w : World) (K : PySem.W.Frag) (mg : Str → Option Value) (base : Heap) (x : Str) (ps : List Str) (f : Addr) (fd : FuncData) (k : Nat) (sp : Sp) : Prop where
  g : mg x = some (.ref f)
  kp : PySem.W.keepIn K (.ref f) = true
  b : Binds K fd ps []
  ok : FnA P w K mg base (L2.CX P w) k f fd ps sp
end
section
variable {X : Cx} {CX : CXT} {k : Nat} {f : Addr} {fd : FuncData} {ps : List Str} {sp : Sp} {E : L2.St → XK} {x : Str} {p pos : Pos} {e : Expr} {es : List Expr} {t : TA}
theorem run_fnA {pins : List (Addr × Obj)} {σ : L2.St} {H : Hp} {s : Shared} {Q : VK} {us : List Value} {vs : List V} (F : FnA X.prog X.w X.K X.mg X.base CX k f fd ps sp) (hr : RoomH k X.A) (hb : Binds X.K fd ps []) (hx : PassesAt CX X σ (E σ))
    (I : Inv X pins σ H s) (r : Vals vs us) (h : sp vs H Q (E σ)) : wpAny (model X.prog X.w) X.A (call (.ref f) us) (EP X pins σ Q) X.xe s := by
  have b := hb s us I.kIn (by rw [List.append_nil, ← L2.Vals.length r]; exact F.len _ _ _ _ h)
  rw [List.append_nil] at b
  refine wpAny_call (codeAny_mono (F.run X.A X.stack s H ⟨us, []⟩ us vs Q (E σ) hr I.env0 b r h) fun r s' hq => ?_)
  match r, hq with
  | .error e, hq => exact hx pins H s e s' I hq
  | .ok (.ret u), hq => exact I.after hq
theorem pe_callA (F : FnA X.prog X.w X.K X.mg X.base CX k f fd ps sp) (hr : RoomH k X.A) (hg : Gl X x) (hm : X.mg x = some (.ref f)) (hk : PySem.W.keepIn X.K (.ref f) = true) (hb : Binds X.K fd ps []) (hx : ∀ σ, PassesAt CX X σ (E σ))
    (ha : PA X (e :: es) t) (hdb : (x == ("__debug__" : Str)) = false := by decide) (he : starEach (e :: es) X.env = (false, eval e X.env) :: starEach es X.env := by rfl) (hpl : (backTo pos (starEach es X.env)).any (·.1) = false := by rfl) :
    PE X (.Call (.Name x p) (e :: es) [] pos) (tCallS sp E t) :=
  ⟨fun pins s σ H Q I h => wpAny_Call_Name_kw (ld_glob I hg hm (PySem.W.callWith_K (h₀ := X.base) I.ok.mod.kin hk (thn (ha.run pos pins s σ H _ I h) fun us s1 ⟨vs, H1, I1, r, q⟩ => ⟨I1.kIn, run_fnA F hr hb (hx σ) I1 r q⟩) he hpl) hdb)⟩
end
section
variable {X : Cx} {W : WX} {g : Gc} {kr : Kd} {m : Bool} {e : Expr} {es : List Expr} {fs : M (List D)} {pos : Pos}
theorem je_callA {n : Nat} {mf : List D → DR} {kk : Nat} {fa : Addr} {fd : FuncData} {ps : List Str} {x : Str} {p : Pos} (hn : LenOk fs n) (F : FnA X.prog X.w X.K X.mg X.base (L2.CX X.prog X.w) kk fa fd ps (spF X.g n kr mf)) (hr : RoomH kk X.A) (hm : X.mg x = some (.ref fa)) (hk : PySem.W.keepIn X.K (.ref fa) = true)
    (hb : Binds X.K fd ps []) (tk : Takes X W) (ha : JA X W m (e :: es) fs) (hg : Gl X x := by rfl) (hkr : kr ≠ .ln := by decide) (hdb : (x == ("__debug__" : Str)) = false := by decide) (he : starEach (e :: es) X.env = (false, eval e X.env) :: starEach es X.env := by rfl)
    (hpl : (backTo pos (starEach es X.env)).any (·.1) = false := by rfl) : JE X W kr m (.Call (.Name x p) (e :: es) [] pos) (callF mf fs) :=
  (pe_callA F hr hg hm hk hb (fun σ => passAt tk σ) ha hdb he hpl).weak fun σ H Q ⟨γ, τ, R, h⟩ => by
    unfold callF at h
    rw [fit_bind] at h
    refine ⟨γ, τ, R, ?_⟩
    cases ef : fs τ with
    | stuck => rw [ef] at h; exact h.elim
    | exc nm τ1 => rw [ef] at h; exact h
    | ok ds τ1 =>
      rw [ef] at h
      exact fun vs H1 s1 R1 kp1 rs => spF_post (hn _ _ _ ef) hkr R1 kp1 s1 rs h
theorem roomS {k : Nat} {a : Addr} {pn : List (Addr × Obj)} (r : Room k X.A) : RoomH k (X.suite a pn).A := ⟨r.dp, r.un⟩
theorem u65H {A : Around} {k : Nat} (r : RoomH k A) : A.units + 65 < cLine := by have := r.un; omega
theorem u1H {A : Around} {k : Nat} (r : RoomH k A) : A.units + 1 < cLine := by have := r.un; omega
theorem unitsH {A : Around} {k : Nat} (r : RoomH k A) : A.units + 64 < cLine := by have := r.un; omega
end
section
variable {P : Program} {w : World} {K : PySem.W.Frag} {mg : Str → Option Value} {base : Heap}
theorem fn_FA {x qual : Str} {st : Stmt} {f : Addr} {fd : FuncData} {N ps : List Str} {k : Nat} {rk : Kd} {body : SM} (F : Fun K x qual st f fd) (S : FnScope N ps (defScope st)) (hrk : rk ≠ .ln)
    (hb : ∀ (cdv : Value) (A : Around) (outer : List Env) (s : Shared) (H : Hp) (E : XK), RoomH k (A.deeper (envOfC qual (defScope st) s.heap.objs.size f cdv)) → JB (cxA P w K mg base N qual (defScope st) f cdv A outer s H E) (fun c d _ H => E c d H) rk (defBody st) body) :
    FnA P w K mg base (L2.CX P w) (k + 1) f fd ps (spF ⟨K, mg⟩ ps.length rk (runF N.length rk body)) := by
  refine fnA_of F S (fun vs H Q E h => h.1) (fun cdv A outer s H vs Q E hr h => ⟨_, hb cdv A outer s H E hr, ?_⟩)
  obtain ⟨hl, A, ds, hA, rs, h⟩ := h
  have R := start_im (γ := ⟨A, 0⟩) (N.length - vs.length) rs hA
  refine ⟨⟨A, 0⟩, _, R, ?_⟩
  have nO : ∀ a, ¬ Own (ds.map Slot.im ++ List.replicate (N.length - vs.length) .no) (start N vs) a := fun a ⟨i, ⟨s, hs, ho⟩, _⟩ => by
    have hm := List.mem_of_getElem? hs
    rcases List.mem_append.mp hm with q | q
    · obtain ⟨d, _, e⟩ := List.mem_map.mp q
      subst e; cases ho
    · rw [List.eq_of_mem_replicate q] at ho; cases ho
  have e0 : N.length - vs.length = N.length - ds.length := by rw [rs.length]
  unfold runF at h
  rw [← e0] at h
  have same : ∀ {τ' : PS0} {σ' : L2.St} {H' : Hp}, Kp (Own (ds.map Slot.im ++ List.replicate (N.length - vs.length) .no) (start N vs)) H (Own τ' σ') H' → Same H H' := fun k a o e => (k a o e (nO a)).1
  cases eb : body (ds.map .im ++ List.replicate (N.length - vs.length) .no) with
  | stuck => rw [eb] at h; exact h.elim
  | nx τ' =>
    rw [eb] at h
    intro σ' H' R' k'
    cases rk with
    | im => exact h .non H' ⟨same k', .non⟩
    | ln => exact h.elim
    | fr => exact h.elim
  | exc n τ' =>
    rw [eb] at h
    exact fun σ' H' R' k' c hc => h H' (same k') c hc
  | ret d τ' =>
    rw [eb] at h
    intro σ' v H' P'
    refine h v H' ?_
    cases rk with
    | ln => exact absurd rfl hrk
    | im => exact ⟨same P'.2.1, P'.2.2.kp (Kp.less fun a z => .inl z)⟩
    | fr =>
      obtain ⟨p, rfl, R', np, k', c⟩ := P'
      refine ⟨fun a o e => (k' a o e (nO a)).1, p, rfl, ?_, c.mono (Kp.less fun a z => z.elim (fun y => .inl (.inl y)) fun y => .inl (.inr y)) rfl⟩
      cases e : H p with
      | none => rfl
      | some o => exact absurd (.inr rfl) (k' p o e (nO p)).2
end
end PL

/-! PL40: a dict is no list. -/
namespace PL
open PySem PySem.Spec PyProof.Rows L2
open PySem.SeqAt PySem.AutoSeq1
theorem dict_ne_not_list (l b : Addr) (es : Array DictEntry) (ep : Nat) (items : Array Value) (n : Nat) (dd dd2 : Option Addr) (sl sl2 : Array (Option Value)) :
    Meets (Builtin.«dict.__ne__» ⟨[.ref l, .ref b], []⟩) (fun _ R s => s.heap.get? l = some { cls := .type "dict", dict := dd, data := .dict es ep, slots := sl } ∧ s.heap.get? b = some { cls := .type "list", dict := dd2, data := .seq items n, slots := sl2 } ∧ R (.ok (.ret .notImplemented)) s) :=
  .of_wp fun prog w A R s h => by
    obtain ⟨hp, g, d, tk, os⟩ := s
    obtain ⟨hl, hb, h⟩ := h
    have f1 := F.sub_list_dict
    wp_walk using wpAny_loadPart' hl, wpAny_loadPart' hb
    exact ⟨_, rfl, h⟩
theorem list_ne_not_dict (l b : Addr) (es : Array DictEntry) (ep : Nat) (items : Array Value) (n : Nat) (dd dd2 : Option Addr) (sl sl2 : Array (Option Value)) :
    Meets (Builtin.«list.__ne__» ⟨[.ref b, .ref l], []⟩) (fun _ R s => s.heap.get? l = some { cls := .type "dict", dict := dd, data := .dict es ep, slots := sl } ∧ s.heap.get? b = some { cls := .type "list", dict := dd2, data := .seq items n, slots := sl2 } ∧ R (.ok (.ret .notImplemented)) s) :=
  .of_wp fun prog w A R s h => by
    obtain ⟨hp, g, d, tk, os⟩ := s
    obtain ⟨hl, hb, h⟩ := h
    have f1 := F.sub_dict_list
    wp_walk using wpAny_loadPart' hl, wpAny_loadPart' hb
    exact ⟨_, rfl, h⟩
theorem rc_ne_dict_list {A : Around} {s : Shared} {l b : Addr} {es : Array DictEntry} {ep : Nat} {items : Array Value} {o : Obj} (ho : s.heap.get? l = some o) (hc : o.cls = .type "dict") (hd : o.data = .dict es ep) (hb : s.heap.IsList b items) (hu : A.units < cLine) :
    RcNeAt A s (.ref l) (.ref b) true := fun prog w E Q h => by
  obtain ⟨cls, dd, data, sl⟩ := o
  obtain ⟨⟨cls2, dd2, data2, sl2⟩, ho2, hc2, n2, hd2⟩ := id hb
  simp only at hc hd hc2 hd2
  subst hc hd hc2 hd2
  have hne : l ≠ b := fun e => by subst e; rw [ho] at ho2; have z := congrArg Obj.cls (Option.some.inj ho2); simp at z
  exact (rc_ne_decline_or (k := false) ⟨_, ho, rfl⟩ ⟨_, ho2, rfl⟩ (by decide) F.sub_list_dict F.slot_dict_ne F.slot_list_ne_refl
    (fun _ hq => call_meets F.slot_dict_ne ⟨_, ho, rfl⟩ F.entry_dict_ne (F.args_dict_ne_2 _ _) (dict_ne_not_list l b es ep items n2 dd dd2 sl sl2) ⟨ho, ho2, hq⟩)
    (fun _ hq => call_meets F.slot_list_ne_refl ⟨_, ho2, rfl⟩ F.entry_list_ne (F.args_list_ne_2 _ _) (list_ne_not_dict l b es ep items n2 dd dd2 sl sl2) ⟨ho, ho2, hq⟩)
    (fun _ hq => wpAny_isSame_ref_other hne ho ho2 (by simp) hq) (.inr hu) h)
section
variable {X : Cx} {g : Gc}
def rDictList (K : PySem.W.Frag) : R2 := fun x y H Q => ∃ a b kvs ys, x = .ref a ∧ y = .ref b ∧ H a = some (.dK kvs) ∧ SqL K H b ys ∧ Q (.bl true) H
theorem op_neDL (hu : X.A.units < cLine) : OpR X (compareOp .NotEq) (rDictList X.K) := by
  intro pins s σ H x y v u Q I rx ry h
  obtain ⟨a, b, kvs, ys, rfl, rfl, ha, hb, q⟩ := h
  cases rx
  cases ry
  obtain ⟨its2, r2, p2, _⟩ := I.list hb
  obtain ⟨_, _, vs, _, o, es, ep, e, x, d, _⟩ := (show ObjOk X.prog X.w H s.heap a (.dK kvs) from I.hok a _ ha)
  exact rc_ne_dict_list e x.1 d p2.isList hu _ _ _ _ ⟨.bl true, H, I, rfl, q⟩
def kindX : D → D → Bool
  | .dK _, .lst _ => true
  | _, _ => false
def oNeX : D → D → Option D := fun d e => if kindX d e = true then some (.bl true) else oNe d e
theorem op_neX (hu : X.A.units + 64 < cLine) : OpR X (compareOp .NotEq) (r2or (rDictList X.K) (rNeAll X.K)) := OpR.or' (op_neDL (by omega)) (op_neAll hu)
theorem o2_neX : Op2 .im g (r2or (rDictList g.K) (rNeAll g.K)) oNeX := fun H A x y d e z Q hA rx ry ho q => by
  unfold oNeX at ho
  split at ho
  · rename_i h
    cases ho
    unfold kindX at h
    split at h
    · obtain ⟨a, ks, rfl, ha, ka, ra⟩ := rx.dK
      obtain ⟨b, ws, rfl, hb, rb⟩ := ry.lst
      exact .inl ⟨a, b, ks, ws, rfl, rfl, ha, .inl (.inl hb), q _ _ (out_flat fun _ _ => .bl _)⟩
    · cases h
  · exact .inr (o2_ne H A x y d e z Q hA rx ry ho q)
end
end PL

/-! PL41: str of an error made with a text. -/
namespace PL
open PySem PySem.Spec PyProof.Rows L2
theorem u2 {X : Cx} {k : Nat} (r : Room k X.A) : X.A.units + 2 < cLine := by have := u65 r; omega
section
variable {X : Cx} {W : WX} {m : Bool} {x : Str} {a : Expr} {te : TE} {C : Addr} {p0 p1 p2 p3 : Pos} {k : Kd} {fa : M D}
def tStrX (te : TE) : TE := fun σ H Q => te σ H fun v H1 => ∃ y, [v] = [V.str y] ∧ Q (.str y) H1
theorem pe_strX (c : Xc X.K X.mg x C) (hs : PySem.W.findIn X.K (.ref C) "__str__" = some (some (.builtin "BaseException.__str__"))) (hu : X.A.units + 2 < cLine) (hm0 : X.mg "str" = none) (ha : PE X a te) (hg0 : Gl X "str" := by rfl) (hg : Gl X x := by rfl)
    (hdb : (x == ("__debug__" : Str)) = false := by decide) (he0 : starEach [.Call (.Name x p1) [a] [] p2] X.env = (false, eval (.Call (.Name x p1) [a] [] p2) X.env) :: starEach [] X.env := by rfl) (he : starEach [a] X.env = (false, eval a X.env) :: starEach [] X.env := by rfl) :
    PE X (.Call (.Name "str" p0) [.Call (.Name x p1) [a] [] p2] [] p3) (tStrX te) := by
  refine ⟨fun pins s σ H Q I h => ?_⟩
  refine wpAny_Call_Name_kw (ld_blt I hg0 hm0 (u := .type "str") (by decide +kernel) ?_ (by decide) (by decide))
  refine PyProof.Rows.callWith_type1 ?_ he0 rfl
  rw [he0]
  show wpAny _ _ (spliced ((false, eval (.Call (.Name x p1) [a] [] p2) X.env) :: backTo p3 (starEach [] X.env))) _ _ s
  refine Calls.spliced_cons (wpAny_Call_Name_kw (ld_glob I hg c.g ?_ hdb))
  have ha' : PA X [a] (tCons te tNil) := pa_cons ha pa_nil he
  refine PySem.W.callWith_K (h₀ := X.base) I.ok.mod.kin c.k (thn (ha'.run p2 pins s σ H (fun vs H1 => ∃ y, vs = [V.str y] ∧ Q (.str y) H1) I ?_) fun us s1 hh => ?_) he rfl
  · exact h
  · obtain ⟨vs, H1, I1, r1, y, ev, q⟩ := hh
    subst ev
    refine ⟨I1.kIn, ?_⟩
    cases r1 with
    | cons ru rn =>
      rename_i u us'
      cases rn
      obtain ⟨tk, eu⟩ := ru
      subst eu
      show wpAny _ _ (call (.ref C) [.str y tk]) _ _ _
      obtain ⟨bm, N, nm, qn, bs, hdct, sn, sub, ab, col, dd, k0, k1, k2, k3, k5, mN, hC, hN, hni, T⟩ := exc_obj I1.kIn c.q
      refine wpAny_call_exc_subT PySem.F.excBase_ValueError T hC hN hni (fun h' e hm => ?_) (by show 1 ≤ sizeLine; rw [sizeLine_eq]; omega)
      obtain ⟨t, he1, ht0, ht1⟩ := hm.there
      refine Calls.spliced_nil ?_
      have I2 : Inv X pins σ H1 { s1 with heap := h' } := I1.kept (t' := s1.toks) hm.keeps
      refine PySem.P.str_of_C_one (s := { s1 with heap := h' }) (K := X.K) (C := C) (e := e) (t0 := t) hu ⟨I2.kIn, _, _, he1, rfl, rfl, rfl⟩ ⟨_, _, ht1, rfl, rfl⟩ hs c.h1 ?_
      exact ⟨.str y, H1, I2, ⟨tk, rfl⟩, q⟩
/-- the text that it was made with -/
def strX (fa : M D) : M D := andThen fa fun d => lift (match d with | .str s => some (.str s) | _ => none)
theorem je_strX (c : Xc X.K X.mg x C) (hs : PySem.W.findIn X.K (.ref C) "__str__" = some (some (.builtin "BaseException.__str__"))) (hu : X.A.units + 2 < cLine) (hm0 : X.mg "str" = none) (ha : JE X W k m a fa) (hg0 : Gl X "str" := by rfl) (hg : Gl X x := by rfl)
    (hdb : (x == ("__debug__" : Str)) = false := by decide) (he0 : starEach [.Call (.Name x p1) [a] [] p2] X.env = (false, eval (.Call (.Name x p1) [a] [] p2) X.env) :: starEach [] X.env := by rfl) (he : starEach [a] X.env = (false, eval a X.env) :: starEach [] X.env := by rfl) :
    JE X W .im m (.Call (.Name "str" p0) [.Call (.Name x p1) [a] [] p2] [] p3) (strX fa) :=
  (pe_strX c hs hu hm0 ha hg0 hg hdb he0 he).weak fun σ H Q ⟨γ, τ, R, h⟩ => by
    unfold strX at h
    rw [fit_bind] at h
    refine ⟨γ, τ, R, h.mono (fun d τ1 h v H1 s1 P1 => ?_) fun _ _ q => q⟩
    obtain ⟨z, ez, h⟩ := fit_lift.mp h
    obtain ⟨R1, kp1, v1⟩ := P1.val
    split at ez
    · cases ez
      rw [v1.l.str]
      exact ⟨_, rfl, h _ H1 s1 ⟨R1, kp1, .str _⟩⟩
    · cases ez
end
end PL

/-! PL42: len(set(xs)), xs unlike tuples of whole numbers. -/
namespace PL
open PySem PySem.Spec PyProof.Rows L2
theorem nd_len {α : Type} [DecidableEq α] : ∀ {A B : List α}, A.Nodup → (∀ x, x ∈ A → x ∈ B) → A.length ≤ B.length
  | [], _, _, _ => Nat.zero_le _
  | a :: A, B, h, s => by
    have ha := s a List.mem_cons_self
    obtain ⟨h1, h2⟩ := List.nodup_cons.mp h
    have := nd_len (A := A) (B := B.erase a) h2 fun x hx => by
      have hne : x ≠ a := fun e => h1 (e ▸ hx)
      exact (List.mem_erase_of_ne hne).mpr (s x (List.mem_cons_of_mem _ hx))
    rw [List.length_erase_of_mem ha] at this
    have := List.length_pos_of_mem ha
    rw [List.length_cons]
    omega
def intsOf : List D → Option (List Int)
  | [] => some []
  | .int i :: xs => (intsOf xs).map (i :: ·)
  | _ => none
def tupsOf : List D → Option (List (List Int))
  | [] => some []
  | .tup xs :: ys => (intsOf xs).bind fun k => (tupsOf ys).map (k :: ·)
  | _ => none
def oLenSet : D → Option D
  | .lst xs => (tupsOf xs).bind fun ks => if ks.Nodup ∧ ks.length < 64 then some (.int ks.length) else none
  | _ => none
section
variable {X : Cx} {W : WX} {g : Gc} {H : Hp} {A : Addr → Prop} {m : Bool} {k : Kd} {a : Expr} {fa : M D} {p p2 q pos : Pos} {te : TE}
theorem ints_rep : ∀ {xs : List D} {vs : List V} {ks : List Int}, RepA g H A vs xs → intsOf xs = some ks → vs = ks.map V.int
  | [], _, _, .nil, e => by cases e; rfl
  | x :: xs, _, ks, .cons r t, e => by
    cases x with
    | int i =>
      unfold intsOf at e
      cases h : intsOf xs with
      | none => rw [h] at e; cases e
      | some js =>
        rw [h] at e
        cases e
        rw [ints_rep t h, LRep.int (.inl r)]
        rfl
    | _ => unfold intsOf at e; cases e
theorem tups_rep : ∀ {xs : List D} {vs : List V} {ks : List (List Int)}, RepA g H A vs xs → tupsOf xs = some ks → ∃ L : List (Addr × List Int), vs = L.map (fun p => V.ref p.1) ∧ L.map (·.2) = ks ∧ ∀ p ∈ L, SqT g.K H p.1 (p.2.map V.int)
  | [], _, _, .nil, e => by cases e; exact ⟨[], rfl, rfl, fun _ z => nomatch z⟩
  | x :: xs, _, ks, .cons r t, e => by
    cases x with
    | tup ys =>
      unfold tupsOf at e
      cases h1 : intsOf ys with
      | none => rw [h1] at e; cases e
      | some js =>
        cases h2 : tupsOf xs with
        | none => rw [h1, h2] at e; cases e
        | some ls =>
          rw [h1, h2] at e
          cases e
          obtain ⟨L, rfl, rfl, hL⟩ := tups_rep t h2
          obtain ⟨b, us, rfl, hb, rb⟩ := LRep.tup (.inl r)
          have := ints_rep rb h1
          subst this
          refine ⟨(b, js) :: L, rfl, rfl, fun p hp => ?_⟩
          rcases List.mem_cons.mp hp with rfl | hp
          · exact hb.sq
          · exact hL p hp
    | _ => unfold tupsOf at e; cases e
def tLenSetT (K : PySem.W.Frag) (te : TE) : TE := fun σ H Q => te σ H fun x H1 => ∃ (l : Addr) (L : List (Addr × List Int)), x = V.ref l ∧ SqL K H1 l (L.map fun p => V.ref p.1) ∧ (∀ p ∈ L, SqT K H1 p.1 (p.2.map V.int)) ∧ L.length < 64 ∧ (L.map (·.2)).Nodup ∧ Q (.int L.length) H1
theorem pe_lenSetT (hc : X.calm = true) (hu : X.A.units + 64 < cLine) (hm : X.mg "len" = none) (hm2 : X.mg "set" = none) (ha : PE X a te) (hg : Gl X "len" := by rfl) (hg2 : Gl X "set" := by rfl)
    (na : starEach [a] X.env = (false, eval a X.env) :: starEach [] X.env := by rfl) : PE X (.Call (.Name "len" p) [.Call (.Name "set" p2) [a] [] q] [] pos) (tLenSetT X.K te) := by
  refine ⟨fun pins s σ H Q I h => ?_⟩
  refine wpAny_Call_Name_kw (ld_blt I hg hm PySem.boot_len ?_ (by decide) (by decide))
  refine PyProof.Rows.callWith_builtin1 (PyProof.Rows.args_cons ?_ rfl) rfl rfl
  refine wpAny_Call_Name_kw (ld_blt I hg2 hm2 PyProof.Rows.boot_set ?_ (by decide) (by decide))
  refine PyProof.Rows.callWith_type1 (PyProof.Rows.args_cons (thn (ha.run pins s σ H _ I h) fun v s1 ⟨x, H1, I1, r1, q1⟩ => PyProof.Rows.args_nil ?_) na) na rfl
  obtain ⟨l, L, rfl, hl, hk, hf, hn, q⟩ := q1
  cases r1
  obtain ⟨its, rv, pl, hz⟩ := I1.list hl
  refine call_set_tups (P := X.prog) (w := X.w) L (I1.ok.hd hc) pl.isList (by simpa using refs_of_vals rv) (fun p hp => I1.isT (hk p hp)) hf (by omega) fun h' tk M es ep t R g k => ?_
  refine PyProof.Rows.args_nil ?_
  have I2 : Inv X pins σ H1 { s1 with heap := h', toks := tk } := I1.kept (t' := tk) k
  have e : M.length = L.length := by
    have h1 := nd_len R.nd (B := L.map (·.2)) fun x hx => by
      obtain ⟨p, hp, rfl⟩ := List.mem_map.mp hx
      exact List.mem_map_of_mem (List.mem_of_mem_take (g.sub p hp))
    have h2 := nd_len hn (B := M.map (·.2)) fun x hx => by
      obtain ⟨p, hp, rfl⟩ := List.mem_map.mp hx
      exact g.all p (by rw [List.take_length]; exact hp)
    rw [List.length_map, List.length_map] at h1 h2
    omega
  obtain ⟨o, ho, hex, hd⟩ := R.ob
  have hs : es.size = L.length := by
    rw [← e]
    have h := congrArg List.length R.rows
    unfold rowsOf at h
    rw [Array.length_toList, List.length_map] at h
    exact h
  refine PySem.call_len_set (s := { s1 with heap := h', toks := tk }) ho hex hd (SetTR.fits (s := { s1 with heap := h', toks := tk }) R) (by rw [hs]; omega) ⟨.int L.length, H1, I2.tok _, ⟨_, by rw [hs]⟩, q⟩
theorem je_lenSetT (hc : X.calm = true) (hu : X.A.units + 64 < cLine) (hm : X.mg "len" = none) (hm2 : X.mg "set" = none) (ha : JE X W k m a fa) (hg : Gl X "len" := by rfl) (hg2 : Gl X "set" := by rfl)
    (na : starEach [a] X.env = (false, eval a X.env) :: starEach [] X.env := by rfl) : JE X W .im m (.Call (.Name "len" p) [.Call (.Name "set" p2) [a] [] q] [] pos) (op1 oLenSet fa) :=
  (pe_lenSetT hc hu hm hm2 ha hg hg2 na).weak fun σ H Q ⟨γ, τ, R, h⟩ => by
    unfold op1 at h
    rw [fit_bind] at h
    refine ⟨γ, τ, R, h.mono (fun d τ1 h v H1 s1 P1 => ?_) fun _ _ q => q⟩
    obtain ⟨z, ez, h⟩ := fit_lift.mp h
    obtain ⟨R1, kp1, v1⟩ := P1.val
    unfold oLenSet at ez
    split at ez
    · rename_i xs
      obtain ⟨l, vs, rfl, hl, rl⟩ := v1.l.lst
      cases e1 : tupsOf xs with
      | none => rw [e1] at ez; cases ez
      | some ks =>
        rw [e1] at ez
        obtain ⟨L, rfl, hL, hT⟩ := tups_rep rl e1
        have ez : (if ks.Nodup ∧ ks.length < 64 then some (D.int ks.length) else none) = some z := ez
        split at ez
        · rename_i hk
          cases ez
          have e2 : L.length = ks.length := by rw [← hL, List.length_map]
          refine ⟨l, L, rfl, .inl (.inl hl), hT, by omega, by rw [hL]; exact hk.1, ?_⟩
          rw [e2]
          exact h _ H1 s1 ⟨R1, kp1, .int _⟩
        · cases ez
    · cases ez
end
end PL

/-! PL43: range with a step upwards. -/
namespace PL
open PySem PySem.Spec PyProof.Rows L2
def stepD (lo c : Int) (n : Nat) : List D := (List.range n).map fun (i : Nat) => D.int (lo + (i : Nat) * c)
def oRange3 : List D → Option (List D)
  | [.int i, .int j, .int c] => if c ≠ 0 ∧ c.natAbs < 1073741824 ∧ Builtin.Range.small i j c = true ∧ 0 ≤ Builtin.Range.rangeSize i j c then some (stepD i c (Builtin.Range.rangeSize i j c).toNat) else none
  | _ => none
def rng3A (fs : M (List D)) : M (List D) := andThen fs fun ds => lift (oRange3 ds)
section
variable {X : Cx} {W : WX} {g : Gc} {m : Bool} {a b c tg : Expr} {fs : M (List D)} {pos p : Pos}
theorem good_step {lo c : Int} {n : Nat} : ItGood g (Itc lo c n) (fun _ _ => True) (stepD lo c n) := fun i H A _ hA => by
  unfold stepD
  refine ⟨fun d hd => ?_, fun hl => by show n ≤ i; simpa using hl⟩
  rw [List.getElem?_map] at hd
  cases e : (List.range n)[i]? with
  | none => rw [e] at hd; cases hd
  | some j =>
    rw [e] at hd
    cases hd
    obtain ⟨hi, ej⟩ := List.getElem?_eq_some_iff.mp e
    rw [List.getElem_range] at ej
    subst ej
    rw [List.length_range] at hi
    refine ⟨hi, fun x H' y => ?_⟩
    obtain ⟨eh, ex⟩ := y
    subst eh ex
    exact ⟨Same.refl _, .int _⟩
theorem ji_range3 (hg : Gl X "range") (hm : X.mg "range" = none) (ha : JA X W m [a, b, c] fs) (hs : starEach [a, b, c] X.env = (false, eval a X.env) :: starEach [b, c] X.env := by rfl) (hpl : (backTo pos (starEach [b, c] X.env)).any (·.1) = false := by rfl) :
    JI X W m tg (.Call (.Name "range" p) [a, b, c] [] pos) (rng3A fs) :=
  PI.weak (pi_range3 hg hm ha hs hpl) fun σ H R ⟨γ, τ, Re, h⟩ => by
    unfold rng3A at h
    rw [fit_bind] at h
    refine ⟨γ, τ, Re, h.mono (fun ds τ1 h vs H1 s1 R1 kp1 ra => ?_) fun _ _ q => q⟩
    obtain ⟨es, ed, h⟩ := fit_lift.mp h
    unfold oRange3 at ed
    split at ed
    · split at ed
      · rename_i i j k hz
        cases ed
        obtain ⟨h1, h2, h3, h4⟩ := hz
        cases ra with
        | cons r1 ra =>
          cases ra with
          | cons r2 ra =>
            cases ra with
            | cons r3 ra =>
              cases ra
              rw [LRep.int (.inl r1), LRep.int (.inl r2), LRep.int (.inl r3)]
              exact ⟨i, j, k, _, rfl, ⟨h1, h2, h3, (Int.toNat_of_nonneg h4).symm⟩, h _ H1 _ s1 R1 kp1 trivial (fun _ _ _ _ _ _ => trivial) good_step⟩
      · cases ed
    · cases ed
end
end PL

/-! PL44: lists of the same things, dicts among them, compared by !=. -/
namespace PL
open PySem PySem.Spec PyProof.Rows L2
open PySem.SeqAt PySem.AutoSeq1 PySem.MeetsSeq PySem.MeetsSeq2 PySem.MeetsSeq3
section
variable {prog : Program} {w : World}
theorem ne_walk (p q : Addr) (us vs : Array Value) (ku kv : Nat) (du dv : Option Addr) (su sv : Array (Option Value)) (same : us.size = vs.size) (left : Nat) :
    ∀ at' : Nat, us.size - at' = left → MeetsIn prog w (Builtin.«list.__eq__.loop» ⟨[.ref p, .ref q, rawInt at', rawInt 3], []⟩)
      (fun A R s => s.heap.get? p = some { cls := .type "list", dict := du, data := .seq us ku, slots := su } ∧ s.heap.get? q = some { cls := .type "list", dict := dv, data := .seq vs kv, slots := sv } ∧
        (∀ j (y1 : j < us.size) (y2 : j < vs.size), EqIn prog w A.in1 s us[j] vs[j] true) ∧ R (.ok (.ret (.bool false))) s) := by
  induction left with
  | zero =>
    intro at' z A R s ⟨a1, a2, a3, fin⟩
    obtain ⟨hp, gn, dr, tk, os⟩ := s
    wp_walk using wpAny_loadPart' a1, wpAny_loadPart' a2
    rw [show us[((at' : Nat) : Int).toNat]? = none by simp; omega, show vs[((at' : Nat) : Int).toNat]? = none by simp; omega]
    wp_walk using wpAny_loadPart' a1, wpAny_loadPart' a2
    show R (.ok (.ret (.bool (us.size != vs.size)))) _
    rw [same]
    simpa using fin
  | succ left step =>
    intro at' z A R s ⟨a1, a2, a3, fin⟩
    obtain ⟨hp, gn, dr, tk, os⟩ := s
    have y1 : at' < us.size := by omega
    have y2 : at' < vs.size := by omega
    wp_walk using wpAny_loadPart' a1, wpAny_loadPart' a2
    rw [show us[((at' : Nat) : Int).toNat]? = some us[at'] by simp [y1], show vs[((at' : Nat) : Int).toNat]? = some vs[at'] by simp [y2]]
    refine wpAny_bind (a3 at' y1 y2 _ _ ?_)
    wp_walk
    rw [show ((at' : Int) + 1) = ((at' + 1 : Nat) : Int) by push_cast; rfl]
    exact ⟨plainId_quiet plain_eq_loop _, codeAny_builtin entry_eq_loop (by
      rw [Around.under_plainId plain_eq_loop _]
      exact step (at' + 1) (by omega) A R _ ⟨a1, a2, a3, fin⟩)⟩
theorem ne_same_lists (p q : Addr) (us vs : Array Value) (ku kv : Nat) (du dv : Option Addr) (su sv : Array (Option Value)) (same : us.size = vs.size) :
    MeetsIn prog w (Builtin.«list.__ne__» ⟨[.ref p, .ref q], []⟩)
      (fun A R s => s.heap.get? p = some { cls := .type "list", dict := du, data := .seq us ku, slots := su } ∧ s.heap.get? q = some { cls := .type "list", dict := dv, data := .seq vs kv, slots := sv } ∧
        (∀ j (y1 : j < us.size) (y2 : j < vs.size), EqIn prog w A.in1 s us[j] vs[j] true) ∧ R (.ok (.ret (.bool false))) s) := by
  intro A R s ⟨a1, a2, a3, fin⟩
  obtain ⟨hp, gn, dr, tk, os⟩ := s
  have sb := AutoSeq1.sub_list_list
  have nz : ¬ (us.size != vs.size) = true := by simp [same]
  wp_walk using wpAny_loadPart' a1, wpAny_loadPart' a2
  exact ⟨plainId_quiet plain_eq_loop _, codeAny_builtin entry_eq_loop (by
    rw [Around.under_plainId plain_eq_loop _]
    exact ne_walk p q us vs ku kv du dv su sv same _ 0 rfl A R _ ⟨a1, a2, a3, fin⟩)⟩
theorem rc_ne_same {A : Around} {s : Shared} {E : Value → Shared → Prop} {Q : Value → Shared → Prop} {p q : Addr} {us vs : Array Value} (a1 : s.heap.IsList p us) (a2 : s.heap.IsList q vs) (same : us.size = vs.size) (hu : A.units < cLine)
    (a3 : ∀ j (y1 : j < us.size) (y2 : j < vs.size), EqIn prog w A.in1 s us[j] vs[j] true) (fin : Q (.bool false) s) : wpAny (model prog w) A (richCompare .NotEq (.ref p) (.ref q)) Q E s := by
  obtain ⟨⟨c1, d1, t1, l1⟩, o1, e1, k1, m1⟩ := id a1
  obtain ⟨⟨c2, d2, t2, l2⟩, o2, e2, k2, m2⟩ := id a2
  simp only at e1 m1 e2 m2
  subst e1 m1 e2 m2
  exact wpAny_richCompare_same_room (T := "list") (op := .NotEq) ⟨_, o1, rfl⟩ ⟨_, o2, rfl⟩ F.slot_list_ne (call_meetsIn F.slot_list_ne ⟨_, o1, rfl⟩ F.entry_list_ne (F.args_list_ne_2 _ _) (ne_same_lists p q us vs k1 k2 d1 d2 l1 l2 same)
    ⟨o1, o2, a3, show Value.bool false ≠ Value.notImplemented ∧ Q (.bool false) s from ⟨(fun x => nomatch x), fin⟩⟩) hu
end
def SameV (K : PySem.W.Frag) (H : Hp) (v u : V) : Prop := (∃ d e, Dp K H v d ∧ Dp K H u e ∧ SeqAt.shaped d = true ∧ SeqAt.shaped e = true ∧ PyData.eqv d e = true) ∨
  ∃ a b ks ls, v = .ref a ∧ u = .ref b ∧ H a = some (.dK ks) ∧ H b = some (.dK ls) ∧ ks.length = ls.length ∧ ∀ p ∈ ks, valV ls p.1 = some p.2 ∧ flatB p.2 = true
section
variable {X : Cx} {g : Gc} {pins : List (Addr × Obj)} {σ : L2.St} {H : Hp} {s : Shared}
theorem SameV.eqIn {v u : V} {a b : Value} (h : SameV X.K H v u) (I : Inv X pins σ H s) (ra : RelV v a) (rb : RelV u b) (hu : X.A.units + 65 < cLine) : EqIn X.prog X.w X.A.in1 s a b true := by
  rcases h with ⟨d, e, hd, he, sd, se, q⟩ | ⟨p, q, ks, ls, rfl, rfl, ep, eq, hl, hp⟩
  · obtain ⟨as, r1⟩ := Dp.reads I d v a hd ra
    obtain ⟨bs, r2⟩ := Dp.reads I e u b he rb
    have z := eqAt_reads d e X.A.in1 s a b as bs r1 r2 (canLay_of_shaped sd) (canLay_of_shaped se) (room_of_shaped sd (by show X.A.units + 1 + 64 < cLine; omega))
    rw [q] at z
    exact z.inModel _ _
  · obtain rfl : a = Value.ref p := ra
    obtain rfl : b = Value.ref q := rb
    by_cases hne : p = q
    · subst hne
      exact (EqAt.same _).inModel _ _
    · obtain ⟨_, ya, va, ka, da⟩ := (show ObjOk X.prog X.w H s.heap p (.dK ks) from I.hok p _ ep)
      obtain ⟨_, yb, vb, kb, db⟩ := (show ObjOk X.prog X.w H s.heap q (.dK ls) from I.hok q _ eq)
      have e : va.length = vb.length := by rw [← ka.length, ← kb.length]; exact hl
      exact EqIn.of_refs hne fun E Q hq => PySem.W.keq_eq (knd := mixKind X.prog X.w) (r := true) ya yb da db (by show X.A.units + 1 < cLine; omega) (fun _ => hits_all kb ka hp) (by simpa [e] using hq)
def rNeSame (K : PySem.W.Frag) : R2 := fun x y H Q => ∃ a b xs ys, x = .ref a ∧ y = .ref b ∧ SqL K H a xs ∧ SqL K H b ys ∧ xs.length = ys.length ∧ (∀ (j : Nat) (v u : V), xs[j]? = some v → ys[j]? = some u → SameV K H v u) ∧ Q (.bl false) H
theorem op_neSame (hu : X.A.units + 65 < cLine) : OpR X (compareOp .NotEq) (rNeSame X.K) := by
  intro pins s σ H x y v u Q I rx ry h
  obtain ⟨a, b, xs, ys, rfl, rfl, ha, hb, hl, hs, q⟩ := h
  cases rx
  cases ry
  obtain ⟨its, r1, p1, _⟩ := I.list ha
  obtain ⟨its2, r2, p2, _⟩ := I.list hb
  have e1 := L2.Vals.length r1
  have e2 := L2.Vals.length r2
  refine rc_ne_same p1.isList p2.isList (by simp; omega) (by omega) (fun j y1 y2 => ?_) ⟨.bl false, H, I, rfl, q⟩
  have y1' : j < its.length := by simpa using y1
  have y2' : j < its2.length := by simpa using y2
  obtain ⟨c, hc, rc⟩ := L2.Vals.get r1 (List.getElem?_eq_getElem (show j < xs.length by omega))
  obtain ⟨d, hd, rd⟩ := L2.Vals.get r2 (List.getElem?_eq_getElem (show j < ys.length by omega))
  rw [List.getElem?_eq_getElem y1'] at hc
  rw [List.getElem?_eq_getElem y2'] at hd
  cases hc
  cases hd
  exact (hs j _ _ (List.getElem?_eq_getElem (show j < xs.length by omega)) (List.getElem?_eq_getElem (show j < ys.length by omega))).eqIn I rc rd hu
def sameE : D → D → Bool
  | .dK es, .dK fs => sameK es fs
  | x, y => pl 40 x && pl 40 y && eqD x y
def sameL : List D → List D → Bool
  | [], [] => true
  | x :: xs, y :: ys => sameE x y && sameL xs ys
  | _, _ => false
def oNeL : D → D → Option D
  | .lst xs, .lst ys => if sameL xs ys = true then some (.bl false) else none
  | _, _ => none
theorem sameE_v {A : Addr → Prop} {x y : V} {d e : D} (h : sameE d e = true) (rx : Rep g H A x d) (ry : Rep g H A y e) : SameV g.K H x y := by
  have data : (pl 40 d && pl 40 e && eqD d e) = true → SameV g.K H x y := fun h => by
    rw [Bool.and_eq_true, Bool.and_eq_true] at h
    obtain ⟨⟨h1, h2⟩, h3⟩ := h
    refine .inl ⟨_, _, LRep.dp (.inl rx) h1, LRep.dp (.inl ry) h2, pl_shaped (by decide) h1, pl_shaped (by decide) h2, ?_⟩
    rw [eqD_py 40 d e h1 h2]
    exact h3
  unfold sameE at h
  split at h
  · obtain ⟨a, b, ks, ls, rfl, rfl, h1, h2, h3, h4⟩ := core_K (.inl rx) (.inl ry) h
    exact .inr ⟨a, b, ks, ls, rfl, rfl, h1, h2, h3, h4⟩
  · exact data h
theorem sameL_v {A : Addr → Prop} : ∀ {ds es : List D} {vs us : List V}, sameL ds es = true → RepA g H A vs ds → RepA g H A us es → vs.length = us.length ∧ ∀ (j : Nat) (v u : V), vs[j]? = some v → us[j]? = some u → SameV g.K H v u
  | [], [], _, _, _, .nil, .nil => ⟨rfl, fun j v u h => by simp at h⟩
  | [], _ :: _, _, _, h, _, _ => by simp [sameL] at h
  | _ :: _, [], _, _, h, _, _ => by simp [sameL] at h
  | d :: ds, e :: es, _, _, h, .cons r t, .cons r' t' => by
    unfold sameL at h
    rw [Bool.and_eq_true] at h
    obtain ⟨h1, h2⟩ := sameL_v h.2 t t'
    refine ⟨by rw [List.length_cons, List.length_cons, h1], fun j v u hv hu => ?_⟩
    cases j with
    | zero =>
      simp at hv hu
      subst hv hu
      exact sameE_v h.1 r r'
    | succ j =>
      rw [List.getElem?_cons_succ] at hv hu
      exact h2 j v u hv hu
theorem o2_neL : Op2 .im g (rNeSame g.K) oNeL := fun H A x y d e z Q hA rx ry ho q => by
  unfold oNeL at ho
  split at ho
  · split at ho
    · rename_i hs
      cases ho
      obtain ⟨a, vs, rfl, ha, ra⟩ := rx.lst
      obtain ⟨b, ws, rfl, hb, rb⟩ := ry.lst
      obtain ⟨h1, h2⟩ := sameL_v hs ra rb
      exact ⟨a, b, vs, ws, rfl, rfl, .inl (.inl ha), .inl (.inl hb), h1, h2, q _ _ (out_flat fun _ _ => .bl _)⟩
    · cases ho
  · cases ho
end
end PL

/-! PL45: dicts that are locked for good, walked; dicts by tuples; dict(a list of pairs); list(d.values()). -/
namespace PL
open PySem PySem.Spec PyProof.Rows L2
/-! ### locked behind a statement -/
def tLk (t : TS) : TS := fun Dn σ H => t ⟨fun σ' H' => Dn.nx σ' H' ∨ ∃ d u, H' d = some u ∧ Mut (some u) ∧ ∀ od, Dn.nx σ' (upd H' d (.frz od u)), Dn.rt, Dn.bk, Dn.ct⟩ σ H
section
variable {X : Cx} {W : WX} {g : Gc} {γ : G} {τ τ' : PS0} {σ : L2.St} {H : Hp} {rk : Kd} {st : Stmt} {f : SM} {t : TS}
theorem ps_lk (h : PS X st t) : PS X st (tLk t) := by
  refine ⟨fun pins s σ H D I hw => thn (h.run pins s σ H _ I hw) fun f s1 q => ?_⟩
  cases f with
  | next =>
    obtain ⟨σ', H', I2, q⟩ := q
    rcases q with q | ⟨d, u, hd, mu, q⟩
    · exact ⟨σ', H', I2, q⟩
    · obtain ⟨od, I3⟩ := I2.lock hd mu
      exact ⟨σ', _, I3, q od⟩
  | brk => exact q
  | cont => exact q
  | ret v => exact q
def lckD : D → Option D
  | .dK es => some (.fk es)
  | .dT es => some (.ft es)
  | _ => none
def lckO (i : Nat) (τ : PS0) : Option PS0 := match τ[i]? with
  | some (.ow d) => (lckD d).map fun e => τ.set i (.im e)
  | _ => none
def lckS (i : Nat) (f : SM) : SM := fun τ => match f τ with
  | .nx τ' => (match lckO i τ' with
    | some τ2 => .nx τ2
    | none => .stuck)
  | r => r
theorem Rel.lck (R : Rel g γ τ σ H) {i : Nat} {d e : D} (h : τ[i]? = some (.ow d)) (he : lckD d = some e) : ∃ a u, H a = some u ∧ Mut (some u) ∧ ∀ od, Rel g γ (τ.set i (.im e)) σ (upd H a (.frz od u)) ∧ Kp (Own τ σ) H (Own (τ.set i (.im e)) σ) (upd H a (.frz od u)) := by
  obtain ⟨a, ea, c⟩ := R.ow i d h
  have hl : i < σ.length := (List.getElem?_eq_some_iff.mp ea).1
  have hlt : i < τ.length := (List.getElem?_eq_some_iff.mp h).1
  have es : σ.set i (some (.ref a)) = σ := by
    apply List.ext_getElem?
    intro j
    by_cases hj : j = i
    · subst hj
      rw [List.getElem?_set_self hl, ea]
    · rw [List.getElem?_set_ne (Ne.symm hj)]
  have oi : OwnAt τ σ i a := ⟨⟨_, h, rfl⟩, ea⟩
  have sub : ∀ b, Own (τ.set i (.im e)) σ b → Own τ σ b := fun b z => by
    rw [← es] at z
    exact own_set_sub rfl z
  have na : ¬ Av γ (τ.set i (.im e)) σ a := fun z => by
    rcases z with z | ⟨j, ⟨s, hs, ho⟩, hj⟩
    · exact (R.pal a z).2 ⟨i, oi⟩
    · by_cases q : j = i
      · subst q
        rw [List.getElem?_set_self hlt] at hs
        cases hs
        cases ho
      · rw [List.getElem?_set_ne (Ne.symm q)] at hs
        exact q (R.inj j i a ⟨⟨s, hs, ho⟩, hj⟩ oi)
  obtain ⟨u, hu, mu, rp⟩ : ∃ u, H a = some u ∧ Mut (some u) ∧ ∀ od, (∀ {vs : List V} {ds : List D}, RepA g H (Av γ τ σ) vs ds → RepA g (upd H a (.frz od u)) (Av γ (τ.set i (.im e)) σ) vs ds) → Rep g (upd H a (.frz od u)) (Av γ (τ.set i (.im e)) σ) (.ref a) e := by
    cases c with
    | lst _ _ => cases he
    | dK hH hk ra => cases he; exact ⟨_, hH, trivial, fun od kp => .fk ⟨od, upd_same⟩ na hk (kp ra)⟩
    | dT hH hk ra => cases he; exact ⟨_, hH, trivial, fun od kp => .ft ⟨od, upd_same⟩ na hk (kp ra)⟩
  refine ⟨a, u, hu, mu, fun od => ?_⟩
  have kO : Kp (Own τ σ) H (Own (τ.set i (.im e)) σ) (upd H a (.frz od u)) := fun b o eb nb => ⟨(upd_ne (fun z : b = a => nb (by rw [z]; exact ⟨i, oi⟩))).trans eb, fun z => nb (sub b z)⟩
  have k : Kp (Av γ τ σ) H (Av γ (τ.set i (.im e)) σ) (upd H a (.frz od u)) := kO.av
  have oat : ∀ {j b}, OwnAt (τ.set i (.im e)) σ j b → j ≠ i ∧ OwnAt τ σ j b := fun {j b} ⟨⟨s, hs, ho⟩, hj⟩ => by
    have q : j ≠ i := fun q => by
      subst q
      rw [List.getElem?_set_self hlt] at hs
      cases hs
      cases ho
    rw [List.getElem?_set_ne (Ne.symm q)] at hs
    exact ⟨q, ⟨s, hs, ho⟩, hj⟩
  refine ⟨⟨by rw [List.length_set]; exact R.len, fun j d' hj => ?_, fun j d' hj => ?_, fun j d' hj => ?_, fun j l b h1 h2 => R.inj j l b (oat h1).2 (oat h2).2, fun b hb => ?_⟩, kO⟩
  · by_cases q : j = i
    · subst q
      rw [List.getElem?_set_self hlt] at hj
      cases hj
      exact ⟨.ref a, ea, rp od fun r => r.kp k⟩
    · rw [List.getElem?_set_ne (Ne.symm q)] at hj
      obtain ⟨v, ev, r⟩ := R.im j d' hj
      exact ⟨v, ev, r.kp k⟩
  · have q : j ≠ i := fun q => by
      subst q
      rw [List.getElem?_set_self hlt] at hj
      cases hj
    rw [List.getElem?_set_ne (Ne.symm q)] at hj
    obtain ⟨b, eb, cb⟩ := R.ow j d' hj
    exact ⟨b, eb, cb.mono k (upd_ne fun z => q (R.inj j i a (by rw [← z]; exact ⟨⟨_, hj, rfl⟩, eb⟩) oi))⟩
  · have q : j ≠ i := fun q => by
      subst q
      rw [List.getElem?_set_self hlt] at hj
      cases hj
    rw [List.getElem?_set_ne (Ne.symm q)] at hj
    obtain ⟨eb, cb⟩ := R.mu j d' hj
    exact ⟨eb, cb.mono k (upd_ne fun z => q (R.inj j i a (by rw [← z]; exact ⟨⟨_, hj, rfl⟩, eb⟩) oi))⟩
  · have nb : b ≠ a := fun z => by
      subst z
      exact (R.pal b hb).2 ⟨i, oi⟩
    exact ⟨(R.pal b hb).1.up fun o eb => (upd_ne nb).trans eb, fun z => (R.pal b hb).2 (sub b z)⟩
theorem js_lck (i : Nat) (h : JS X W rk st f) : JS X W rk st (lckS i f) := (ps_lk h).weak fun Dn σ H ⟨γ, τ, R, q⟩ => by
  refine ⟨γ, τ, R, ?_⟩
  unfold lckS at q
  cases ef : f τ with
  | stuck => rw [ef] at q; exact q.elim
  | exc n τ' => rw [ef] at q; exact q
  | ret d τ' => rw [ef] at q; exact q
  | nx τ' =>
    rw [ef] at q
    intro σ' H' R' k'
    unfold lckO at q
    cases e : τ'[i]? with
    | none => simp only [e] at q; exact q.elim
    | some s =>
      cases s with
      | ow d =>
        simp only [e] at q
        cases el : lckD d with
        | none => rw [el] at q; exact q.elim
        | some d2 =>
          rw [el] at q
          obtain ⟨a, u, hu, mu, z⟩ := R'.lck e el
          exact .inr ⟨a, u, hu, mu, fun od => q σ' _ (z od).1 (k'.trans (z od).2)⟩
      | _ => simp only [e] at q; exact q.elim
end
/-! ### walked -/
def keyO : Key → D
  | .inl i => .int i
  | .inr x => .str x.cps.toList
def oIterK : D → Option (List D)
  | .fk es => some (es.map fun kv => keyO kv.1)
  | .ft es => some (es.map fun kv => .tup (kv.1.map keyO))
  | _ => none
def iterK (f : M D) : M (List D) := andThen f fun d => lift (oIterK d)
section
variable {g : Gc} {H : Hp} {A : Addr → Prop}
theorem rep_kV {k : Key} : Rep g H A (kV k) (keyO k) := by
  cases k with
  | inl i => exact .int i
  | inr x =>
    have := Rep.str (g := g) (H := H) (Av := A) x.cps.toList
    rw [S_of] at this
    exact this
theorem rep_kVs : ∀ {ks : List Key}, RepA g H A (ks.map kV) (ks.map keyO)
  | [] => .nil
  | _ :: _ => .cons rep_kV rep_kVs
theorem map_get {α β γ : Type} {f : α → γ} {xs : List (α × β)} {es : List (α × γ)} : True := trivial
theorem fst_get {α β γ : Type} {xs : List (α × β)} {es : List (α × γ)} (h : xs.map (·.1) = es.map (·.1)) (i : Nat) : (xs[i]?).map (·.1) = (es[i]?).map (·.1) := by
  rw [← List.getElem?_map, ← List.getElem?_map, h]
theorem good_keys {a : Addr} {o : Obj} {kvs : List (Key × V)} {es : List (Key × D)} (hk : kvs.map (·.1) = es.map (·.1)) : ItGood g (Itk a o kvs) (fun H A => H a = some (.frz o (.dK kvs)) ∧ ¬ A a) (es.map fun kv => keyO kv.1) := fun i H A ⟨ha, n⟩ hA => by
  have hl : kvs.length = es.length := by simpa using congrArg List.length hk
  refine ⟨fun d hd => ?_, fun hz => ⟨ha, by rw [List.length_map] at hz; omega⟩⟩
  rw [List.getElem?_map] at hd
  cases e : es[i]? with
  | none => rw [e] at hd; cases hd
  | some p =>
    rw [e] at hd
    cases hd
    have hi := (List.getElem?_eq_some_iff.mp e).1
    refine ⟨⟨ha, by omega⟩, fun x H' ⟨eh, k, v, ek, ex⟩ => ?_⟩
    subst eh
    subst ex
    have := fst_get hk i
    rw [ek, e] at this
    cases this
    exact ⟨Same.refl _, rep_kV⟩
theorem good_keysT {a : Addr} {o : Obj} {kvs : List (List Key × V)} {es : List (List Key × D)} (hk : kvs.map (·.1) = es.map (·.1)) : ItGood g (Itkt a o kvs) (fun H A => H a = some (.frz o (.dT kvs)) ∧ ¬ A a) (es.map fun kv => .tup (kv.1.map keyO)) := fun i H A ⟨ha, n⟩ hA => by
  have hl : kvs.length = es.length := by simpa using congrArg List.length hk
  refine ⟨fun d hd => ?_, fun hz => ⟨ha, by rw [List.length_map] at hz; omega⟩⟩
  rw [List.getElem?_map] at hd
  cases e : es[i]? with
  | none => rw [e] at hd; cases hd
  | some p =>
    rw [e] at hd
    cases hd
    have hi := (List.getElem?_eq_some_iff.mp e).1
    refine ⟨⟨ha, by omega⟩, fun x H' ⟨eh, k, v, q, ek, ex, eq⟩ => ?_⟩
    subst eh
    subst ex
    have := fst_get hk i
    rw [ek, e] at this
    cases this
    refine ⟨Same.refl _, .tup ⟨eq, fun z => ?_⟩ rep_kVs⟩
    obtain ⟨u, eu, nu⟩ := hA q z
    rw [eq] at eu
    cases eu
    exact nu _ rfl
end
section
variable {X : Cx} {W : WX} {g : Gc} {γ : G} {τ τ' τ1 τ2 : PS0} {σ σ' σ1 : L2.St} {H H' H1 H2 : Hp} {A : Addr → Prop} {p : Addr} {v x y : V} {d : D} {k k1 k2 k3 kr rk : Kd} {m m1 m2 m3 : Bool} {e e1 e2 a b c tg iter : Expr} {es rest : List Expr} {f fa fb fc : M D} {pos : Pos}
theorem lasts_frz {a : Addr} {u : HO} : Lasts (fun H A => H a = some u ∧ ¬ A a) := fun H A H2 A2 ⟨ha, n⟩ k => k a _ ha n
theorem ji_keys (he : JE X W .im m iter f) : JI X W m tg iter (iterK f) := PI.weak (pi_keys he) fun σ H R ⟨γ, τ, Re, h⟩ => by
  unfold iterK at h
  rw [fit_bind] at h
  refine ⟨γ, τ, Re, h.mono (fun d τ1 h v H1 s1 P1 => ?_) fun _ _ q => q⟩
  obtain ⟨ds, ed, h⟩ := fit_lift.mp h
  obtain ⟨R1, kp1, r1⟩ := P1
  cases r1 with
  | fk hf n hk ra =>
    cases ed
    obtain ⟨o, ha⟩ := hf
    exact ⟨_, o, rfl, .inl ⟨_, ha, h _ H1 _ s1 R1 kp1 ⟨ha, n⟩ lasts_frz (good_keys hk)⟩⟩
  | ft hf n hk ra =>
    cases ed
    obtain ⟨o, ha⟩ := hf
    exact ⟨_, o, rfl, .inr ⟨_, ha, h _ H1 _ s1 R1 kp1 ⟨ha, n⟩ lasts_frz (good_keysT hk)⟩⟩
  | _ => cases ed
/-! ### looked up -/
def keysT : List D → Option (List Key)
  | [] => some []
  | d :: r => (keyD d).bind fun k => (keysT r).map (k :: ·)
def keyT : D → Option (List Key)
  | .tup xs => keysT xs
  | _ => none
def getT (es : List (List Key × D)) (k : List Key) : Option D := (es.find? fun kv => decide (kv.1 = k)).map (·.2)
def putT (es : List (List Key × D)) (k : List Key) (d : D) : List (List Key × D) :=
  if (es.any fun kv => decide (kv.1 = k)) = true then es.map (fun kv => if kv.1 = k then (kv.1, d) else kv) else es ++ [(k, d)]
structure RepT (g : Gc) (H : Hp) (A : Addr → Prop) (kvs : List (List Key × V)) (es : List (List Key × D)) : Prop where
  k : kvs.map (·.1) = es.map (·.1)
  v : RepA g H A (kvs.map (·.2)) (es.map (·.2))
theorem RepT.nil : RepT g H A [] [] := ⟨rfl, .nil⟩
theorem RepT.cons {k : List Key} {v : V} {d : D} {kvs : List (List Key × V)} {es : List (List Key × D)} (r : Rep g H A v d) (h : RepT g H A kvs es) : RepT g H A ((k, v) :: kvs) ((k, d) :: es) :=
  ⟨by rw [List.map_cons, List.map_cons, h.k], .cons r h.v⟩
theorem RepT.un : ∀ {kvs : List (List Key × V)} {es : List (List Key × D)}, RepT g H A kvs es → (kvs = [] ∧ es = []) ∨ ∃ k v d kvs' es', kvs = (k, v) :: kvs' ∧ es = (k, d) :: es' ∧ Rep g H A v d ∧ RepT g H A kvs' es'
  | [], [], _ => .inl ⟨rfl, rfl⟩
  | [], _ :: _, h => by have := h.k; simp at this
  | _ :: _, [], h => by have := h.k; simp at this
  | (k, v) :: kvs, (j, d) :: es, h => by
    have hk := h.k
    rw [List.map_cons, List.map_cons] at hk
    obtain ⟨e1, e2⟩ := List.cons.inj hk
    have e1 : k = j := e1
    subst e1
    have hv := h.v
    rw [List.map_cons, List.map_cons] at hv
    cases hv with
    | cons r rs => exact .inr ⟨k, v, d, kvs, es, rfl, rfl, r, e2, rs⟩
theorem RepT.append {k : List Key} {v : V} {d : D} (r : Rep g H A v d) : ∀ {kvs : List (List Key × V)} {es : List (List Key × D)}, RepT g H A kvs es → RepT g H A (kvs ++ [(k, v)]) (es ++ [(k, d)])
  | [], _, h => by
    rcases h.un with ⟨_, rfl⟩ | ⟨_, _, _, _, _, e, _⟩
    · exact .cons r .nil
    · cases e
  | p :: kvs, _, h => by
    rcases h.un with ⟨e, _⟩ | ⟨_, _, _, _, _, e, rfl, r2, h2⟩
    · cases e
    · cases e
      exact .cons r2 (RepT.append r h2)
theorem RepT.map {k : List Key} {v : V} {d : D} (r : Rep g H A v d) : ∀ {kvs : List (List Key × V)} {es : List (List Key × D)}, RepT g H A kvs es → RepT g H A (kvs.map fun kv => if kv.1 = k then (kv.1, v) else kv) (es.map fun kv => if kv.1 = k then (kv.1, d) else kv)
  | [], _, h => by
    rcases h.un with ⟨_, rfl⟩ | ⟨_, _, _, _, _, e, _⟩
    · exact .nil
    · cases e
  | p :: kvs, _, h => by
    rcases h.un with ⟨e, _⟩ | ⟨j, v2, d2, _, _, e, rfl, r2, h2⟩
    · cases e
    · cases e
      rw [List.map_cons, List.map_cons]
      by_cases hj : j = k
      · rw [if_pos hj, if_pos hj]
        exact .cons r (RepT.map r h2)
      · rw [if_neg hj, if_neg hj]
        exact .cons r2 (RepT.map r h2)
theorem RepT.any {k : List Key} : ∀ {kvs : List (List Key × V)} {es : List (List Key × D)}, RepT g H A kvs es → (kvs.any fun kv => decide (kv.1 = k)) = (es.any fun kv => decide (kv.1 = k))
  | [], _, h => by
    rcases h.un with ⟨_, rfl⟩ | ⟨_, _, _, _, _, e, _⟩
    · rfl
    · cases e
  | p :: kvs, _, h => by
    rcases h.un with ⟨e, _⟩ | ⟨j, v2, d2, _, _, e, rfl, r2, h2⟩
    · cases e
    · cases e
      rw [List.any_cons, List.any_cons, RepT.any h2]
theorem RepT.put {k : List Key} {v : V} {d : D} {kvs : List (List Key × V)} {es : List (List Key × D)} (h : RepT g H A kvs es) (r : Rep g H A v d) : RepT g H A (putK kvs k v) (putT es k d) := by
  unfold putK putT
  rw [h.any]
  split
  · exact h.map r
  · exact h.append r
theorem RepT.kp {B : Addr → Prop} {kvs : List (List Key × V)} {es : List (List Key × D)} (k : Kp A H B H') (h : RepT g H A kvs es) : RepT g H' B kvs es := ⟨h.k, h.v.kp k⟩
theorem RepT.val {kvs : List (List Key × V)} {es : List (List Key × D)} {kk : List Key} (h : RepT g H A kvs es) : (∀ d, getT es kk = some d → ∃ v, valV kvs kk = some v ∧ Rep g H A v d) ∧ (getT es kk = none → valV kvs kk = none) := by
  induction es generalizing kvs with
  | nil =>
    rcases h.un with ⟨rfl, _⟩ | ⟨_, _, _, _, _, _, z, _⟩
    · exact ⟨fun d z => (nomatch z), fun _ => rfl⟩
    · cases z
  | cons p es ih =>
    rcases h.un with ⟨_, z⟩ | ⟨k1, v1, d1, kvs', es', rfl, z, r, h'⟩
    · cases z
    · cases z
      by_cases hk : k1 = kk
      · subst hk
        have e1 : getT ((k1, d1) :: es) k1 = some d1 := by unfold getT; simp
        have e2 : valV ((k1, v1) :: kvs') k1 = some v1 := valV_pos (p := (k1, v1)) rfl
        rw [e1, e2]
        exact ⟨fun d z => by cases z; exact ⟨v1, rfl, r⟩, fun z => (nomatch z)⟩
      · have e1 : getT ((k1, d1) :: es) kk = getT es kk := by unfold getT; simp [hk]
        have e2 : valV ((k1, v1) :: kvs') kk = valV kvs' kk := valV_neg (p := (k1, v1)) hk
        rw [e1, e2]
        exact ih h'
theorem keysT_v : ∀ {xs : List D} {ks : List Key} {vs : List V}, keysT xs = some ks → RepA g H A vs xs → vs = ks.map kV
  | [], _, _, h, r => by cases h; cases r; rfl
  | d :: xs, ks, vs, h, r => by
    unfold keysT at h
    cases r with
    | cons r1 r2 =>
      cases ek : keyD d with
      | none => rw [ek] at h; cases h
      | some k =>
        cases er : keysT xs with
        | none => rw [ek, er] at h; cases h
        | some ks' =>
          rw [ek, er] at h
          cases h
          rw [List.map_cons, ← keysT_v er r2, keyD_v ek (.inl r1)]
theorem keyT_v {d : D} {kk : List Key} {v : V} (h : keyT d = some kk) (r : LRep g H A v d) : ∃ b, v = .ref b ∧ H b = some (.tup (kk.map kV)) := by
  cases d with
  | tup xs =>
    obtain ⟨b, vs, rfl, hb, ra⟩ := r.tup
    have e := keysT_v (show keysT xs = some kk from h) ra
    subst e
    exact ⟨b, rfl, hb.1⟩
  | _ => cases h
def isDct : D → Option Unit
  | .dK _ => some () | .fk _ => some () | .dT _ => some () | .ft _ => some ()
  | _ => none
def oGetA : D → D → Option (Option D)
  | .dK es, y => (keyD y).map (getD' es)
  | .fk es, y => (keyD y).map (getD' es)
  | .dT es, y => (keyT y).map (getT es)
  | .ft es, y => (keyT y).map (getT es)
  | _, _ => none
theorem isDct_ok {d : D} {u : Unit} (h : isDct d = some u) (r : LRep g H A v d) : ∃ a, v = .ref a ∧ IsD H a := by
  cases d with
  | dK es => obtain ⟨a, kvs, e, ha, _⟩ := r.dK; exact ⟨a, e, .inl ⟨kvs, .inl ha⟩⟩
  | dT es => obtain ⟨a, kvs, e, ha, _⟩ := r.dT; exact ⟨a, e, .inr ⟨kvs, .inl ha⟩⟩
  | fk es => obtain ⟨a, kvs, e, ha, _⟩ := r.fk; exact ⟨a, e, .inl ⟨kvs, .inr ha⟩⟩
  | ft es => obtain ⟨a, kvs, e, ha, _⟩ := r.ft; exact ⟨a, e, .inr ⟨kvs, .inr ha⟩⟩
  | _ => cases h
theorem get_ok {d e : D} {r : Option D} (h : oGetA d e = some r) (rx : LRep g H A x d) (ry : LRep g H A y e) : ∃ a o, x = .ref a ∧ DGet H a y o ∧ (∀ z, r = some z → ∃ v, o = some v ∧ Rep g H A v z) ∧ (r = none → o = none) := by
  have cK : ∀ {es : List (Key × D)} {kvs : List (Key × V)} {a : Addr}, Rd H a (.dK kvs) → kvs.map (·.1) = es.map (·.1) → RepA g H A (kvs.map (·.2)) (es.map (·.2)) → (keyD e).map (getD' es) = some r →
      ∃ o, DGet H a y o ∧ (∀ z, r = some z → ∃ v, o = some v ∧ Rep g H A v z) ∧ (r = none → o = none) := fun {es kvs a} hd hk ra h => by
    cases ek : keyD e with
    | none => rw [ek] at h; cases h
    | some kk =>
      rw [ek] at h
      cases h
      have rv := (RepK.val (kk := kk) ⟨hk, ra⟩)
      exact ⟨valV kvs kk, .inl ⟨kvs, kk, hd, keyD_v ek ry, rfl⟩, rv.1, rv.2⟩
  have cT : ∀ {es : List (List Key × D)} {kvs : List (List Key × V)} {a : Addr}, Rd H a (.dT kvs) → kvs.map (·.1) = es.map (·.1) → RepA g H A (kvs.map (·.2)) (es.map (·.2)) → (keyT e).map (getT es) = some r →
      ∃ o, DGet H a y o ∧ (∀ z, r = some z → ∃ v, o = some v ∧ Rep g H A v z) ∧ (r = none → o = none) := fun {es kvs a} hd hk ra h => by
    cases ek : keyT e with
    | none => rw [ek] at h; cases h
    | some kk =>
      rw [ek] at h
      cases h
      have rv := (RepT.val (kk := kk) ⟨hk, ra⟩)
      obtain ⟨b, rfl, hb⟩ := keyT_v ek ry
      exact ⟨valV kvs kk, .inr ⟨kvs, kk, b, hd, rfl, hb, rfl⟩, rv.1, rv.2⟩
  cases d with
  | dK es => obtain ⟨a, kvs, rfl, ha, hk, ra⟩ := rx.dK; obtain ⟨o, q⟩ := cK (.inl ha) hk ra h; exact ⟨a, o, rfl, q⟩
  | fk es => obtain ⟨a, kvs, rfl, ha, hk, ra⟩ := rx.fk; obtain ⟨o, q⟩ := cK (.inr ha) hk ra h; exact ⟨a, o, rfl, q⟩
  | dT es => obtain ⟨a, kvs, rfl, ha, hk, ra⟩ := rx.dT; obtain ⟨o, q⟩ := cT (.inl ha) hk ra h; exact ⟨a, o, rfl, q⟩
  | ft es => obtain ⟨a, kvs, rfl, ha, hk, ra⟩ := rx.ft; obtain ⟨o, q⟩ := cT (.inr ha) hk ra h; exact ⟨a, o, rfl, q⟩
  | _ => cases h
/-- d.get(k, x), any dict -/
def getA (fa fk fx : M D) : M D := andThen fa fun x => andThen (lift (isDct x)) fun _ => andThen fk fun y => andThen fx fun z => lift ((oGetA x y).map fun r => r.getD z)
theorem je_dgetA {apos : Pos} (hu : X.A.units + 1 < cLine) (ha : JE X W k1 m1 a fa) (hb : JE X W k2 m2 b fb) (hc : JE X W .im m3 c fc) (hm : M2 X a "get" apos b c pos := by exact ⟨rfl, rfl, rfl, rfl⟩) (hk : k1 ≠ .ln ∨ (m2 || m3) = false := by first | exact .inr rfl | exact .inl (by decide)) (hk2 : k2 ≠ .ln ∨ m3 = false := by first | exact .inr rfl | exact .inl (by decide)) :
    JE X W .im ((m1 || m2) || m3) (.Call (.Attribute a "get" apos) [b, c] [] pos) (getA fa fb fc) := (pe_dget2 hu ha hb hc hm).weak fun σ H Q ⟨γ, τ, R, h⟩ => by
  unfold getA at h
  rw [fit_bind] at h
  refine ⟨γ, τ, R, h.mono (fun d τ1 h x H1 s1 P1 => ?_) fun _ _ q => q⟩
  obtain ⟨R1, kp1, v1⟩ := P1.val
  rw [fit_bind, fit_lift] at h
  obtain ⟨_, ed, h⟩ := h
  obtain ⟨ad, rfl, hd⟩ := isDct_ok ed v1.l
  refine ⟨ad, rfl, hd, ?_⟩
  rw [fit_bind] at h
  refine ⟨γ, τ1, R1, h.mono (fun e τ2 h y H2 s2 P2 => ?_) fun _ _ q => q.pre kp1⟩
  obtain ⟨R2, kp2, v2⟩ := P2.val
  rw [fit_bind] at h
  refine ⟨γ, τ2, R2, h.mono (fun z τ3 h w H3 s3 P3 => ?_) fun _ _ q => q.pre (kp1.trans kp2)⟩
  obtain ⟨R3, kp3, v3⟩ := P3
  have v1' := carry (k1 := k1) (m2 := m2 || m3) hk v1 (fun q => or_same s2 s3 q) (kp2.trans kp3)
  have v2' := carry (k1 := k2) (m2 := m3) hk2 v2 s3 kp3
  obtain ⟨z', ez, h⟩ := fit_lift.mp h
  cases er : oGetA d e with
  | none => rw [er] at ez; cases ez
  | some r =>
    rw [er] at ez
    cases ez
    obtain ⟨a', o, e', hg, hs, hn⟩ := get_ok er v1'.l v2'.l
    cases e'
    refine ⟨o, hg, h _ H3 (or_same (or_same s1 s2) s3) ⟨R3, (kp1.trans kp2).trans kp3, ?_⟩⟩
    cases r with
    | none => rw [hn rfl]; exact v3
    | some dv =>
      obtain ⟨v, ev, rv⟩ := hs _ rfl
      rw [ev]
      exact rv
/-- d[k], any dict -/
def dixA (fa fk : M D) : M D := andThen fa fun x => andThen fk fun y => lift ((oGetA x y).bind id)
theorem je_dixA (hu : X.A.units + 1 < cLine) (ha : JE X W k1 m1 a fa) (hb : JE X W k2 m2 b fb) (hk : k1 ≠ .ln ∨ m2 = false := by first | exact .inr rfl | exact .inl (by decide)) (hs : NoSl b := by exact fun _ _ => rfl) : JE X W .im (m1 || m2) (.Subscript a b pos) (dixA fa fb) := (pe_dget hu ha hb hs).weak fun σ H Q ⟨γ, τ, R, h⟩ => by
  unfold dixA at h
  rw [fit_bind] at h
  refine ⟨γ, τ, R, h.mono (fun d τ1 h x H1 s1 P1 => ?_) fun _ _ q => q⟩
  obtain ⟨R1, kp1, v1⟩ := P1.val
  rw [fit_bind] at h
  refine ⟨γ, τ1, R1, h.mono (fun e τ2 h y H2 s2 P2 => ?_) fun _ _ q => q.pre kp1⟩
  obtain ⟨R2, kp2, v2⟩ := P2.val
  obtain ⟨dv, eg, h⟩ := fit_lift.mp h
  have v1' := carry (k1 := k1) hk v1 s2 kp2
  cases er : oGetA d e with
  | none => rw [er] at eg; cases eg
  | some r =>
    rw [er] at eg
    have eg : r = some dv := eg
    subst eg
    obtain ⟨a', o, rfl, hg, hs, _⟩ := get_ok er v1'.l v2.l
    obtain ⟨v, rfl, rv⟩ := hs _ rfl
    exact ⟨a', v, rfl, hg, h v H2 (or_same s1 s2) ⟨R2, kp1.trans kp2, rv⟩⟩
end
end PL

/-! PL46: x[k] = e of a dict by tuples; dict(a list of pairs); list(d.values()). -/
namespace PL
open PySem PySem.Spec PyProof.Rows L2
section
variable {X : Cx} {W : WX} {g : Gc} {γ : G} {τ τ' τ1 τ2 : PS0} {σ σ' σ1 : L2.St} {H H' H1 H2 : Hp} {A : Addr → Prop} {p : Addr} {v x y : V} {d : D} {k k1 k2 k3 kr rk : Kd} {m m1 m2 m3 : Bool} {e e1 e2 a b c tg iter : Expr} {es rest : List Expr} {f fa fb fc : M D} {pos : Pos}
theorem je_dict0T : JE X W .fr true (.Dict [] [] pos) (ret (.dT [])) := pe_dnewT.weak fun σ H Q ⟨γ, τ, R, h⟩ p hp => by
  have sm : Same H (upd H p (.dT [])) := fun b u e => by
    rw [upd_ne (ne_of_none e hp)]
    exact e
  exact h (.ref p) _ (fun z => nomatch z) (PostE.of_out R Kp.refl (by decide) ⟨sm, p, rfl, hp, .dT upd_same rfl .nil⟩)
def oSetT : OMt
  | .dT es, [y, v] => if es.length < 16777216 then (keyT y).map fun kk => (.non, .dT (putT es kk v)) else none
  | _, _ => none
theorem js_dixT (i : Nat) {x : Str} {px p3 : Pos} {fv fi : M D} {ei ev : Expr} (hu : X.A.units + 1 < cLine) (hv' : JE X W .im m1 ev fv) (hi' : JE X W .im m2 ei fi) (hN : X.N[i]? = some x := by rfl) (hv : Vis X.env.scope x := by first | exact Or.inl rfl | exact Or.inr (Or.inl rfl) | exact Or.inr (Or.inr rfl)) (hd : (x == ("__debug__" : Str)) = false := by decide) (hcd : (x == ("__classdict__" : Str)) = false := by decide)
    (hs : swapsWith ev (some (.Subscript (.Name x px) ei p3)) pos.line X.env = pure false := by rfl) :
    JS X W rk (.Assign [.Subscript (.Name x px) ei p3] ev pos) (stIx i fv fi oSetT) := (ps_dput hu (pe_var hN hv hd hcd) hi' hv' hs).weak fun Dn σ H ⟨γ, τ, R, q⟩ => by
  unfold stIx at q
  refine ⟨γ, τ, R, ?_⟩
  cases ef : fv τ with
  | stuck => rw [ef] at q; exact q.elim
  | exc n τ' => rw [ef] at q; exact XS.x q
  | ok d τ1 =>
    rw [ef] at q
    intro v H1 s1 P1
    obtain ⟨R1, kp1, r1⟩ := P1
    cases e1 : ownC τ1 i with
    | none => simp only [e1] at q; exact q.elim
    | some c1 =>
      simp only [e1] at q
      obtain ⟨a, s, hs, ho, hi, ct⟩ := R1.ownC e1
      refine ⟨.ref a, hi, γ, τ1, R1, ?_⟩
      cases ei' : fi τ1 with
      | stuck => simp only [ei'] at q; exact q.elim
      | exc n τ' => simp only [ei'] at q; exact (XS.x q).pre kp1
      | ok j τ2 =>
        simp only [ei'] at q
        intro iv H2 s2 P2
        obtain ⟨R2, kp2, r2⟩ := P2
        cases e2 : ownC τ2 i with
        | none => simp only [e2] at q; exact q.elim
        | some c2 =>
          simp only [e2] at q
          obtain ⟨a', s', hs', ho', hi'', ct'⟩ := R2.ownC e2
          have ea : a' = a := by rw [hi] at hi''; cases hi''; rfl
          subst ea
          cases eo : oSetT c2 [j, d] with
          | none => simp only [eo] at q; exact q.elim
          | some zc =>
            obtain ⟨z, c'⟩ := zc
            simp only [eo] at q
            unfold oSetT at eo
            split at eo
            · rename_i es yy vv heq
              cases heq
              split at eo
              · rename_i hz
                cases ek : keyT j with
                | none => rw [ek] at eo; cases eo
                | some kk =>
                  rw [ek] at eo
                  cases eo
                  cases ct' with
                  | @dT kvs _ hl hkk rl =>
                    obtain ⟨b, rfl, hb⟩ := keyT_v ek (.inl r2)
                    have oa : OwnAt τ2 σ i a' := ⟨⟨s', hs', ho'⟩, hi''⟩
                    have hA : Av γ τ2 σ a' := .inr ⟨i, oa⟩
                    have hlen : ∀ {kvs : List (List Key × V)}, kvs.map (·.1) = es.map (·.1) → kvs.length < sizeLine := fun {kvs} q => by
                      have := congrArg List.length q
                      rw [List.length_map, List.length_map] at this
                      rw [this, sizeLine_eq]
                      exact hz
                    refine ⟨a', _, rfl, DPut.t hl hb (hlen hkk), ?_⟩
                    have rp : RepT X.g H2 (Av γ τ2 σ) _ es := ⟨hkk, rl⟩
                    have rp2 := (rp.put (k := kk) (r1.kp kp2.av)).kp (B := Av γ τ2 σ) (H' := upd H2 a' (.dT (putK kvs kk v))) fun b u e n => ⟨by rw [upd_ne (fun z => by rw [z] at n; exact n hA)]; exact e, n⟩
                    obtain ⟨R', k'⟩ := R2.put hs' oa upd_keep (Cont.dT upd_same rp2.k rp2.v)
                    unfold putC at q
                    rw [hs'] at q
                    exact q σ _ R' ((kp1.trans kp2).trans k')
              · cases eo
            · cases eo
/-! ### dict(a list of pairs) -/
def pairD : D → Option (Key × D)
  | .tup [k, d] => (keyD k).map fun k => (k, d)
  | _ => none
def pairsD : List D → Option (List (Key × D))
  | [] => some []
  | d :: r => (pairD d).bind fun p => (pairsD r).map (p :: ·)
def oDictP : D → Option D
  | .lst xs => (pairsD xs).map fun r => .dK (mergeD [] r)
  | _ => none
theorem pairs_rep : ∀ {xs : List D} {vs : List V} {r : List (Key × D)}, RepA g H A vs xs → pairsD xs = some r → ∃ (ps : List Addr) (kvs : List (Key × V)), vs = ps.map V.ref ∧ Paired (fun p kv => SqT g.K H p [kV kv.1, kv.2]) ps kvs ∧ RepK g H A kvs r
  | [], _, _, .nil, h => by cases h; exact ⟨[], [], rfl, .nil, .nil⟩
  | d :: xs, _, r, .cons r1 r2, h => by
    unfold pairsD at h
    cases ek : pairD d with
    | none => rw [ek] at h; cases h
    | some kd =>
      cases er : pairsD xs with
      | none => rw [ek, er] at h; cases h
      | some r' =>
        rw [ek, er] at h
        cases h
        obtain ⟨ps, kvs, rfl, pr, rk⟩ := pairs_rep r2 er
        unfold pairD at ek
        split at ek
        · rename_i k d'
          cases ek2 : keyD k with
          | none => rw [ek2] at ek; cases ek
          | some kk =>
            rw [ek2] at ek
            cases ek
            obtain ⟨b, us, rfl, hb, ra⟩ := LRep.tup (.inl r1)
            cases ra with
            | cons a1 a2 =>
              cases a2 with
              | cons a3 a4 =>
                cases a4
                have e1 := keyD_v ek2 (.inl a1)
                subst e1
                exact ⟨b :: ps, (kk, _) :: kvs, rfl, .cons (.inl (.inl hb.1)) pr, .cons a3 rk⟩
        · cases ek
theorem fn_dictP {k : Kd} (hk : k ≠ .ln) : Fn1 k g (fun xs H Q => ∃ (a : Addr) (ps : List Addr) (kvs : List (Key × V)), xs = [.ref a] ∧ SqL g.K H a (ps.map V.ref) ∧ Paired (fun p kv => SqT g.K H p [kV kv.1, kv.2]) ps kvs ∧ ∀ p, H p = none → Q (.ref p) (upd H p (.dK (mergeK [] kvs)))) oDictP := fun H A x d z Q hA rx ho q => by
  unfold oDictP at ho
  split at ho
  · rename_i xs
    cases er : pairsD xs with
    | none => rw [er] at ho; cases ho
    | some r =>
      rw [er] at ho
      cases ho
      obtain ⟨a, vs, rfl, ha, ra⟩ := rx.lst
      obtain ⟨ps, kvs, rfl, pr, rk⟩ := pairs_rep ra er
      refine ⟨a, ps, kvs, rfl, .inl (.inl ha), pr, fun p hp => q _ _ ?_⟩
      have s : Same H (upd H p (.dK (mergeK [] kvs))) := fun b o e => by rw [upd_ne (ne_of_none e hp)]; exact e
      have np : ¬ A p := fun q => by
        obtain ⟨u, e⟩ := hA p q
        rw [hp] at e; cases e
      have rm : RepK g H A (mergeK [] kvs) (mergeD [] r) := RepK.merge rk .nil
      cases k with
      | ln => exact absurd rfl hk
      | im =>
        have rm' := rm.kp (B := A) (H' := upd H p (.dK (mergeK [] kvs))) (Same.kp s fun _ q => q)
        exact ⟨s, .dK upd_same np rm'.k rm'.v⟩
      | fr =>
        have rm' := rm.kp (B := fun a => A a ∨ a = p) (H' := upd H p (.dK (mergeK [] kvs))) fun a o e n => ⟨s a o e, fun q => q.elim n (ne_of_none e hp)⟩
        exact ⟨s, p, rfl, hp, .dK upd_same rm'.k rm'.v⟩
  · cases ho
/-! ### list(d.values()) -/
def tListVals (td : TE) : TE := fun σ H Q => td σ H fun x H1 => ∃ d kvs, x = .ref d ∧ H1 d = some (.dK kvs) ∧ ∀ q, H1 q = none → Q (.ref q) (upd H1 q (.lst (kvs.map (·.2))))
theorem pe_listVals {td : TE} {o : Expr} {x : Str} {p apos cpos : Pos} (hc : X.calm = true) (he : PE X o td) (hg : Gl X x) (hm : X.mg x = none) (hv : bootBuiltins x = some (.type "list")) (hn : x ≠ "__name__" := by decide) (hdb : (x == ("__debug__" : Str)) = false := by decide)
    (hbase : attributeBase o "values" X.env (eval o X.env) = eval o X.env := by rfl) (hline : (apos.endLine == cpos.line) = true := by rfl)
    (hst : starEach [.Call (.Attribute o "values" apos) [] [] cpos] X.env = (false, eval (.Call (.Attribute o "values" apos) [] [] cpos) X.env) :: starEach [] X.env := by rfl) : PE X (.Call (.Name x p) [.Call (.Attribute o "values" apos) [] [] cpos] [] pos) (tListVals td) := by
  refine ⟨fun pins s σ H Q I h => ?_⟩
  refine wpAny_Call_Name_kw (ld_blt I hg hm hv ?_ hn hdb)
  refine PyProof.Rows.callWith_type1 ?_ hst rfl
  rw [hst]
  refine Calls.spliced_cons ?_
  refine wpAny_Call_method (T := "dict") (id := "dict.values") hbase rfl hline F.plainAttrs_dict F.slot_dict_values F.type_dict_values (thn (he.run pins s σ H _ I h) fun u s1 ⟨x, H1, I1, rx, d, kvs, ex, hk, q⟩ => ?_)
  subst ex
  obtain rfl : u = Value.ref d := rx
  obtain ⟨z, lo, vs, rk, hd⟩ := (show ObjOk X.prog X.w H1 s1.heap d (.dK kvs) from I1.hok d _ hk)
  obtain ⟨ep, hat⟩ := hd.dictAt
  have hl : kvs.length = vs.length := Paired.length rk
  refine ⟨hd.typeIs, hd.mapOf.noDict, ?_⟩
  show wpAny _ _ (callWith cpos (.builtin "dict.values") [.ref d] [] []) _ X.xe s1
  refine method_meetsIn F.slot_dict_values F.entry_dict_values rfl (PySem.evalArgs_none ⟨rfl, hd.typeIs, F.args_dict_values_1 _, _, meets_dict_values (mixKind X.prog X.w) d lo, ⟨vs, hd⟩, ?_⟩)
  have I2 : Inv X pins σ H1 { s1 with heap := s1.heap.push { cls := .type "dict_values", data := .fields #[.ref d] } } := I1.kept (t' := s1.toks) fun b ob q => Heap.get?_push_of_some _ q
  refine Calls.spliced_nil ?_
  refine PySem.W.kdl_call (PySem.W.kdl_values (knd := mixKind X.prog X.w) (r := s1.heap.objs.size) (d := d) (kvs := vs) (ep := ep)) (I2.ok.hd hc) ⟨⟨_, Heap.get?_push_size _ rfl, rfl, rfl⟩, hat.push _⟩ (by rw [← hl]; exact z) fun h' tk acc' c' hkeep hS hacc => ?_
  refine ⟨.ref _, upd H1 _ (.lst (kvs.map (·.2))), I2.laid hkeep (Nat.le_refl _) (show ObjOk X.prog X.w _ _ _ (.lst (kvs.map (·.2))) from ⟨?_, acc'.toList, c', ?_, ?_⟩), rfl, q _ (I2.hok.fresh (Nat.le_refl _))⟩
  · rw [List.length_map]; exact z
  · have el : acc'.toList.length = acc'.size := by simp
    refine vals_of_at (by rw [List.length_map, el, hacc.1, hl]) fun j x w h1 h2 => ?_
    obtain ⟨k, hky⟩ := hacc.2 j w (by rw [← Array.getElem?_toList]; exact h2)
    rw [List.getElem?_map] at h1
    cases ej : kvs[j]? with
    | none => rw [ej] at h1; cases h1
    | some p =>
      obtain ⟨k2, v2⟩ := p
      rw [ej] at h1
      cases h1
      obtain ⟨u, hu, ru⟩ := kv_get rk ej
      rw [hky] at hu
      cases hu
      exact ru
  · rw [Array.toArray_toList]; exact hS
def oVals : D → Option D
  | .dK es => some (.lst (es.map (·.2)))
  | _ => none
theorem je_listVals {x : Str} {p apos cpos : Pos} (hc : X.calm = true) (hk : kr ≠ .ln) (ha : JE X W k1 m1 a fa) (hg : Gl X x) (hm : X.mg x = none) (hv : bootBuiltins x = some (.type "list")) (hn : x ≠ "__name__" := by decide) (hdb : (x == ("__debug__" : Str)) = false := by decide)
    (hbase : attributeBase a "values" X.env (eval a X.env) = eval a X.env := by rfl) (hline : (apos.endLine == cpos.line) = true := by rfl)
    (hst : starEach [.Call (.Attribute a "values" apos) [] [] cpos] X.env = (false, eval (.Call (.Attribute a "values" apos) [] [] cpos) X.env) :: starEach [] X.env := by rfl) : JE X W kr m1 (.Call (.Name x p) [.Call (.Attribute a "values" apos) [] [] cpos] [] pos) (op1 oVals fa) :=
  (pe_listVals hc ha hg hm hv hn hdb hbase hline hst).weak fun σ H Q ⟨γ, τ, R, h⟩ => by
    unfold op1 at h
    rw [fit_bind] at h
    refine ⟨γ, τ, R, h.mono (fun d τ1 h v H1 s1 P1 => ?_) fun _ _ q => q⟩
    obtain ⟨z, ez, h⟩ := fit_lift.mp h
    obtain ⟨R1, kp1, v1⟩ := P1.val
    unfold oVals at ez
    split at ez
    · cases ez
      obtain ⟨ad, kvs, rfl, hd, hkk, ra⟩ := v1.l.dK
      refine ⟨ad, kvs, rfl, hd, fun q hq => ?_⟩
      have o := out_lst (k := kr) (A := Av γ τ1 σ) hk R1.avT ra hq
      exact h _ _ (fun z => (s1 z).trans o.1) (PostE.of_out R1 kp1 hk o)
    · cases ez
end
end PL

/-! PL47: runs with one token out: what gives one out, comprehensions and loops that carry it on. -/
namespace PL
open PySem PySem.Spec PyProof.Rows L2
section
variable {X : Cx} {e e1 e2 a b elt tg iter : Expr} {es : List Expr} {pos p : Pos}
/-! ### a token is out behind it -/
def PEE (X : Cx) (e : Expr) (t : TE) : Prop := ∀ (pins : List (Addr × Obj)) (s : Shared) (σ : L2.St) (H : Hp) (Q : VK), Inv X pins σ H s → t σ H Q → wpAny (model X.prog X.w) X.A (eval e X.env) (fun v s1 => 1 ≤ s1.toks ∧ EP X pins σ Q v s1) X.xe s
def PAE (X : Cx) (es : List Expr) (t : TA) : Prop := ∀ (pos : Pos) (pins : List (Addr × Obj)) (s : Shared) (σ : L2.St) (H : Hp) (Q : List V → Hp → Prop), Inv X pins σ H s → t σ H Q → wpAny (model X.prog X.w) X.A (spliced (backTo pos (starEach es X.env))) (fun us s1 => 1 ≤ s1.toks ∧ AP X pins σ Q us s1) X.xe s
def PIX (X : Cx) (tg iter : Expr) (wi : TI) : Prop := ∀ (pins : List (Addr × Obj)) (s : Shared) (σ : L2.St) (H : Hp) (R : It → Hp → Prop), Inv X pins σ H s → wi σ H R →
    wpAny (model X.prog X.w) X.A (eval iter X.env) (fun v s1 => 1 ≤ s1.toks ∧ wpAny (model X.prog X.w) X.A (pyIter v) (PIE X pins σ tg R) X.xe s1) X.xe s
/-- behind a step the token is still out -/
theorem thk {α : Type} {t : Sem α} {Q Q' : α → Shared → Prop} {M : Model} {A : Around} {E : Value → Shared → Prop} {s : Shared} (hk : 1 ≤ s.toks) (h : wpAny M A t Q E s) (hQ : ∀ a s', 1 ≤ s'.toks → Q a s' → Q' a s') : wpAny M A t Q' E s :=
  wpAny_mono (PySem.wpAny_toks_of hk h) (fun a s' z => hQ a s' z.1 z.2) fun _ _ z => z.2
theorem PEE.weak {t t' : TE} (h : PEE X e t) (w : ∀ σ H Q, t' σ H Q → t σ H Q) : PEE X e t' := fun pins s σ H Q I q => h pins s σ H Q I (w σ H Q q)
theorem PIX.weak {t t' : TI} (h : PIX X tg iter t) (w : ∀ σ H Q, t' σ H Q → t σ H Q) : PIX X tg iter t' := fun pins s σ H Q I q => h pins s σ H Q I (w σ H Q q)
theorem PST.weak {st : Stmt} {t t' : TS} (h : PST X st t) (w : ∀ D σ H, t' D σ H → t D σ H) : PST X st t' := fun pins s σ H D h0 I q => h pins s σ H D h0 I (w D σ H q)
theorem PSsT.weak {st : List Stmt} {t t' : TS} (h : PSsT X st t) (w : ∀ D σ H, t' D σ H → t D σ H) : PSsT X st t' := fun pins s σ H D h0 I q => h pins s σ H D h0 I (w D σ H q)
theorem PET.weak {t t' : TE} (h : PET X e t) (w : ∀ σ H Q, t' σ H Q → t σ H Q) : PET X e t' := fun pins s σ H Q h0 I q => h pins s σ H Q h0 I (w σ H Q q)
theorem pee_int {i : Int} {j : Nat} : PEE X (.Constant (.int i) j pos) (tC (.int i)) := fun _ _ _ H _ I h => wpAny_Constant_int ⟨by show 1 ≤ _ + 1; omega, .int i, H, I.tok _, ⟨_, rfl⟩, h⟩
theorem pae_head {te : TE} {ta : TA} (ha : PEE X e te) (hr : PA X es ta) (hs : starEach (e :: es) X.env = (false, eval e X.env) :: starEach es X.env := by rfl) : PAE X (e :: es) (tCons te ta) := by
  intro pos pins s σ H Q I h
  rw [hs]
  show wpAny _ _ (spliced ((false, eval e X.env) :: backTo pos (starEach es X.env))) _ _ s
  refine Calls.spliced_cons (thn (ha pins s σ H _ I h) fun v s1 ⟨hk, x, H1, I1, r1, q1⟩ => ?_)
  exact thk hk (hr.run pos pins s1 σ H1 _ I1 q1) fun us s2 hk2 ⟨xs, H2, I2, r2, q2⟩ => ⟨hk2, x :: xs, H2, I2, .cons r1 r2, q2⟩
theorem pee_callB {r : List V → Hp → VK → Prop} {t : TA} {id : String} {x : Str} (hc : CallR X (.builtin id) r) (hg : Gl X x) (hm : X.mg x = none) (hv : bootBuiltins x = some (.builtin id)) (ha : PAE X (e :: es) t) (hn : x ≠ "__name__" := by decide) (hdb : (x == ("__debug__" : Str)) = false := by decide)
    (he : starEach (e :: es) X.env = (false, eval e X.env) :: starEach es X.env := by rfl) (hpl : (backTo pos (starEach es X.env)).any (·.1) = false := by rfl) : PEE X (.Call (.Name x p) (e :: es) [] pos) (tCB r t) := by
  intro pins s σ H Q I h
  refine wpAny_Call_Name_kw (ld_blt I hg hm hv ?_ hn hdb)
  exact PyProof.Rows.callWith_builtin1 (thn (ha pos pins s σ H _ I h) fun us s1 ⟨hk, vs, H1, I1, r1, q1⟩ => thk hk (hc pins s1 σ H1 vs us Q I1 r1 q1) fun v s2 hk2 q => ⟨hk2, q⟩) he hpl
theorem pix_range1 {ta : TA} (hg : Gl X "range") (hm : X.mg "range" = none) (ha : PAE X [a] ta) (hs : starEach [a] X.env = [(false, eval a X.env)] := by rfl) : PIX X tg (.Call (.Name "range" p) [a] [] pos) (iRng1 ta) := by
  intro pins s σ H R I h
  refine PyProof.Rows.Call_ (ld_blt I hg hm boot_range (PyProof.Rows.callWith_type1 (thn (ha pos pins s σ H _ I h) fun us s1 ⟨hk, vs, H1, I1, r1, j, e, q1, q2, q⟩ => ?_) hs rfl))
  subst e
  obtain ⟨u, rfl, t, rfl⟩ := r1.one
  exact thk hk (call_range_1 (range_it I1 (by omega) (by omega) q1 q2 (by simpa using q))) fun v s2 hk2 q => ⟨hk2, q⟩
/-! ### one turn of a comprehension, a token out -/
theorem turnC {Y : Cx} {ifs : List Expr} {J : It} {fp : List Addr} {it D : Addr} {tn : Nat → Heap → Prop} {g : TG} {tt : TT} {te : TE} {vs : List Nat} {σ : L2.St} {i : Nat} {H0 : Hp} {s0 : Shared} {Nx : Hp → Prop} {E : Value → Shared → Prop}
    (T : Turn Y.prog Y.w Y.K tg J fp it tn) (calm : Y.calm = true) (pg : PG Y tg g) (pt : PTs Y ifs tt) (pe : PET Y elt te) (fail : ∀ v s, Y.xe v s → E v s)
    (clear : ∀ {H' : Hp}, (∀ b ∈ fp, H' b = none) → ∀ b ∈ fp, FpOk Y [] H' b) (I0 : Inv Y [] (wipe σ vs) H0 s0) (hk : 1 ≤ s0.toks) (at0 : tn i s0.heap) (no0 : ∀ b ∈ fp, H0 b = none) (go : J.go i H0)
    (step : ∀ x H', J.yld i H0 x H' → g x (wipe σ vs) H' fun σ2 H2 => wipe σ2 vs = wipe σ vs ∧ tt σ2 H2 fun b H3 => if b = true then te σ2 H3 fun y H4 => ∃ acc, H4 D = some (.lst acc) ∧ acc.length < sizeLine ∧ Nx (upd H4 D (.lst (acc ++ [y]))) else Nx H3)
    (Fin : Shared → Prop) (fin : ∀ s' H', 1 ≤ s'.toks → Inv Y [] (wipe σ vs) H' s' → tn (i + 1) s'.heap → (∀ b ∈ fp, H' b = none) → Nx H' → Fin s') :
    wpAny (model Y.prog Y.w) Y.A (pyNext (.ref it)) (fun r s1 => ∃ u, r = some u ∧ wpAny (model Y.prog Y.w) Y.A (letOwnedTupleGo tg (.ref it) u) (fun _ s2 => wpAny (model Y.prog Y.w) Y.A (assign tg Y.env u) (fun _ s3 =>
      wpAny (model Y.prog Y.w) Y.A (forIn ifs true fun c r => if r = true then do let ok ← isTrue c Y.env (eval c Y.env); pure (ForInStep.yield ok) else pure (ForInStep.yield r)) (fun ok s4 =>
        if ok = true then wpAny (model Y.prog Y.w) Y.A (eval elt Y.env) (fun x s5 => wpAny (model Y.prog Y.w) Y.A (call (.builtin "list.append") [.ref D, x]) (fun _ s6 => Fin s6) E s5) E s4 else Fin s4) E s3) E s2) E s1) E s0 := by
  have ex : ∀ {α : Type} {t : Sem α} {Q : α → Shared → Prop} {s : Shared}, wpAny (model Y.prog Y.w) Y.A t Q Y.xe s → wpAny (model Y.prog Y.w) Y.A t Q E s := fun h => wpAny_mono h (fun _ _ z => z) fail
  refine thk hk (T.item Y rfl rfl rfl calm i [] s0 _ H0 E I0 (clear no0) at0 go) fun r s1 k1 ⟨u, hr, h1⟩ => ⟨u, hr, ?_⟩
  refine thk k1 h1 fun _ s2 k2 ⟨x, H2, I2, rx, yx, at2, no2⟩ => ?_
  have J2 := I2.pinned (clear no2) (T.obj _ _ at2)
  -- what ends the turn, from any later state
  have close : ∀ {σ' : L2.St} {s' : Shared} {H' : Hp}, wipe σ' vs = wipe σ vs → Inv Y ([] ++ pinsAt fp s2.heap) σ' H' s' → 1 ≤ s'.toks → Nx H' → Fin s' := fun {σ' s' H'} ew I' k' nx => by
    have held : ∀ b ∈ fp, ∀ o, s2.heap.get? b = some o → s'.heap.get? b = some o ∧ H' b = none := fun b hb o eo => by
      have z := I'.pin (b, o) (List.mem_append_right _ (List.mem_append_right _ (mem_pinsAt hb eo)))
      exact ⟨z.1, z.2.1⟩
    refine fin s' H' k' ((I'.unpinned (pins := [])).weak (by rw [← ew, wipe_length]) fun j v q => ?_) (T.keep _ _ _ at2 fun b hb o eo => (held b hb o eo).1) (fun b hb => ?_) nx
    · rw [← ew] at q
      exact (wipe_some q).1
    · obtain ⟨o, eo, _⟩ := T.obj _ _ at2 b hb
      exact (held b hb o eo).2
  refine thk k2 (ex (pg.run _ s2 _ H2 x u _ J2 rx (step x H2 yx))) fun _ s3 k3 ⟨σ3, H3, I3, ew, q3⟩ => ?_
  refine thk k3 (ex (pt.run _ s3 σ3 H3 _ I3 q3)) fun ok s4 k4 ⟨H4, I4, q4⟩ => ?_
  cases ok with
  | false => exact close ew I4 k4 q4
  | true => exact thk k4 (ex (pe _ s4 σ3 H4 _ k4 I4 q4)) fun z s5 k5 ⟨y, H5, I5, ry, acc, hD, hz, nx⟩ => wpAny_with_toks k5 (app_ok I5 hD hz ry fun s6 I6 k6 => close ew I6 k6 nx)
/-! ### a comprehension whose elements want a token -/
theorem lcR {pins : List (Addr × Obj)} {s : Shared} {σ : L2.St} {H : Hp} {Q : VK} {ifs : List Expr} {scope : Scope} {own : List (Str × Nat)} {at_ pos' : Pos} {wi : TI} {g : TG} {tt : TT} {te : TE} {use : Option (Value → Sem Unit)} {Qf : Value → Shared → Prop}
    (calm : X.calm = true) (nd : X.N.Nodup) (I : Inv X pins σ H s) (hi : ∀ R, wi σ H R → wpAny (model X.prog X.w) X.A (eval iter X.env) (fun v s1 => 1 ≤ s1.toks ∧ wpAny (model X.prog X.w) X.A (pyIter v) (PIE X pins σ tg R) X.xe s1) X.xe s) (ok : BlkOk X.N X.env.scope scope own)
    (hg : ∀ (s : Shared) (H : Hp) (C : Addr) (cl : List (Str × Addr)) (fp : List Addr), PG (X.blk s H scope (compEnvC scope cl C X.env) fp) tg g)
    (ht : ∀ (s : Shared) (H : Hp) (C : Addr) (cl : List (Str × Addr)) (fp : List Addr), PTs (X.blk s H scope (compEnvC scope cl C X.env) fp) ifs tt)
    (he : ∀ (s : Shared) (H : Hp) (C : Addr) (cl : List (Str × Addr)) (fp : List Addr), PET (X.blk s H scope (compEnvC scope cl C X.env) fp) elt te)
    (hs : ∀ x, foldedSetIterable iter X.env x = pure x) (h : tLc wi g tt te (own.map (·.2)) σ H Q)
    (out : ∀ D C s' m H', Inv X pins σ H' s' → Q (.ref D) H' → s'.heap.Ns C m → FpOk X pins H' C → compPost (model X.prog X.w) X.A X.xe use Qf (.ref D) C (.ok .next) s') :
    wpAny (model X.prog X.w) X.A (comprehension (.ListComp elt [⟨tg, iter, ifs, 0⟩] scope at_) scope X.env pos' (newList []) false (eval iter X.env) use) Qf X.xe s := by
  have cells : ∀ y ∈ scope.names, y.2 = .free → ∃ c, X.env.cells.lookup y.1 = some c := fun y hy ey => (ok.free y hy ey).elim (fun z => I.ok.has _ (.inl z)) fun z => I.ok.has _ (.inr z)
  refine wpAny_comprehension_free (use := use) rfl hs (closure_ok cells) ok.kind (fun y hy ey => by rw [ok.uniq y hy, ey]) (thn (hi _ h) fun xv s1 ⟨k1, hx⟩ => thk k1 hx fun itv s2 k2 hx2 => ?_)
  obtain ⟨it, fp, tn, J, H2, rfl, I2, T, at2, clear2, q⟩ := hx2
  refine wpAny_newObj_type (newEnv_comp ?_) (by show 0 ≤ sizeLine; decide)
  have nD : H2 s2.heap.objs.size = none := I2.hok.fresh (Nat.le_refl _)
  obtain ⟨Wm, ⟨m0, w0⟩, turns⟩ := q _ nD
  -- the new list, the block's frame
  let s3 : Shared := { s2 with heap := s2.heap.push { cls := .type "list", data := .seq ([] : List Value).toArray } }
  let H3 : Hp := upd H2 s2.heap.objs.size (.lst [])
  have I3 : Inv X pins σ H3 s3 := I2.laid (t' := s2.toks) (fun b o eo => Heap.get?_push_of_some _ eo) (Nat.le_refl _) ⟨Nat.zero_le _, [], 0, .nil, Heap.get?_push_size _ rfl⟩
  have small : ∀ b ∈ fp, b < s2.heap.objs.size := fun b hb => let ⟨_, eo, _⟩ := T.obj _ _ at2 b hb; Heap.lt_size eo
  have clear3 : ∀ b ∈ fp, FpOk X pins H3 b ∧ b < s3.heap.objs.size := fun b hb => by
    have lt := small b hb
    refine ⟨⟨(upd_ne (Nat.ne_of_lt lt)).trans (clear2 b hb).1, (clear2 b hb).2⟩, ?_⟩
    show b < (s2.heap.push _).objs.size
    rw [Heap.size_push]
    exact Nat.lt_succ_of_lt lt
  let C : Addr := s3.heap.objs.size
  let cl : List (Str × Addr) := cellsFrom (C + 1) scope.names (cloFrom X.env.cells scope.names [])
  let Y : Cx := X.blk s3 H3 scope (compEnvC scope cl C X.env) fp
  let s4 : Shared := { s3 with heap := pushCells (s3.heap.push { cls := .type "dict", data := .dict #[] }) scope.names }
  have I4 : Inv Y [] (wipe σ (own.map (·.2))) H3 s4 := block_start I3 ok nd clear3
  have keep4 : ∀ b o, s2.heap.get? b = some o → s4.heap.get? b = some o := fun b o eo => pushCells_keeps _ _ _ _ (Heap.get?_push_of_some _ (Heap.get?_push_of_some _ eo))
  have at4 : tn 0 s4.heap := T.keep _ _ _ at2 fun b _ o eo => keep4 b o eo
  have no4 : ∀ b ∈ fp, H3 b = none := fun b hb => (clear3 b hb).1.1
  have clearY : ∀ {H' : Hp}, (∀ b ∈ fp, H' b = none) → ∀ b ∈ fp, FpOk Y [] H' b := fun {H'} no b hb =>
    ⟨no b hb, (I4.ok.exf b hb).1, I4.ok.exfs b hb, .inl hb, fun x c ec => (I4.ok.exf b hb).2 x c ec, fun p' hp => absurd (show p' ∈ ([] : List (Addr × Obj)) ++ [] from hp) (by simp)⟩
  have loop : codeAny (model X.prog X.w) X.A (.compLoop (.ListComp elt [⟨tg, iter, ifs, 0⟩] scope at_) 0 (.ref it) (.ref s2.heap.objs.size) Y.env) (compPost (model X.prog X.w) X.A X.xe use Qf (.ref s2.heap.objs.size) C) s4 := by
    refine compLoop_any (fun n s' => 1 ≤ s'.toks ∧ ∃ i H', Inv Y [] (wipe σ (own.map (·.2))) H' s' ∧ tn i s'.heap ∧ (∀ b ∈ fp, H' b = none) ∧ Wm i n H') ?_ m0 ⟨k2, 0, H3, I4, at4, no4, w0⟩
    rintro n s5 ⟨k5, i, H5, I5, at5, no5, w5⟩
    rcases turns i n H5 w5 with ⟨stop, qq⟩ | ⟨go, Nx, less, step⟩
    · refine thnF (T.done Y rfl rfl rfl calm i [] s5 _ H5 (fun _ _ => False) I5 (clearY no5) at5 stop) fun r s6 ⟨hr, I6⟩ => ?_
      subst hr
      have I7 : Inv X pins σ H5 s6 := I3.call' (ch := fp) I6.os I6.base I6.hok I6.bare fun b hb => ⟨(clear3 b hb).1.2.2.2.1, (clear3 b hb).1.2.1, (clear3 b hb).1.2.2.2.2.1, (clear3 b hb).1.2.2.2.2.2⟩
      obtain ⟨m, hn, _⟩ := I6.loc
      exact out _ C s6 m H5 I7 qq hn (I3.fpOk (Nat.le_refl _) I6.free)
    · have tc := turnC (Y := Y) (E := fun _ _ => False) (D := s2.heap.objs.size) (vs := own.map (·.2)) (σ := σ) T calm (hg s3 H3 C cl fp) (ht s3 H3 C cl fp) (he s3 H3 C cl fp) (fun _ _ z => z) (fun no => clearY no) I5 k5 at5 no5 go step
        (fun s' => ∃ m, m < n ∧ 1 ≤ s'.toks ∧ ∃ i H', Inv Y [] (wipe σ (own.map (·.2))) H' s' ∧ tn i s'.heap ∧ (∀ b ∈ fp, H' b = none) ∧ Wm i m H') fun s' H' k' I' at' no' nx => by
          obtain ⟨m', lt, w'⟩ := less H' nx
          exact ⟨m', lt, k', i + 1, H', I', at', no', w'⟩
      refine thnF tc fun r s6 ⟨u, hr, h6⟩ => ?_
      subst hr
      refine thnF h6 fun _ s7 h7 => thnF h7 fun _ s8 h8 => thnF h8 fun b s9 h9 => ?_
      cases b with
      | false => exact h9
      | true => exact thnF h9 fun z s10 h10 => thnF h10 fun _ s11 h11 => h11
  exact codeAny_compStart_list loop (T.self X.A 0 _ _ _ at4 loop)
theorem lcT {pins : List (Addr × Obj)} {s : Shared} {σ : L2.St} {H : Hp} {Q : VK} {ifs : List Expr} {scope : Scope} {own : List (Str × Nat)} {at_ pos' : Pos} {wi : TI} {g : TG} {tt : TT} {te : TE} {use : Option (Value → Sem Unit)} {Qf : Value → Shared → Prop}
    (h0 : 1 ≤ s.toks) (calm : X.calm = true) (nd : X.N.Nodup) (I : Inv X pins σ H s) (hi : PI X tg iter wi) (ok : BlkOk X.N X.env.scope scope own)
    (hg : ∀ (s : Shared) (H : Hp) (C : Addr) (cl : List (Str × Addr)) (fp : List Addr), PG (X.blk s H scope (compEnvC scope cl C X.env) fp) tg g)
    (ht : ∀ (s : Shared) (H : Hp) (C : Addr) (cl : List (Str × Addr)) (fp : List Addr), PTs (X.blk s H scope (compEnvC scope cl C X.env) fp) ifs tt)
    (he : ∀ (s : Shared) (H : Hp) (C : Addr) (cl : List (Str × Addr)) (fp : List Addr), PET (X.blk s H scope (compEnvC scope cl C X.env) fp) elt te)
    (hs : ∀ x, foldedSetIterable iter X.env x = pure x) (h : tLc wi g tt te (own.map (·.2)) σ H Q)
    (out : ∀ D C s' m H', Inv X pins σ H' s' → Q (.ref D) H' → s'.heap.Ns C m → FpOk X pins H' C → compPost (model X.prog X.w) X.A X.xe use Qf (.ref D) C (.ok .next) s') :
    wpAny (model X.prog X.w) X.A (comprehension (.ListComp elt [⟨tg, iter, ifs, 0⟩] scope at_) scope X.env pos' (newList []) false (eval iter X.env) use) Qf X.xe s :=
  lcR calm nd I (fun R q => thk h0 (hi.run pins s σ H R I q) fun v s1 k1 z => ⟨k1, z⟩) ok hg ht he hs h out
theorem pet_lc {ifs : List Expr} {scope : Scope} {own : List (Str × Nat)} {wi : TI} {g : TG} {tt : TT} {te : TE} (calm : X.calm = true) (nd : X.N.Nodup) (hi : PI X tg iter wi) (ok : BlkOk X.N X.env.scope scope own)
    (hg : ∀ (s : Shared) (H : Hp) (C : Addr) (cl : List (Str × Addr)) (fp : List Addr), PG (X.blk s H scope (compEnvC scope cl C X.env) fp) tg g)
    (ht : ∀ (s : Shared) (H : Hp) (C : Addr) (cl : List (Str × Addr)) (fp : List Addr), PTs (X.blk s H scope (compEnvC scope cl C X.env) fp) ifs tt)
    (he : ∀ (s : Shared) (H : Hp) (C : Addr) (cl : List (Str × Addr)) (fp : List Addr), PET (X.blk s H scope (compEnvC scope cl C X.env) fp) elt te)
    (hs : ∀ x, foldedSetIterable iter X.env x = pure x := by intro _; rfl) : PET X (.ListComp elt [⟨tg, iter, ifs, 0⟩] scope pos) (tLc wi g tt te (own.map (·.2))) := by
  intro pins s σ H Q h0 I h
  rw [eval_ListComp]
  refine lcT h0 calm nd I hi ok hg ht he hs h fun D C s' m H' I' q hn f => ⟨m, hn, fun h'' sb => ⟨.ref D, H', ?_, rfl, q⟩⟩
  exact I'.turned (t' := s'.toks) (fun b o hb eo => (sb.2 b hb).trans eo) f.1 f.2.1 f.2.2.2.1 f.2.2.2.2.1 f.2.2.2.2.2
/-- .. the iterable gives the token out -/
theorem pe_lcX {ifs : List Expr} {scope : Scope} {own : List (Str × Nat)} {wi : TI} {g : TG} {tt : TT} {te : TE} (calm : X.calm = true) (nd : X.N.Nodup) (hi : PIX X tg iter wi) (ok : BlkOk X.N X.env.scope scope own)
    (hg : ∀ (s : Shared) (H : Hp) (C : Addr) (cl : List (Str × Addr)) (fp : List Addr), PG (X.blk s H scope (compEnvC scope cl C X.env) fp) tg g)
    (ht : ∀ (s : Shared) (H : Hp) (C : Addr) (cl : List (Str × Addr)) (fp : List Addr), PTs (X.blk s H scope (compEnvC scope cl C X.env) fp) ifs tt)
    (he : ∀ (s : Shared) (H : Hp) (C : Addr) (cl : List (Str × Addr)) (fp : List Addr), PET (X.blk s H scope (compEnvC scope cl C X.env) fp) elt te)
    (hs : ∀ x, foldedSetIterable iter X.env x = pure x := by intro _; rfl) : PE X (.ListComp elt [⟨tg, iter, ifs, 0⟩] scope pos) (tLc wi g tt te (own.map (·.2))) := by
  refine ⟨fun pins s σ H Q I h => ?_⟩
  rw [eval_ListComp]
  refine lcR calm nd I (fun R q => hi pins s σ H R I q) ok hg ht he hs h fun D C s' m H' I' q hn f => ⟨m, hn, fun h'' sb => ⟨.ref D, H', ?_, rfl, q⟩⟩
  exact I'.turned (t' := s'.toks) (fun b o hb eo => (sb.2 b hb).trans eo) f.1 f.2.1 f.2.2.2.1 f.2.2.2.2.1 f.2.2.2.2.2
/-- name = [..] on one line -/
theorem pst_setLc {i : Nat} {y : Str} {py spos : Pos} {ifs : List Expr} {scope : Scope} {own : List (Str × Nat)} {wi : TI} {g : TG} {tt : TT} {te : TE} (calm : X.calm = true) (nd : X.N.Nodup) (hy : X.N[i]? = some y) (hl : X.env.scope.names.lookup y = some .local)
    (sw : swapsWith (.ListComp elt [⟨tg, iter, ifs, 0⟩] scope pos) (some (.Name y py)) spos.line X.env = pure true) (hi : PI X tg iter wi) (ok : BlkOk X.N X.env.scope scope own)
    (hg : ∀ (s : Shared) (H : Hp) (C : Addr) (cl : List (Str × Addr)) (fp : List Addr), PG (X.blk s H scope (compEnvC scope cl C X.env) fp) tg g)
    (ht : ∀ (s : Shared) (H : Hp) (C : Addr) (cl : List (Str × Addr)) (fp : List Addr), PTs (X.blk s H scope (compEnvC scope cl C X.env) fp) ifs tt)
    (he : ∀ (s : Shared) (H : Hp) (C : Addr) (cl : List (Str × Addr)) (fp : List Addr), PET (X.blk s H scope (compEnvC scope cl C X.env) fp) elt te)
    (hs : ∀ x, foldedSetIterable iter X.env x = pure x := by intro _; rfl) : PST X (.Assign [.Name y py] (.ListComp elt [⟨tg, iter, ifs, 0⟩] scope pos) spos) (tAsg (tLc wi g tt te (own.map (·.2))) (gName i)) := by
  intro pins s σ H D h0 I h
  have h : tLc wi g tt te (own.map (·.2)) σ H (fun x H1 => gName i x σ H1 D.nx) := h
  rw [exec_Assign_Name_used _ _ _ _ sw]
  have main := lcT (at_ := pos) (pos' := firstIterPos [⟨tg, iter, ifs, 0⟩] pos) (use := some (assign (.Name y py) X.env)) (Qf := fun _ s' => SP X pins D .next s') h0 calm nd I hi ok hg ht he hs h fun L C s' m H' I' q hn f => by
    show wpAny _ _ (assign (.Name y py) X.env (.ref L)) _ _ _
    refine wpAny_assign_Name (store_ok2 (v := V.ref L) I' nd hy (.inl hl) rfl (fun s2 I2 ⟨c, same, hc⟩ => ?_) (.inr hl))
    have ne : C ≠ c := by
      rcases hc with rfl | hc
      · exact f.2.1
      · exact fun z => f.2.2.2.2.1 y c hc z.symm
    exact ⟨m, hn.sameBut same ne, fun h3 same3 => ⟨_, H', I2.turned (t' := s2.toks) (fun b o hb eo => (same3.2 b hb).trans eo) f.1 f.2.1 f.2.2.2.1 f.2.2.2.2.1 f.2.2.2.2.2, q⟩⟩
  exact wpAny_bind (wpAny_standAt (wpAny_bind (wpAny_bind (thn main fun _ s' hq => wpAny_pure (wpAny_pure hq)))))
/-- .. the iterable gives the token out -/
theorem ps_setLcX {i : Nat} {y : Str} {py spos : Pos} {ifs : List Expr} {scope : Scope} {own : List (Str × Nat)} {wi : TI} {g : TG} {tt : TT} {te : TE} (calm : X.calm = true) (nd : X.N.Nodup) (hy : X.N[i]? = some y) (hl : X.env.scope.names.lookup y = some .local)
    (sw : swapsWith (.ListComp elt [⟨tg, iter, ifs, 0⟩] scope pos) (some (.Name y py)) spos.line X.env = pure true) (hi : PIX X tg iter wi) (ok : BlkOk X.N X.env.scope scope own)
    (hg : ∀ (s : Shared) (H : Hp) (C : Addr) (cl : List (Str × Addr)) (fp : List Addr), PG (X.blk s H scope (compEnvC scope cl C X.env) fp) tg g)
    (ht : ∀ (s : Shared) (H : Hp) (C : Addr) (cl : List (Str × Addr)) (fp : List Addr), PTs (X.blk s H scope (compEnvC scope cl C X.env) fp) ifs tt)
    (he : ∀ (s : Shared) (H : Hp) (C : Addr) (cl : List (Str × Addr)) (fp : List Addr), PET (X.blk s H scope (compEnvC scope cl C X.env) fp) elt te)
    (hs : ∀ x, foldedSetIterable iter X.env x = pure x := by intro _; rfl) : PS X (.Assign [.Name y py] (.ListComp elt [⟨tg, iter, ifs, 0⟩] scope pos) spos) (tAsg (tLc wi g tt te (own.map (·.2))) (gName i)) := by
  refine ⟨fun pins s σ H D I h => ?_⟩
  have h : tLc wi g tt te (own.map (·.2)) σ H (fun x H1 => gName i x σ H1 D.nx) := h
  rw [exec_Assign_Name_used _ _ _ _ sw]
  have main := lcR (at_ := pos) (pos' := firstIterPos [⟨tg, iter, ifs, 0⟩] pos) (use := some (assign (.Name y py) X.env)) (Qf := fun _ s' => SP X pins D .next s') calm nd I (fun R q => hi pins s σ H R I q) ok hg ht he hs h fun L C s' m H' I' q hn f => by
    show wpAny _ _ (assign (.Name y py) X.env (.ref L)) _ _ _
    refine wpAny_assign_Name (store_ok2 (v := V.ref L) I' nd hy (.inl hl) rfl (fun s2 I2 ⟨c, same, hc⟩ => ?_) (.inr hl))
    have ne : C ≠ c := by
      rcases hc with rfl | hc
      · exact f.2.1
      · exact fun z => f.2.2.2.2.1 y c hc z.symm
    exact ⟨m, hn.sameBut same ne, fun h3 same3 => ⟨_, H', I2.turned (t' := s2.toks) (fun b o hb eo => (same3.2 b hb).trans eo) f.1 f.2.1 f.2.2.2.1 f.2.2.2.2.1 f.2.2.2.2.2, q⟩⟩
  exact wpAny_bind (wpAny_standAt (wpAny_bind (wpAny_bind (thn main fun _ s' hq => wpAny_pure (wpAny_pure hq)))))
/-- for, the iterable gives a token out, the body wants it -/
theorem ps_forX {body : List Stmt} {wi : TI} {g : TG} {tb : TS} (hp : PassesOwn (model X.prog X.w) X.A X.env X.xe) (calm : X.calm = true) (hi : PIX X tg iter wi) (hg : PG X tg g) (hb : PSsT X body tb)
    (hs : ∀ x, foldedSetIterable iter X.env x = pure x := by intro _; rfl) : PS X (.For tg iter body [] pos) (tFor wi g tb) := by
  refine ⟨fun pins s σ H D I h => wpAny_For (thn (hi pins s σ H _ I h) fun v s1 ⟨k1, h1⟩ => thk k1 h1 fun itv s2 k2 hx => ?_) hs⟩
  obtain ⟨it, fp, tn, J, H2, rfl, I2, T, at2, clear2, W, ⟨m0, w0⟩, turns⟩ := hx
  have clear : ∀ {H' : Hp}, (∀ b ∈ fp, H' b = none) → ∀ b ∈ fp, FpOk X pins H' b := fun no b hb => ⟨no b hb, (clear2 b hb).2⟩
  refine codeAny_forLoop_any (fun n s' => 1 ≤ s'.toks ∧ ∃ i σ' H', Inv X pins σ' H' s' ∧ tn i s'.heap ∧ (∀ b ∈ fp, H' b = none) ∧ W i n σ' H') (fun n s3 ⟨k3, i, σ3, H3, I3, at3, no3, w3⟩ => ?_) m0 ⟨k2, 0, σ, H2, I2, at2, fun b hb => (clear2 b hb).1, w0⟩
  rcases turns i n σ3 H3 w3 with ⟨stop, qn⟩ | ⟨go, N, less, step⟩
  · refine wpAny_passesOwn hp (thn (T.done X rfl rfl rfl calm i pins s3 σ3 H3 X.xe I3 (clear no3) at3 stop) fun r s4 ⟨hr, I4⟩ => ?_)
    subst hr
    exact wpAny_execs_nil ⟨σ3, H3, I4, qn⟩
  · refine wpAny_passesOwn hp (thk k3 (T.item X rfl rfl rfl calm i pins s3 σ3 H3 X.xe I3 (clear no3) at3 go) fun r s4 k4 ⟨u, hr, h4⟩ => ?_)
    subst hr
    refine wpAny_passesOwn hp (thk k4 h4 fun _ s5 k5 ⟨x, H5, I5, rx, yx, at5, no5⟩ => ?_)
    refine wpAny_passesOwn hp (thk k5 (hg.run _ s5 σ3 H5 x u _ (I5.pinned (clear no5) (T.obj _ _ at5)) rx (step x H5 yx)) fun _ s6 k6 ⟨σ6, H6, I6, q6⟩ => ?_)
    refine wpAny_passesOwn hp (thk k6 (hb _ s6 σ6 H6 _ k6 I6 q6) fun f s7 k7 q7 => ?_)
    have next : ∀ {σ7 : L2.St} {H7 : Hp}, Inv X (pins ++ pinsAt fp s5.heap) σ7 H7 s7 → N σ7 H7 → ∃ m, m < n ∧ 1 ≤ s7.toks ∧ ∃ i σ' H', Inv X pins σ' H' s7 ∧ tn i s7.heap ∧ (∀ b ∈ fp, H' b = none) ∧ W i m σ' H' := fun {σ7 H7} I7 n7 => by
      obtain ⟨m', lt, w7⟩ := less σ7 H7 n7
      have held : ∀ b ∈ fp, ∀ o, s5.heap.get? b = some o → s7.heap.get? b = some o ∧ H7 b = none := fun b hb o eo => by
        have z := I7.pin (b, o) (List.mem_append_right _ (List.mem_append_right _ (mem_pinsAt hb eo)))
        exact ⟨z.1, z.2.1⟩
      exact ⟨m', lt, k7, i + 1, σ7, H7, I7.unpinned, T.keep _ _ _ at5 fun b hb o eo => (held b hb o eo).1, fun b hb => let ⟨o, eo, _⟩ := T.obj _ _ at5 b hb; (held b hb o eo).2, w7⟩
    cases f with
    | next => obtain ⟨σ7, H7, I7, n7⟩ := q7; exact next I7 n7
    | cont => obtain ⟨σ7, H7, I7, n7⟩ := q7; exact next I7 n7
    | brk => obtain ⟨σ7, H7, I7, q7⟩ := q7; exact ⟨σ7, H7, I7.unpinned, q7⟩
    | ret v => obtain ⟨x7, σ7, H7, I7, r7, q7⟩ := q7; exact ⟨x7, σ7, H7, I7.unpinned, r7, q7⟩
end
end PL

/-! PL48: the token layer over the pure one. -/
namespace PL
open PySem PySem.Spec PyProof.Rows L2
section
variable {X : Cx} {W : WX} {g : Gc} {γ : G} {τ τ' τ1 τ2 : PS0} {σ σ' σ1 : L2.St} {H H' H1 H2 : Hp} {A : Addr → Prop} {p : Addr} {v : V} {d : D} {k k1 k2 k3 kr rk : Kd} {m m1 m2 m3 : Bool} {e e1 e2 a b c tg iter elt : Expr} {es rest : List Expr} {f fa fb fc : M D} {t u : M Bool} {fs : M (List D)} {pos : Pos} {st : Stmt} {sts sts2 : List Stmt} {h h1 h2 : SM}
abbrev JST (X : Cx) (W : WX) (rk : Kd) (st : Stmt) (f : SM) : Prop := PST X st (tSt X.g W rk f)
abbrev JBT (X : Cx) (W : WX) (rk : Kd) (st : List Stmt) (f : SM) : Prop := PSsT X st (tSt X.g W rk f)
abbrev JET (X : Cx) (W : WX) (k : Kd) (m : Bool) (e : Expr) (f : M D) : Prop := PET X e (tE X.g W k m f)
theorem jst_of (h : JS X W rk st h1) : JST X W rk st h1 := PST.of h
theorem jbt_of (h : JB X W rk sts h1) : JBT X W rk sts h1 := PSsT.of h
theorem jet_of (h : JE X W k m e f) : JET X W k m e f := fun pins s σ H Q _ I q => h.run pins s σ H Q I q
theorem jbt_cons (h1' : JST X W rk st h1) (h2' : JBT X W rk sts h2) : JBT X W rk (st :: sts) (seqS h1 h2) := PSsT.weak (psst_cons h1' h2') fun Dn σ H ⟨γ, τ, R, q⟩ => by
  rw [fitS_seq] at q
  exact ⟨γ, τ, R, q.mono (fun τ' z σ' H' R' k => tSt_go R' k z) (fun _ _ z => z) fun _ _ z => z⟩
theorem jbt_one (h1' : JST X W rk st h) : JBT X W rk [st] h := by
  refine PSsT.weak (psst_cons h1' (PSsT.of pss_nil)) fun Dn σ H ⟨γ, τ, R, q⟩ => ⟨γ, τ, R, q.mono (fun τ' z σ' H' R' k => z σ' H' R' k) (fun _ _ z => z) fun _ _ z => z⟩
theorem js_forX {h : D → PS0 → Option PS0} {ts : List Nat} {body : SM} (hp : PassesOwn (model X.prog X.w) X.A X.env X.xe) (hc : X.calm = true) (hi : PIX X tg iter (tI X.g W m fs)) (hg : JG X tg h ts) (hb : JBT X W rk sts body)
    (hs : ∀ x, foldedSetIterable iter X.env x = pure x := by intro _; rfl) : JS X W rk (.For tg iter sts [] pos) (forS fs h body) := (ps_forX hp hc hi hg hb hs).weak tSt_for
theorem jix_rangeMax {p p2 pos2 cpos : Pos} {i : Int} {j : Nat} (hc : X.calm = true) (hg : Gl X "range") (hm : X.mg "range" = none) (hg2 : Gl X "max") (hm2 : X.mg "max" = none) (hv2 : bootBuiltins "max" = some (.builtin "max")) (hb : JE X W k2 m2 b fb) (hk2 : k2 ≠ .ln := by decide)
    (he : starEach [.Constant (.int i) j cpos, b] X.env = (false, eval (.Constant (.int i) j cpos) X.env) :: starEach [b] X.env := by rfl) (he2 : starEach [b] X.env = (false, eval b X.env) :: starEach [] X.env := by rfl) (hpl : (backTo pos2 (starEach [b] X.env)).any (·.1) = false := by rfl)
    (hs : starEach [.Call (.Name "max" p2) [.Constant (.int i) j cpos, b] [] pos2] X.env = [(false, eval (.Call (.Name "max" p2) [.Constant (.int i) j cpos, b] [] pos2) X.env)] := by rfl) :
    PIX X tg (.Call (.Name "range" p) [.Call (.Name "max" p2) [.Constant (.int i) j cpos, b] [] pos2] [] pos) (tI X.g W m2 (rng1M (op2 oMax (ret (.int i)) fb))) := by
  have c1 : PEE X (.Constant (.int i) j cpos) (tE X.g W .im false (ret (.int i))) := PEE.weak pee_int fun σ H Q ⟨γ, τ, R, h⟩ => h (.int i) H (fun _ => Same.refl H) ⟨R, Kp.refl, .int i⟩
  have c2 : PEE X (.Call (.Name "max" p2) [.Constant (.int i) j cpos, b] [] pos2) (tE X.g W .im m2 (op2 oMax (ret (.int i)) fb)) := PEE.weak (pee_callB (call_max2 hc) hg2 hm2 hv2 (pae_head c1 (pa_cons hb pa_nil he2) he) (by decide) (by decide) he hpl) (tE_fn2 (m1 := false) fn_max (.inl (by decide)) (by decide))
  exact PIX.weak (pix_range1 hg hm (pae_head c2 pa_nil hs) hs) tI_rng1
theorem jst_setLc (i : Nat) {x : Str} {ifs : List Expr} {scope : Scope} {own : List (Str × Nat)} {ts : List Nat} {h : D → PS0 → Option PS0} {el : M D} {mt me : Bool} {py spos : Pos} (hc : X.calm = true) (hN : X.N.Nodup) (hy : X.N[i]? = some x) (hyl : X.env.scope.names.lookup x = some .local)
    (hsw : swapsWith (.ListComp elt [⟨tg, iter, ifs, 0⟩] scope pos) (some (.Name x py)) spos.line X.env = pure true) (hi : JI X W m tg iter fs) (ok : BlkOk X.N X.env.scope scope own)
    (hg : ∀ (s : Shared) (H : Hp) (C : Addr) (cl : List (Str × Addr)) (fp : List Addr), JG (X.blk s H scope (compEnvC scope cl C X.env) fp) tg h ts) (ht : ∀ (s : Shared) (H : Hp) (C : Addr) (cl : List (Str × Addr)) (fp : List Addr), JTs (X.blk s H scope (compEnvC scope cl C X.env) fp) W0 mt ifs t)
    (he : ∀ (s : Shared) (H : Hp) (C : Addr) (cl : List (Str × Addr)) (fp : List Addr), JET (X.blk s H scope (compEnvC scope cl C X.env) fp) W0 .im me elt el) (hts : ∀ j, j ∈ ts → j ∈ own.map (·.2) := by decide) (hs : ∀ x, foldedSetIterable iter X.env x = pure x := by intro _; rfl) :
    JST X W rk (.Assign [.Name x py] (.ListComp elt [⟨tg, iter, ifs, 0⟩] scope pos) spos) (setS i (lcE (own.map (·.2)) fs h t el)) := PST.weak (pst_setLc (g := tG X.g h ts) (tt := tT X.g W0 mt t) (te := tE X.g W0 .im me el) hc hN hy hyl hsw hi ok hg ht he hs) fun Dn σ H q =>
  asg_im (m := true) (f := lcE (own.map (·.2)) fs h t el) (fun σ H Q q => tE_lc hts σ H Q (by
    obtain ⟨γ, τ, R, q⟩ := q
    exact ⟨γ, τ, R, q.mono (fun d τ' z v H' s P => z v H' s P.toIm) fun _ _ z => z⟩)) σ H q
theorem jst_kill {f : SM} (vs : List Nat) (h : JST X W rk st f) : JST X W rk st (killS vs f) := PST.weak h fun Dn σ H ⟨γ, τ, R, q⟩ => by
  refine ⟨γ, τ, R, ?_⟩
  unfold killS at q
  cases ef : f τ with
  | stuck => rw [ef] at q; exact q.elim
  | exc n τ' => rw [ef] at q; exact q
  | ret d τ' => rw [ef] at q; exact q
  | nx τ' =>
    rw [ef] at q
    intro σ' H' R' k'
    obtain ⟨R2, k2⟩ := R'.kill vs
    exact q σ' H' R2 (k'.trans k2)
/-! ### x.replace(y, z), y and z written -/
def oRepl (y z : List Nat) : D → Option D
  | .str x => if x.length + (x.length + 1) * z.length ≤ 16777216 then some (.str (StrLaws.replL y z x)) else none
  | _ => none
theorem repl_S {x y z : List Nat} (hy : 1 ≤ y.length) : Txt.replace (S x) (S y) (S z) = S (StrLaws.replL y z x) := by
  have e : (Txt.replace (S x) (S y) (S z)).cps.toList = StrLaws.replL y z x := StrLaws.replace_list (x := S x) (y := S y) (z := S z) (by rw [S_len]; exact hy)
  rw [← e, S_of]
theorem jet_repl {y z : Str} {ly lz : List Nat} {j k' : Nat} {c0 c1 apos : Pos} (ha : JE X W k m a fa) (hy : y = S ly := by rfl) (hz : z = S lz := by rfl) (h1 : 1 ≤ ly.length := by decide) (hyz : (y == z) = false := by decide)
    (hst : starEach [.Constant (.str y) j c0, .Constant (.str z) k' c1] X.env = [(false, eval (.Constant (.str y) j c0) X.env), (false, eval (.Constant (.str z) k' c1) X.env)] := by rfl)
    (hbase : attributeBase a "replace" X.env (eval a X.env) = eval a X.env := by rfl) (hline : (apos.endLine == pos.line) = true := by rfl) :
    JET X W .im m (.Call (.Attribute a "replace" apos) [.Constant (.str y) j c0, .Constant (.str z) k' c1] [] pos) (op1 (oRepl ly lz) fa) := by
  refine PET.weak (CwR.pet_replC ha hyz hst hbase hline) fun σ H Q ⟨γ, τ, R, h⟩ => ?_
  unfold op1 at h
  rw [fit_bind] at h
  refine ⟨γ, τ, R, h.mono (fun d τ1 h v H1 s1 P1 => ?_) fun _ _ q => q⟩
  obtain ⟨w, ew, h⟩ := fit_lift.mp h
  obtain ⟨R1, kp1, v1⟩ := P1.val
  unfold oRepl at ew
  split at ew
  · split at ew
    · rename_i x hb
      cases ew
      rw [v1.l.str]
      subst hy hz
      refine ⟨S x, rfl, by rw [S_len, S_len]; exact hb, ?_⟩
      rw [repl_S h1]
      exact h _ _ s1 ⟨R1, kp1, .str _⟩
    · cases ew
  · cases ew
end
end PL

/-! PL49: x.split(y); what a written text gives out ahead of an argument or a walk. -/
namespace PL
open PySem PySem.Spec PyProof.Rows L2
section
variable {X : Cx} {W : WX} {g : Gc} {γ : G} {τ τ' τ1 τ2 : PS0} {σ σ' σ1 : L2.St} {H H' H1 H2 : Hp} {A : Addr → Prop} {p : Addr} {v : V} {d : D} {k k1 k2 k3 kr rk : Kd} {m m1 m2 m3 : Bool} {e e1 e2 a b c o tg iter elt : Expr} {es rest : List Expr} {f fa fb fc : M D} {t u : M Bool} {fs : M (List D)} {pos apos cpos : Pos} {st : Stmt} {sts sts2 : List Stmt} {h h1 h2 : SM} {j : Nat} {name : Str} {id : String} {rm : V → List V → Hp → VK → Prop}
/-! ### a text's method with a written argument gives a token out -/
theorem pee_m1 {x : Str} {to : TE} (slot : PySem.Slot "str" name id) (ty : typeOf (.builtin id) = pure (.type "method_descriptor")) (rule : MtR X id rm) (ho : PE X o to) (hs : starEach [.Constant (.str x) j cpos] X.env = [(false, eval (.Constant (.str x) j cpos) X.env)] := by rfl)
    (hbase : attributeBase o name X.env (eval o X.env) = eval o X.env := by rfl) (hline : (apos.endLine == pos.line) = true := by rfl) : PEE X (.Call (.Attribute o name apos) [.Constant (.str x) j cpos] [] pos) (tM1 rm to (tC (.str x))) := by
  intro pins s σ H Q I h
  refine PySem.Call_method1 hbase hs hline (thn (ho.run pins s σ H _ I h) fun v s1 ⟨y, H1, I1, r1, ⟨a, ea⟩, q1⟩ => ?_)
  subst ea
  obtain ⟨t, rfl⟩ := r1
  refine ⟨"str", _, F.plainAttrs_str, slot, ty, typeIs_str _ _ _, (fun _ e => nomatch e), Calls.callWith_builtin rfl (Calls.evalArgs_plain (Calls.spliced_cons (Calls.Constant_str (Calls.spliced_nil ?_))))⟩
  exact thk (s := { s1 with toks := s1.toks + 1 }) (by show 1 ≤ s1.toks + 1; omega) (rule pins { s1 with toks := s1.toks + 1 } σ H1 (.str a) [.str x] (.str a t) [.str x s1.toks] Q (I1.tok _) ⟨t, rfl⟩ (.cons ⟨_, rfl⟩ .nil) q1) fun v s2 k2 q => ⟨k2, q⟩
/-- .. a written text's method: its argument wants a token -/
theorem pe_m1T {x : Str} {te : TE} (slot : PySem.Slot "str" name id) (ty : typeOf (.builtin id) = pure (.type "method_descriptor")) (rule : MtR X id rm) (he : PET X e te) (hs : starEach [e] X.env = [(false, eval e X.env)] := by rfl)
    (hbase : attributeBase (.Constant (.str x) j cpos) name X.env (eval (.Constant (.str x) j cpos) X.env) = eval (.Constant (.str x) j cpos) X.env := by rfl) (hline : (apos.endLine == pos.line) = true := by rfl) : PE X (.Call (.Attribute (.Constant (.str x) j cpos) name apos) [e] [] pos) (tM1 rm (tC (.str x)) te) := by
  refine ⟨fun pins s σ H Q I h => PySem.Call_method1 hbase hs hline (Calls.Constant_str ?_)⟩
  have q1 : te σ H fun y H2 => rm (.str x) [y] H2 Q := h.2
  refine ⟨"str", _, F.plainAttrs_str, slot, ty, typeIs_str _ _ _, (fun _ e => nomatch e), Calls.callWith_builtin rfl (Calls.evalArgs_plain (Calls.spliced_cons ?_))⟩
  exact thn (he pins { s with toks := s.toks + 1 } σ H _ (by show 1 ≤ s.toks + 1; omega) (I.tok _) q1) fun u s2 ⟨y, H2, I2, r2, q2⟩ => Calls.spliced_nil (rule pins s2 σ H2 (.str x) [y] (.str x s.toks) [u] Q I2 ⟨_, rfl⟩ (.cons r2 .nil) q2)
theorem pix_list {tl : TE} (hl : PEE X e tl) : PIX X tg e (iList X.K tl) := by
  intro pins s σ H R I h
  refine thn (hl pins s σ H _ I h) fun v s1 ⟨hk, x, H1, I1, r1, a, ea, ⟨xs, hq⟩, q⟩ => ⟨hk, ?_⟩
  subst ea
  obtain rfl : v = Value.ref a := r1
  obtain ⟨its, rv, pl, hz⟩ := I1.list hq
  exact wpAny_pyIter_list pl.isList ⟨s1.heap.objs.size, [s1.heap.objs.size], _, _, H1, rfl, I1.kept (t' := s1.toks) fun b o e => Heap.get?_push_of_some _ e, turn_list a _, ⟨_, Heap.get?_push_size _ rfl, rfl, rfl⟩, fun b hb => by
    obtain rfl : b = s1.heap.objs.size := by simpa using hb
    exact I1.fpOk (Nat.le_refl _) (I1.hok.fresh (Nat.le_refl _)), q⟩
/-! ### split -/
def splitL (y x : List Nat) : List (List Nat) := (Txt.split (S x) (S y)).map fun s => s.cps.toList
def oSplit : D → D → Option D
  | .str x, .str y => if 0 < y.length ∧ x.length + 2 ≤ 16777216 then some (.lst ((splitL y x).map .str)) else none
  | _, _ => none
theorem rep_strs : ∀ {ys : List Str}, RepA g H A (ys.map V.str) ((ys.map fun s => s.cps.toList).map D.str)
  | [] => .nil
  | y :: ys => by
    rw [List.map_cons, List.map_cons, List.map_cons]
    refine .cons ?_ rep_strs
    have := Rep.str (g := g) (H := H) (Av := A) y.cps.toList
    rwa [S_of] at this
theorem o2_split {kr : Kd} (hkr : kr ≠ .ln) : Op2 kr g (tM1r fun x xs H Q => ∃ a b, x = .str a ∧ xs = [.str b] ∧ (b.length == 0) = false ∧ a.length + 2 ≤ sizeLine ∧ rNewStrs (Txt.split a b) H Q) oSplit := fun H A x y d e z Q hA rx ry ho q => by
  unfold oSplit at ho
  split at ho
  · split at ho
    · rename_i hz
      cases ho
      rw [rx.str, ry.str]
      refine ⟨⟨_, rfl⟩, _, _, rfl, rfl, ?_, by rw [S_len, sizeLine_eq]; exact hz.2, fun p hp => q _ _ (out_lst hkr hA rep_strs hp)⟩
      rw [S_len]
      exact beq_eq_false_iff_ne.mpr (by omega)
    · cases ho
  · cases ho
theorem je_split (ha : JE X W k1 m1 a fa) (hb : JE X W k2 m2 b fb) (hk : k1 ≠ .ln ∨ m2 = false := by first | exact .inr rfl | exact .inl (by decide)) (hkr : kr ≠ .ln := by decide)
    (hs : starEach [b] X.env = [(false, eval b X.env)] := by rfl) (hbase : attributeBase a "split" X.env (eval a X.env) = eval a X.env := by rfl) (hline : (apos.endLine == pos.line) = true := by rfl) :
    JE X W kr (m1 || m2) (.Call (.Attribute a "split" apos) [b] [] pos) (strM fa fb oSplit) :=
  je_sm1 F.slot_str_split F.type_str_split mt_split (o2_split hkr) (fun d e z h => by cases d <;> first | exact ⟨_, rfl⟩ | (unfold oSplit at h; cases h)) ha hb hk hkr hs hbase hline
/-- a list alone -/
def oIterL : D → Option (List D)
  | .lst xs => some xs
  | _ => none
def iterL (f : M D) : M (List D) := andThen f fun d => lift (oIterL d)
/-- for .. in x.split(a written text): a token is out -/
theorem jix_split {x : Str} {l : List Nat} (ha : JE X W k1 m1 a fa) (hx : x = S l := by rfl) (hs : starEach [.Constant (.str x) j cpos] X.env = [(false, eval (.Constant (.str x) j cpos) X.env)] := by rfl) (hbase : attributeBase a "split" X.env (eval a X.env) = eval a X.env := by rfl) (hline : (apos.endLine == pos.line) = true := by rfl) :
    PIX X tg (.Call (.Attribute a "split" apos) [.Constant (.str x) j cpos] [] pos) (tI X.g W m1 (iterL (strM fa (ret (.str l)) oSplit))) := by
  have c1 : ∀ σ H Q, tE X.g W .im false (ret (.str l)) σ H Q → tC (.str x) σ H Q := fun σ H Q ⟨γ, τ, R, h⟩ => h (.str x) H (fun _ => Same.refl H) ⟨R, Kp.refl, hx ▸ .str l⟩
  have e1 : PEE X (.Call (.Attribute a "split" apos) [.Constant (.str x) j cpos] [] pos) (tE X.g W .im (m1 || false) (strM fa (ret (.str l)) oSplit)) :=
    PEE.weak (pee_m1 F.slot_str_split F.type_str_split mt_split ha hs hbase hline) fun σ H Q q => by
      have z := tE_sm1 (X := X) (W := W) (k1 := k1) (m1 := m1) (k2 := .im) (m2 := false) (fa := fa) (fb := ret (.str l)) (o2_split (g := X.g) (kr := .im) (by decide)) (.inr rfl) (by decide) σ H Q q
      obtain ⟨γ, τ, R, z⟩ := z
      refine ⟨γ, τ, R, z.mono (fun d τ1 w v H1 s1 P1 => ?_) fun _ _ w => w⟩
      exact ⟨(w v H1 s1 P1).1, c1 _ _ _ (w v H1 s1 P1).2⟩
  rw [Bool.or_false] at e1
  refine PIX.weak (pix_list e1) fun σ H R ⟨γ, τ, Re, h⟩ => ?_
  unfold iterL at h
  rw [fit_bind] at h
  refine ⟨γ, τ, Re, h.mono (fun d τ1 h v H1 s1 P1 => ?_) fun _ _ q => q⟩
  obtain ⟨ds, ed, h⟩ := fit_lift.mp h
  obtain ⟨R1, kp1, r1⟩ := P1
  unfold oIterL at ed
  split at ed
  · cases ed
    cases r1 with
    | lst ha n ra => exact ⟨_, rfl, ⟨_, .inl (.inl ha)⟩, h _ H1 _ s1 R1 kp1 ⟨_, .inl ⟨ha, n⟩, ra⟩ lasts_list good_list⟩
  · cases ed
/-! ### " ".join([.. with a replace ..]), [.. with a replace .. for .. in x.split(..)] -/
theorem je_joinT {x : Str} {l : List Nat} (hb : JET X W k2 m2 b fb) (hx : x = S l := by rfl) (hk2 : k2 ≠ .ln := by decide) (hs : starEach [b] X.env = [(false, eval b X.env)] := by rfl)
    (hbase : attributeBase (.Constant (.str x) j cpos) "join" X.env (eval (.Constant (.str x) j cpos) X.env) = eval (.Constant (.str x) j cpos) X.env := by rfl) (hline : (apos.endLine == pos.line) = true := by rfl) :
    JE X W .im m2 (.Call (.Attribute (.Constant (.str x) j cpos) "join" apos) [b] [] pos) (strM (ret (.str l)) fb oJoin) :=
  (pe_m1T F.slot_str_join F.type_str_join mt_join hb hs hbase hline).weak fun σ H Q q => by
    have z := tE_sm1 (X := X) (W := W) (k1 := .im) (m1 := false) (k2 := k2) (m2 := m2) (fa := ret (.str l)) (fb := fb) (o2_join (g := X.g)) (.inl (by decide)) (by decide) σ H Q (by rw [Bool.false_or]; exact q)
    obtain ⟨γ, τ, R, z⟩ := z
    exact z (.str x) H (fun _ => Same.refl H) ⟨R, Kp.refl, hx ▸ .str l⟩
theorem jet_lc {ifs : List Expr} {scope : Scope} {own : List (Str × Nat)} {ts : List Nat} {h : D → PS0 → Option PS0} {el : M D} {mt me : Bool} (hc : X.calm = true) (hN : X.N.Nodup) (hi : JI X W m tg iter fs) (ok : BlkOk X.N X.env.scope scope own)
    (hg : ∀ (s : Shared) (H : Hp) (C : Addr) (cl : List (Str × Addr)) (fp : List Addr), JG (X.blk s H scope (compEnvC scope cl C X.env) fp) tg h ts) (ht : ∀ (s : Shared) (H : Hp) (C : Addr) (cl : List (Str × Addr)) (fp : List Addr), JTs (X.blk s H scope (compEnvC scope cl C X.env) fp) W0 mt ifs t)
    (he : ∀ (s : Shared) (H : Hp) (C : Addr) (cl : List (Str × Addr)) (fp : List Addr), JET (X.blk s H scope (compEnvC scope cl C X.env) fp) W0 .im me elt el) (hts : ∀ j, j ∈ ts → j ∈ own.map (·.2) := by decide) (hs : ∀ x, foldedSetIterable iter X.env x = pure x := by intro _; rfl) :
    JET X W .fr true (.ListComp elt [⟨tg, iter, ifs, 0⟩] scope pos) (lcE (own.map (·.2)) fs h t el) :=
  PET.weak (pet_lc (g := tG X.g h ts) (tt := tT X.g W0 mt t) (te := tE X.g W0 .im me el) hc hN hi ok hg ht he hs) (tE_lc hts)
theorem je_lcX {ifs : List Expr} {scope : Scope} {own : List (Str × Nat)} {ts : List Nat} {h : D → PS0 → Option PS0} {el : M D} {mt me : Bool} (hc : X.calm = true) (hN : X.N.Nodup) (hi : PIX X tg iter (tI X.g W m fs)) (ok : BlkOk X.N X.env.scope scope own)
    (hg : ∀ (s : Shared) (H : Hp) (C : Addr) (cl : List (Str × Addr)) (fp : List Addr), JG (X.blk s H scope (compEnvC scope cl C X.env) fp) tg h ts) (ht : ∀ (s : Shared) (H : Hp) (C : Addr) (cl : List (Str × Addr)) (fp : List Addr), JTs (X.blk s H scope (compEnvC scope cl C X.env) fp) W0 mt ifs t)
    (he : ∀ (s : Shared) (H : Hp) (C : Addr) (cl : List (Str × Addr)) (fp : List Addr), JET (X.blk s H scope (compEnvC scope cl C X.env) fp) W0 .im me elt el) (hts : ∀ j, j ∈ ts → j ∈ own.map (·.2) := by decide) (hs : ∀ x, foldedSetIterable iter X.env x = pure x := by intro _; rfl) :
    JE X W .fr true (.ListComp elt [⟨tg, iter, ifs, 0⟩] scope pos) (lcE (own.map (·.2)) fs h t el) :=
  (pe_lcX (g := tG X.g h ts) (tt := tT X.g W0 mt t) (te := tE X.g W0 .im me el) hc hN hi ok hg ht he hs).weak (tE_lc hts)
theorem js_setLcX (i : Nat) {x : Str} {ifs : List Expr} {scope : Scope} {own : List (Str × Nat)} {ts : List Nat} {h : D → PS0 → Option PS0} {el : M D} {mt me : Bool} {py spos : Pos} (hc : X.calm = true) (hN : X.N.Nodup) (hy : X.N[i]? = some x) (hyl : X.env.scope.names.lookup x = some .local)
    (hsw : swapsWith (.ListComp elt [⟨tg, iter, ifs, 0⟩] scope pos) (some (.Name x py)) spos.line X.env = pure true) (hi : PIX X tg iter (tI X.g W m fs)) (ok : BlkOk X.N X.env.scope scope own)
    (hg : ∀ (s : Shared) (H : Hp) (C : Addr) (cl : List (Str × Addr)) (fp : List Addr), JG (X.blk s H scope (compEnvC scope cl C X.env) fp) tg h ts) (ht : ∀ (s : Shared) (H : Hp) (C : Addr) (cl : List (Str × Addr)) (fp : List Addr), JTs (X.blk s H scope (compEnvC scope cl C X.env) fp) W0 mt ifs t)
    (he : ∀ (s : Shared) (H : Hp) (C : Addr) (cl : List (Str × Addr)) (fp : List Addr), JET (X.blk s H scope (compEnvC scope cl C X.env) fp) W0 .im me elt el) (hts : ∀ j, j ∈ ts → j ∈ own.map (·.2) := by decide) (hs : ∀ x, foldedSetIterable iter X.env x = pure x := by intro _; rfl) :
    JS X W rk (.Assign [.Name x py] (.ListComp elt [⟨tg, iter, ifs, 0⟩] scope pos) spos) (setS i (lcE (own.map (·.2)) fs h t el)) := (ps_setLcX (g := tG X.g h ts) (tt := tT X.g W0 mt t) (te := tE X.g W0 .im me el) hc hN hy hyl hsw hi ok hg ht he hs).weak fun Dn σ H q =>
  asg_im (m := true) (f := lcE (own.map (·.2)) fs h t el) (fun σ H Q q => tE_lc hts σ H Q (by
    obtain ⟨γ, τ, R, q⟩ := q
    exact ⟨γ, τ, R, q.mono (fun d τ' z v H' s P => z v H' s P.toIm) fun _ _ z => z⟩)) σ H q
theorem js_ownLcX (i : Nat) {x : Str} {ifs : List Expr} {scope : Scope} {own : List (Str × Nat)} {ts : List Nat} {h : D → PS0 → Option PS0} {el : M D} {mt me : Bool} {py spos : Pos} (hc : X.calm = true) (hN : X.N.Nodup) (hy : X.N[i]? = some x) (hyl : X.env.scope.names.lookup x = some .local)
    (hsw : swapsWith (.ListComp elt [⟨tg, iter, ifs, 0⟩] scope pos) (some (.Name x py)) spos.line X.env = pure true) (hi : PIX X tg iter (tI X.g W m fs)) (ok : BlkOk X.N X.env.scope scope own)
    (hg : ∀ (s : Shared) (H : Hp) (C : Addr) (cl : List (Str × Addr)) (fp : List Addr), JG (X.blk s H scope (compEnvC scope cl C X.env) fp) tg h ts) (ht : ∀ (s : Shared) (H : Hp) (C : Addr) (cl : List (Str × Addr)) (fp : List Addr), JTs (X.blk s H scope (compEnvC scope cl C X.env) fp) W0 mt ifs t)
    (he : ∀ (s : Shared) (H : Hp) (C : Addr) (cl : List (Str × Addr)) (fp : List Addr), JET (X.blk s H scope (compEnvC scope cl C X.env) fp) W0 .im me elt el) (hts : ∀ j, j ∈ ts → j ∈ own.map (·.2) := by decide) (hs : ∀ x, foldedSetIterable iter X.env x = pure x := by intro _; rfl) :
    JS X W rk (.Assign [.Name x py] (.ListComp elt [⟨tg, iter, ifs, 0⟩] scope pos) spos) (ownS i (lcE (own.map (·.2)) fs h t el)) := (ps_setLcX (g := tG X.g h ts) (tt := tT X.g W0 mt t) (te := tE X.g W0 .im me el) hc hN hy hyl hsw hi ok hg ht he hs).weak fun Dn σ H q =>
  asg_ow (m := true) (f := lcE (own.map (·.2)) fs h t el) (fun σ H Q q => tE_lc hts σ H Q q) σ H q
end
end PL

/-! PL50: x.partition(y). -/
namespace PL
open PySem PySem.Spec PyProof.Rows L2
section
variable {X : Cx} {W : WX} {g : Gc} {H : Hp} {A : Addr → Prop} {k1 k2 : Kd} {m1 m2 : Bool} {a b : Expr} {fa fb : M D} {pos apos : Pos}
def part3 (y x : List Nat) : List Nat × List Nat × List Nat := let z := Txt.partition (S x) (S y); (z.1.cps.toList, z.2.1.cps.toList, z.2.2.cps.toList)
def oPart : D → D → Option D
  | .str x, .str y => if 0 < y.length ∧ x.length ≤ 16777216 then some (.tup [.str (part3 y x).1, .str (part3 y x).2.1, .str (part3 y x).2.2]) else none
  | _, _ => none
theorem rep_Str {x : Str} : Rep g H A (.str x) (.str x.cps.toList) := by
  have := Rep.str (g := g) (H := H) (Av := A) x.cps.toList
  rwa [S_of] at this
theorem o2_part : Op2 .im g (tM1r fun x xs H Q => ∃ a b, x = .str a ∧ xs = [.str b] ∧ (b.length == 0) = false ∧ a.length ≤ sizeLine ∧
    ∀ p, H p = none → Q (.ref p) (upd H p (.tup [.str (Txt.partition a b).1, .str (Txt.partition a b).2.1, .str (Txt.partition a b).2.2]))) oPart := fun H A x y d e z Q hA rx ry ho q => by
  unfold oPart at ho
  split at ho
  · split at ho
    · rename_i hz
      cases ho
      rw [rx.str, ry.str]
      refine ⟨⟨_, rfl⟩, _, _, rfl, rfl, ?_, by rw [S_len, sizeLine_eq]; exact hz.2, fun p hp => q _ _ (out_tup hA (.cons rep_Str (.cons rep_Str (.cons rep_Str .nil))) hp)⟩
      rw [S_len]
      exact beq_eq_false_iff_ne.mpr (by omega)
    · cases ho
  · cases ho
theorem je_part (ha : JE X W k1 m1 a fa) (hb : JE X W k2 m2 b fb) (hk : k1 ≠ .ln ∨ m2 = false := by first | exact .inr rfl | exact .inl (by decide))
    (hs : starEach [b] X.env = [(false, eval b X.env)] := by rfl) (hbase : attributeBase a "partition" X.env (eval a X.env) = eval a X.env := by rfl) (hline : (apos.endLine == pos.line) = true := by rfl) :
    JE X W .im (m1 || m2) (.Call (.Attribute a "partition" apos) [b] [] pos) (strM fa fb oPart) :=
  je_sm1 F.slot_str_partition F.type_str_partition mt_partition o2_part (fun d e z h => by cases d <;> first | exact ⟨_, rfl⟩ | (unfold oPart at h; cases h)) ha hb hk (by decide) hs hbase hline
end
end PL

/-! PL51: for the while of a test all that one owns is held as fixed values (a look at it that changes nothing). -/
namespace PL
open PySem PySem.Spec PyProof.Rows L2
section
variable {X : Cx} {W : WX} {g : Gc} {γ : G} {τ τ' : PS0} {σ : L2.St} {H H' : Hp} {m : Bool} {e : Expr} {t : M Bool}
def Slot.frz : Slot → Slot
  | .ow d => .im d
  | .mu d => .im d
  | s => s
def frzAll (τ : PS0) : PS0 := τ.map Slot.frz
/-- a test over what one owns; it stays one's own -/
def lookT (t : M Bool) : M Bool := fun τ => match t (frzAll τ) with
  | .ok b _ => .ok b τ
  | _ => .stuck
theorem frz_own (s : Slot) : s.frz.isOwn = false := by cases s <;> rfl
theorem frzAll_own {a : Addr} : ¬ Own (frzAll τ) σ a := fun ⟨i, ⟨s, hs, ho⟩, _⟩ => by
  unfold frzAll at hs
  rw [List.getElem?_map] at hs
  cases e : τ[i]? with
  | none => rw [e] at hs; cases hs
  | some u =>
    rw [e] at hs
    cases hs
    rw [frz_own] at ho
    cases ho
theorem Rel.frzAll (R : Rel g γ τ σ H) : Rel g γ (PL.frzAll τ) σ H := by
  have less : Kp (Av γ τ σ) H (Av γ (PL.frzAll τ) σ) H := Kp.less fun b z => z.elim .inl fun y => (frzAll_own y).elim
  have at' : ∀ {i : Nat} {s : Slot}, (PL.frzAll τ)[i]? = some s → ∃ u, τ[i]? = some u ∧ s = u.frz := fun {i s} h => by
    unfold PL.frzAll at h
    rw [List.getElem?_map] at h
    cases e : τ[i]? with
    | none => rw [e] at h; cases h
    | some u => rw [e] at h; cases h; exact ⟨u, rfl, rfl⟩
  have put : ∀ {i : Nat} {a : Addr} {d : D} {s : Slot}, τ[i]? = some s → s.isOwn = true → σ[i]? = some (some (.ref a)) → Cont g H (Av γ τ σ) a d → Rep g H (Av γ (PL.frzAll τ) σ) (.ref a) d := fun {i a d s} h1 h2 h3 c => by
    have na : ¬ Av γ (PL.frzAll τ) σ a := fun z => z.elim (fun y => (R.pal a y).2 ⟨i, ⟨s, h1, h2⟩, h3⟩) frzAll_own
    cases c with
    | lst hH ra => exact .lst hH na (ra.kp less)
    | dK hH hk ra => exact .dK hH na hk (ra.kp less)
    | dT hH hk ra => exact .dT hH na hk (ra.kp less)
  refine ⟨by unfold PL.frzAll; rw [List.length_map]; exact R.len, fun i d h => ?_, fun i d h => ?_, fun i d h => ?_, fun i j a h1 h2 => (frzAll_own ⟨i, h1⟩).elim, fun a h => ⟨(R.pal a h).1, frzAll_own⟩⟩
  · obtain ⟨u, hu, eu⟩ := at' h
    cases u with
    | no => cases eu
    | im d' =>
      cases eu
      obtain ⟨v, e, r⟩ := R.im i d hu
      exact ⟨v, e, r.kp less⟩
    | ow d' =>
      cases eu
      obtain ⟨a, e, c⟩ := R.ow i d hu
      exact ⟨_, e, put hu rfl e c⟩
    | mu d' =>
      cases eu
      obtain ⟨e, c⟩ := R.mu i d hu
      exact ⟨_, e, put hu rfl e c⟩
  · obtain ⟨u, hu, eu⟩ := at' h
    cases u <;> cases eu
  · obtain ⟨u, hu, eu⟩ := at' h
    cases u <;> cases eu
theorem jt_look (h : JT X W m e t) : JT X W m e (lookT t) := PT.weak h fun σ H Q ⟨γ, τ, R, q⟩ => by
  refine ⟨γ, PL.frzAll τ, R.frzAll, ?_⟩
  unfold lookT at q
  cases et : t (PL.frzAll τ) with
  | stuck => rw [et] at q; exact q.elim
  | exc n τ' => rw [et] at q; exact q.elim
  | ok b τ' =>
    rw [et] at q
    intro H' hm R' k'
    have s : Same H H' := fun a o h => (k' a o h frzAll_own).1
    exact q H' (fun _ => s) (R.same s) (Same.kp s fun _ z => z)
end
end PL

/-! PM0: how the pure functions are reckoned: each word's step as an equation for simp; loops by invariants. -/
namespace PL
open PySem PySem.Spec PyProof.Rows L2

section
variable {α β : Type} {τ τ' : PS0} {i j n : Nat} {d e : D} {ds : List D} {s : Slot} {f fa fb fc : M D} {fs : M (List D)} {t u : M Bool} {x y : SM} {nm : Str}
def bM (r : Res α) (f : α → M β) : Res β := match r with
  | .ok a τ => f a τ
  | .exc n τ => .exc n τ
  | .stuck => .stuck
theorem bM_ok {a : α} {f : α → M β} : bM (.ok a τ) f = f a τ := rfl
theorem bM_exc {f : α → M β} : bM (.exc nm τ) f = .exc nm τ := rfl
def bR (r : Res α) (f : α → SM) : SR := match r with
  | .ok a τ => f a τ
  | .exc n τ => .exc n τ
  | .stuck => .stuck
theorem bR_ok {a : α} {f : α → SM} : bR (.ok a τ) f = f a τ := rfl
theorem bR_exc {f : α → SM} : bR (.exc nm τ) f = .exc nm τ := rfl
def bS (r : SR) (y : SM) : SR := match r with
  | .nx τ => y τ
  | r => r
theorem bS_nx : bS (.nx τ) y = y τ := rfl
theorem bS_ret : bS (.ret d τ) y = .ret d τ := rfl
theorem bS_exc : bS (.exc nm τ) y = .exc nm τ := rfl
def bO (o : Option α) (f : α → SR) : SR := match o with
  | some a => f a
  | none => .stuck
theorem bO_some {a : α} {f : α → SR} : bO (some a) f = f a := rfl
def bOM (o : Option α) (f : α → Res β) : Res β := match o with
  | some a => f a
  | none => .stuck
theorem bOM_some {a : α} {f : α → Res β} : bOM (some a) f = f a := rfl
def selM (b : Bool) (f g : M α) : M α := if b = true then f else g
theorem selM_t {f g : M α} : selM true f g = f := rfl
theorem selM_f {f g : M α} : selM false f g = g := rfl
def selS (b : Bool) (f g : SM) : SM := if b = true then f else g
theorem selS_t {f g : SM} : selS true f g = f := rfl
theorem selS_f {f g : SM} : selS false f g = g := rfl
def rdO (o : Option Slot) (i : Nat) (τ : PS0) : Res D := match o with
  | some (.im d) => .ok d τ
  | some (.ow d) => .ok d (τ.set i (.im d))
  | _ => .stuck
theorem rdO_im : rdO (some (.im d)) i τ = .ok d τ := rfl
theorem rdO_ow : rdO (some (.ow d)) i τ = .ok d (τ.set i (.im d)) := rfl
def lookO (o : Option Slot) (τ : PS0) : Res D := match o with
  | some (.im d) => .ok d τ
  | some (.ow d) => .ok d τ
  | some (.mu d) => .ok d τ
  | _ => .stuck
theorem lookO_im : lookO (some (.im d)) τ = .ok d τ := rfl
theorem lookO_ow : lookO (some (.ow d)) τ = .ok d τ := rfl
theorem lookO_mu : lookO (some (.mu d)) τ = .ok d τ := rfl
def moveO (o : Option Slot) (i : Nat) (τ : PS0) : Res D := match o with
  | some (.ow d) => .ok d (τ.set i .no)
  | _ => .stuck
theorem moveO_ow : moveO (some (.ow d)) i τ = .ok d (τ.set i .no) := rfl
def ownO (o : Option Slot) : Option D := match o with
  | some (.ow d) => some d
  | some (.mu d) => some d
  | _ => none
theorem ownO_ow : ownO (some (.ow d)) = some d := rfl
theorem ownO_mu : ownO (some (.mu d)) = some d := rfl
def putO (o : Option Slot) (τ : PS0) (i : Nat) (d : D) : PS0 := match o with
  | some s => τ.set i (s.put d)
  | none => τ
theorem putO_ow : putO (some (.ow e)) τ i d = τ.set i (.ow d) := rfl
theorem putO_mu : putO (some (.mu e)) τ i d = τ.set i (.mu d) := rfl
def ofDR (r : DR) : M D := fun τ => match r with
  | .ret d _ => .ok d τ
  | .exc n _ => .exc n τ
  | .stuck => .stuck
theorem ofDR_ret {o : D} : ofDR (.ret d o) τ = .ok d τ := rfl
theorem ofDR_exc {o : D} : ofDR (.exc nm o) τ = .exc nm τ := rfl
def ofDU (i : Nat) (r : DR) : M D := fun τ => match r with
  | .ret d o => .ok d (putC τ i o)
  | .exc n o => .exc n (putC τ i o)
  | .stuck => .stuck
theorem ofDU_ret {o : D} : ofDU i (.ret d o) τ = .ok d (putC τ i o) := rfl
theorem ofDU_exc {o : D} : ofDU i (.exc nm o) τ = .exc nm (putC τ i o) := rfl
def endF (rk : Kd) (r : SR) : DR := match r with
  | .nx τ => if rk = .im then .ret .non .non else .stuck
  | .ret d τ => .ret d .non
  | .exc n τ => .exc n .non
  | .stuck => .stuck
theorem endF_nx : endF .im (.nx τ) = .ret .non .non := rfl
theorem endF_ret {rk : Kd} : endF rk (.ret d τ) = .ret d .non := rfl
theorem endF_exc {rk : Kd} : endF rk (.exc nm τ) = .exc nm .non := rfl
def endU (rk : Kd) (r : SR) : DR := match r with
  | .nx τ => if rk = .im then withM .non (muP τ) else .stuck
  | .ret d τ => withM d (muP τ)
  | .exc n τ => excM n (muP τ)
  | .stuck => .stuck
theorem endU_nx : endU .im (.nx (.mu d :: τ)) = .ret .non d := rfl
theorem endU_ret {rk : Kd} : endU rk (.ret d (.mu e :: τ)) = .ret d e := rfl
theorem endU_exc {rk : Kd} : endU rk (.exc nm (.mu e :: τ)) = .exc nm e := rfl
theorem e_runF {rk : Kd} {body : SM} : runF n rk body ds = endF rk (body (ds.map .im ++ List.replicate (n - ds.length) .no)) := by
  unfold runF endF
  cases body (ds.map .im ++ List.replicate (n - ds.length) .no) <;> rfl
theorem e_runU {rk : Kd} {body : SM} {c : D} : runU n rk body (c :: ds) = endU rk (body (.mu c :: (ds.map .im ++ List.replicate (n - (ds.length + 1)) .no))) := by
  unfold runU endU
  simp only []
  all_goals (cases body (.mu c :: (ds.map .im ++ List.replicate (n - (ds.length + 1)) .no)) <;> rfl)
theorem e_bind {f : α → M β} {g : M α} : andThen g f τ = bM (g τ) f := rfl
theorem e_ret {a : α} : ret a τ = .ok a τ := rfl
theorem e_lift {a : α} : lift (some a) τ = .ok a τ := rfl
theorem e_rd : rd i τ = rdO τ[i]? i τ := by
  unfold rd rdO
  cases τ[i]? with
  | none => rfl
  | some s => cases s <;> rfl
theorem e_look : look i τ = lookO τ[i]? τ := by
  unfold look lookO
  cases τ[i]? with
  | none => rfl
  | some s => cases s <;> rfl
theorem e_move : move i τ = moveO τ[i]? i τ := by
  unfold move moveO
  cases τ[i]? with
  | none => rfl
  | some s => cases s <;> rfl
theorem e_ownC : ownC τ i = ownO τ[i]? := by
  unfold ownC ownO
  cases τ[i]? with
  | none => rfl
  | some s => cases s <;> rfl
theorem e_putC : putC τ i d = putO τ[i]? τ i d := rfl
theorem e_op2 {o : D → D → Option D} : op2 o fa fb τ = bM (fa τ) fun x => andThen fb fun y => lift (o x y) := rfl
theorem e_op1 {o : D → Option D} : op1 o fa τ = bM (fa τ) fun x => lift (o x) := rfl
theorem e_tst : tst f τ = bM (f τ) fun d => lift (asB d) := rfl
theorem e_notM : notM t τ = bM (t τ) fun b => ret (!b) := rfl
theorem e_andM : PL.andM t u τ = bM (t τ) fun b => selM b u (ret false) := rfl
theorem e_orM : PL.orM t u τ = bM (t τ) fun b => selM b (ret true) u := rfl
theorem e_notE : notE f τ = bM (tst f τ) fun b => ret (.bl (!b)) := rfl
theorem e_andE : andE fa fb τ = bM (tst fa τ) fun b => selM b fb (ret (.bl false)) := rfl
theorem e_orE : orE fa fb τ = bM (tst fa τ) fun b => selM b (ret (.bl true)) fb := rfl
theorem e_iteE : iteE t fa fb τ = bM (t τ) fun b => selM b fa fb := rfl
theorem e_chn {o o' : D → D → Option D} : chn o o' fa fb fc τ = bM (fa τ) fun x => andThen fb fun y => andThen (lift ((o x y).bind asB)) fun k => selM k (andThen fc fun z => lift (o' y z)) (ret (.bl false)) := rfl
theorem e_argN : argN τ = .ok [] τ := rfl
theorem e_argC : argC f fs τ = bM (f τ) fun d => andThen fs fun ds => ret (d :: ds) := rfl
theorem e_tupE : tupE fs τ = bM (fs τ) fun ds => lift (if ds.length ≤ 16777216 then some (.tup ds) else none) := rfl
theorem e_lstE : lstE fs τ = bM (fs τ) fun ds => lift (if ds.length ≤ 16777216 then some (.lst ds) else none) := rfl
theorem e_noP : noP τ = .ok none τ := rfl
theorem e_partM : partM f τ = bM (f τ) fun d => lift ((asI d).map some) := rfl
theorem e_sl3 {o : D → Option Int → Option Int → Option D} {fl fh : MO} : sl3 o fa fl fh τ = bM (fa τ) fun x => andThen fl fun lo => andThen fh fun hi => lift (o x lo hi) := rfl
def asStr : D → Option D
  | .str s => some (.str s)
  | _ => none
theorem asStr_str {l : List Nat} : asStr (.str l) = some (.str l) := rfl
theorem e_strM {o : D → D → Option D} : strM fa fb o τ = bM (fa τ) fun x => andThen (lift (asStr x)) fun x => andThen fb fun y => lift (o x y) := by
  unfold strM andThen bM
  cases fa τ with
  | ok a τ' => cases a <;> rfl
  | exc n τ' => rfl
  | stuck => rfl
theorem e_callF {mf : List D → DR} : callF mf fs τ = bM (fs τ) fun ds => ofDR (mf ds) := by
  unfold callF andThen bM ofDR
  cases fs τ with
  | ok a τ' => rfl
  | exc n τ' => rfl
  | stuck => rfl
theorem e_call0 {mf : List D → DR} {o : D} (h : mf [] = .ret d o) : call0 mf τ = .ok d τ := by
  unfold call0
  rw [h]
theorem e_callU {mf : List D → DR} : callU i mf fs τ = bM (fs τ) fun ds τ => bOM (ownC τ i) fun c => ofDU i (mf (c :: ds)) τ := by
  unfold callU andThen bM
  cases fs τ with
  | ok a τ' =>
    simp only []
    cases ownC τ' i with
    | none => rfl
    | some c =>
      simp only [bOM, ofDU]
      all_goals (cases mf (c :: a) <;> rfl)
  | exc n τ' => rfl
  | stuck => rfl
theorem e_useU {mf : List D → DR} : useU i mf fs τ = bOM (ownC τ i) fun _ => callU i mf fs τ := by
  unfold useU andThen
  cases e : ownC τ i <;> simp only [e] <;> rfl
theorem e_mutM {T : String} {o : OMt} : mutM T i fs o τ = bOM (ownC τ i) fun c => selM (tyOk T c) (fun τ => bM (fs τ) fun ds τ => bOM (ownC τ i) fun c => bOM (o c ds) fun p => .ok p.1 (putC τ i p.2)) (fun _ => .stuck) τ := by
  unfold mutM andThen
  cases e0 : ownC τ i with
  | none =>
    simp only [e0]
    rfl
  | some c =>
    simp only [e0, bOM, selM]
    cases tyOk T c with
    | false => rfl
    | true =>
      simp only [if_true, bM]
      cases fs τ with
      | ok ds τ1 =>
        simp only []
        cases e1 : ownC τ1 i with
        | none => rfl
        | some c1 =>
          simp only []
          cases o c1 ds <;> rfl
      | exc n τ1 => rfl
      | stuck => rfl
theorem e_skip : skip τ = .nx τ := rfl
theorem e_seqS : seqS x y τ = bS (x τ) y := by
  unfold seqS bS
  cases x τ <;> rfl
theorem e_ifS : ifS t x y τ = bR (t τ) fun b => selS b x y := by
  unfold ifS bR
  cases t τ with
  | ok b τ' => cases b <;> rfl
  | exc n τ' => rfl
  | stuck => rfl
theorem e_exprS : exprS f τ = bR (f τ) fun _ τ => .nx τ := by
  unfold exprS bR
  cases f τ <;> rfl
theorem e_retS : retS f τ = bR (f τ) fun d τ => .ret d τ := by
  unfold retS bR
  cases f τ <;> rfl
theorem e_setS : setS i f τ = bR (f τ) fun d τ => .nx (τ.set i (.im d)) := by
  unfold setS bR
  cases f τ <;> rfl
theorem e_ownS : ownS i f τ = bR (f τ) fun d τ => if i < τ.length then .nx (τ.set i (.ow d)) else .stuck := by
  unfold ownS bR
  cases f τ <;> rfl
theorem e_stIx {fv fi : M D} {o : OMt} : stIx i fv fi o τ = bR (fv τ) fun v τ => bO (ownC τ i) fun _ => bR (fi τ) fun j τ => bO (ownC τ i) fun c => bO (o c [j, v]) fun p => .nx (putC τ i p.2) := by
  unfold stIx bR
  cases fv τ with
  | ok v τ1 =>
    simp only [bO]
    cases ownC τ1 i with
    | none => rfl
    | some _ =>
      simp only []
      cases fi τ1 with
      | ok j τ2 =>
        simp only []
        cases ownC τ2 i with
        | none => rfl
        | some c =>
          simp only []
          cases o c [j, v] <;> rfl
      | exc n τ2 => rfl
      | stuck => rfl
  | exc n τ1 => rfl
  | stuck => rfl
theorem e_tgS {h : D → PS0 → Option PS0} : tgS h f τ = bR (f τ) fun d τ => bO (h d τ) fun τ => .nx τ := by
  unfold tgS bR
  cases f τ with
  | ok d τ1 =>
    simp only [bO]
    cases h d τ1 <;> rfl
  | exc n τ1 => rfl
  | stuck => rfl
theorem e_tgN : tgN i d τ = some (τ.set i (.im d)) := rfl
theorem e_tgT {hs : List D → PS0 → Option PS0} : tgT n hs (.tup ds) τ = if ds.length = n then hs ds τ else none := rfl
theorem e_tgCons {h : D → PS0 → Option PS0} {hs : List D → PS0 → Option PS0} : tgCons h hs (d :: ds) τ = (h d τ).bind (hs ds) := rfl
theorem e_tgNil : tgNil [] τ = some τ := rfl
def parK (i j : Nat) : List D → SM
  | [x, y] => fun τ1 => .nx ((τ1.set i (.im x)).set j (.im y))
  | _ => fun _ => .stuck
theorem parK_2 : parK i j [d, e] τ = .nx ((τ.set i (.im d)).set j (.im e)) := rfl
theorem e_parS : parS i j fs τ = bR (fs τ) (parK i j) := by
  unfold parS bR parK
  split <;> simp_all
theorem e_forS {h : D → PS0 → Option PS0} {body : SM} : forS fs h body τ = bR (fs τ) fun ds τ => forL h body ds τ := by
  unfold forS bR
  cases fs τ <;> rfl
theorem e_rng1M : rng1M f τ = bM (f τ) fun d => lift (oRange1 d) := rfl
theorem e_rng2M : rng2M fa fb τ = bM (fa τ) fun x => andThen fb fun y => lift (oRange2 x y) := rfl
theorem e_iterM : iterM f τ = bM (f τ) fun d => lift (oIter d) := rfl
theorem e_enumA : enumA f τ = bM (f τ) fun d => lift (oEnumA d) := rfl
theorem e_zipM : zipM fa fb τ = bM (fa τ) fun x => andThen fb fun y => lift (oZip x y) := rfl
theorem e_lcE {vs : List Nat} {h : D → PS0 → Option PS0} {t : M Bool} {el : M D} : lcE vs fs h t el τ = bM (fs τ) fun ds τ => if freeP τ vs = true then lcL vs h t el ds [] τ else .stuck := by
  unfold lcE bM
  cases fs τ <;> rfl
def freeO : Option Slot → Bool
  | some s => !s.isOwn
  | none => true
theorem freeO_no : freeO (some .no) = true := rfl
theorem freeO_im : freeO (some (.im d)) = true := rfl
theorem e_freeP1 : freeP τ [i] = freeO τ[i]? := by
  unfold freeP freeO
  rw [List.all_cons, List.all_nil, Bool.and_true]
  all_goals (cases τ[i]? <;> rfl)
theorem e_freeP2 : freeP τ [i, j] = (freeO τ[i]? && freeO τ[j]?) := by
  unfold freeP freeO
  rw [List.all_cons, List.all_cons, List.all_nil, Bool.and_true]
  all_goals (cases τ[i]? <;> cases τ[j]? <;> rfl)
theorem e_wipe1 : wipeP τ [i] = τ.set i .no := rfl
theorem e_wipe2 : wipeP τ [i, j] = (τ.set j .no).set i .no := rfl
def backO (o : Option Slot) (τb : PS0) (v : Nat) : PS0 := match o with
  | some s => τb.set v s
  | none => τb
theorem backO_s : backO (some s) τ i = τ.set i s := rfl
theorem e_back1 : backP τ τ' [i] = backO τ[i]? τ' i := by
  unfold backP backO
  cases τ[i]? <;> rfl
theorem e_back2 : backP τ τ' [i, j] = backO τ[i]? (backO τ[j]? τ' j) i := by
  unfold backP backO
  rw [show backP τ τ' [j] = backO τ[j]? τ' j from e_back1]
  unfold backO
  cases τ[i]? <;> cases τ[j]? <;> rfl
theorem o_iterL : oIter (.lst ds) = some ds := rfl
theorem o_iterF : oIter (.fz ds) = some ds := rfl
theorem o_iterT : oIter (.tup ds) = some ds := rfl
theorem o_iterM : oIter (.mt ds) = some ds := rfl
theorem o_iterS {s : List Nat} : oIter (.str s) = some (s.map fun c => .str [c]) := rfl
/-! ### what the operations tell -/
variable {a b : Int} {s z : List Nat} {xs ys : List D}
theorem o_subI : oSub (.int a) (.int b) = some (.int (a - b)) := rfl
theorem o_addI : oAdd (.int a) (.int b) = some (.int (a + b)) := rfl
theorem o_addS (h : s.length + z.length ≤ 16777216) : oAdd (.str s) (.str z) = some (.str (s ++ z)) := if_pos h
theorem o_catL (h : xs.length + ys.length ≤ 16777216) : oCat (.lst xs) (.lst ys) = some (.lst (xs ++ ys)) := if_pos h
theorem o_divI (h : 0 < b) (h2 : b.natAbs.log2 < 9000) : oDiv (.int a) (.int b) = some (.int (a / b)) := if_pos (decide_eq_true ⟨h, h2⟩)
theorem o_modI (h : 0 < b) : oMod (.int a) (.int b) = some (.int (a % b)) := if_pos (decide_eq_true h)
theorem o_mulI (h : a.natAbs.log2 + b.natAbs.log2 < 1000000) : oMulA (.int a) (.int b) = some (.int (a * b)) := if_pos h
theorem o_eqI : oEq (.int a) (.int b) = some (.bl (decide (a = b))) := by
  show some (D.bl (a == b)) = _
  rw [show (a == b) = decide (a = b) from rfl]
theorem o_neI : oNe (.int a) (.int b) = some (.bl (!decide (a = b))) := by
  show some (D.bl (!(a == b))) = _
  rw [show (a == b) = decide (a = b) from rfl]
theorem o_eqS : oEq (.str s) (.str z) = some (.bl (decide (s = z))) := by
  show some (D.bl (s == z)) = _
  rw [show (s == z) = decide (s = z) by by_cases h : s = z <;> simp [h]]
theorem o_neS : oNe (.str s) (.str z) = some (.bl (!decide (s = z))) := by
  show some (D.bl (!(s == z))) = _
  rw [show (s == z) = decide (s = z) by by_cases h : s = z <;> simp [h]]
theorem o_ltI : oLt (.int a) (.int b) = some (.bl (decide (a < b))) := rfl
theorem o_leI : oLe (.int a) (.int b) = some (.bl (decide (a ≤ b))) := rfl
theorem o_gtI : oGt (.int a) (.int b) = some (.bl (decide (b < a))) := rfl
theorem o_geI : oGe (.int a) (.int b) = some (.bl (decide (b ≤ a))) := rfl
theorem o_maxI : oMax (.int a) (.int b) = some (.int (if b > a then b else a)) := rfl
theorem o_minI : oMin (.int a) (.int b) = some (.int (if b < a then b else a)) := rfl
theorem o_lenL : oLen (.lst xs) = some (.int xs.length) := rfl
theorem o_lenF : oLen (.fz xs) = some (.int xs.length) := rfl
theorem o_lenT : oLen (.tup xs) = some (.int xs.length) := rfl
theorem o_lenS (h : s.length ≤ 16777216) : oLen (.str s) = some (.int s.length) := if_pos h
theorem o_negI : oNeg (.int a) = some (.int (-a)) := rfl
theorem o_asB {k : Bool} : asB (.bl k) = some k := rfl
theorem atI_nat' {α : Type} {xs : List α} {i : Int} (h0 : 0 ≤ i) (h1 : i < xs.length) : atI xs i = xs[i.toNat]? := by
  unfold atI ixN
  rw [if_pos h0, if_pos h1]
  rfl
theorem o_ixL (h0 : 0 ≤ a) (h1 : a < xs.length) : oIx (.lst xs) (.int a) = xs[a.toNat]? := atI_nat' h0 h1
theorem o_ixF (h0 : 0 ≤ a) (h1 : a < xs.length) : oIx (.fz xs) (.int a) = xs[a.toNat]? := atI_nat' h0 h1
theorem o_ixMt (h0 : 0 ≤ a) (h1 : a < xs.length) : oIx (.mt xs) (.int a) = xs[a.toNat]? := atI_nat' h0 h1
theorem o_ixT (h0 : 0 ≤ a) (h1 : a < xs.length) : oIx (.tup xs) (.int a) = xs[a.toNat]? := atI_nat' h0 h1
theorem o_ixS (hz : s.length ≤ 16777216) (h0 : 0 ≤ a) (h1 : a < s.length) : oIx (.str s) (.int a) = (s[a.toNat]?).map fun c => .str [c] := by
  show (if s.length ≤ 16777216 then (atI s a).map fun c => D.str [c] else none) = _
  rw [if_pos hz, atI_nat' h0 h1]
theorem o_append (h : xs.length < 16777216) : oAppend (.lst xs) [d] = some (.non, .lst (xs ++ [d])) := if_pos h
theorem o_rangeI (a : Int) (h0 : 0 ≤ a) (h : a < 2 ^ 62) : oRange1 (.int a) = some (rangeD 0 a.toNat) := by
  unfold oRange1
  exact if_pos ⟨Int.le_trans (by decide) h0, h⟩
theorem o_range (n : Nat) (h : n < 2 ^ 62) : oRange1 (.int n) = some (rangeD 0 n) := by
  have h2 : (n : Int) < 2 ^ 62 := by
    have : ((2 ^ 62 : Nat) : Int) = 2 ^ 62 := by decide
    rw [← this]
    exact Int.ofNat_lt.mpr h
  rw [o_rangeI _ (Int.natCast_nonneg n) h2, Int.toNat_natCast]
theorem o_setIx {k : Nat} (h : ixN xs.length a = some k) : oSetIx (.lst xs) [.int a, d] = some (.non, .lst (xs.set k d)) := by
  show (ixN xs.length a).map _ = _
  rw [h]
  rfl
theorem o_isiS : oIsi "str" (.str s) = some (.bl true) := rfl
theorem rangeD_get {lo : Int} {n i : Nat} (h : i < n) : (rangeD lo n)[i]? = some (.int (lo + i)) := by
  unfold rangeD
  rw [List.getElem?_map, List.getElem?_range h]
  rfl
theorem rangeD_len {lo : Int} {n : Nat} : (rangeD lo n).length = n := by
  unfold rangeD
  rw [List.length_map, List.length_range]
end
/-! ### loops -/
theorem for_run {h : D → PS0 → Option PS0} {body : SM} {R : SR → Prop} : ∀ {ds : List D} {τ : PS0} (I : Nat → PS0 → Prop), I 0 τ →
    (∀ i d τ, ds[i]? = some d → I i τ → ∃ τ1, h d τ = some τ1 ∧ ((∃ τ2, body τ1 = .nx τ2 ∧ I (i + 1) τ2) ∨ ((∀ τ2, body τ1 ≠ .nx τ2) ∧ R (body τ1)))) → (∀ τ, I ds.length τ → R (.nx τ)) → R (forL h body ds τ)
  | [], τ, I, h0, _, hf => hf τ h0
  | d :: ds, τ, I, h0, st, hf => by
    obtain ⟨τ1, e1, q⟩ := st 0 d τ rfl h0
    unfold forL
    rw [e1]
    simp only []
    rcases q with ⟨τ2, e2, q⟩ | ⟨n2, q⟩
    · rw [e2]
      exact for_run (ds := ds) (fun i => I (i + 1)) q (fun i d τ hd hI => st (i + 1) d τ hd hI) hf
    · cases e : body τ1 with
      | nx τ2 => exact absurd e (n2 τ2)
      | ret d τ2 => rw [e] at q; exact q
      | exc n τ2 => rw [e] at q; exact q
      | stuck => rw [e] at q; exact q
theorem for_list {h : D → PS0 → Option PS0} {body : SM} {ds : List D} {τ : PS0} (I : Nat → PS0 → Prop) (h0 : I 0 τ)
    (st : ∀ i d τ, ds[i]? = some d → I i τ → ∃ τ1 τ2, h d τ = some τ1 ∧ body τ1 = .nx τ2 ∧ I (i + 1) τ2) : ∃ τ', forL h body ds τ = .nx τ' ∧ I ds.length τ' :=
  for_run (R := fun r => ∃ τ', r = .nx τ' ∧ I ds.length τ') I h0 (fun i d τ hd hI => let ⟨τ1, τ2, e1, e2, q⟩ := st i d τ hd hI; ⟨τ1, e1, .inl ⟨τ2, e2, q⟩⟩) fun τ q => ⟨τ, rfl, q⟩
theorem for_range {h : D → PS0 → Option PS0} {body : SM} {lo : Int} {n : Nat} {τ : PS0} (I : Nat → PS0 → Prop) (h0 : I 0 τ)
    (st : ∀ i τ, i < n → I i τ → ∃ τ1 τ2, h (.int (lo + (i : Int))) τ = some τ1 ∧ body τ1 = .nx τ2 ∧ I (i + 1) τ2) : ∃ τ', forL h body (rangeD lo n) τ = .nx τ' ∧ I n τ' := by
  have := for_list (h := h) (body := body) (ds := rangeD lo n) I h0 fun i d τ hd hI => by
    have hi : i < n := by
      have := (List.getElem?_eq_some_iff.mp hd).1
      rwa [rangeD_len] at this
    rw [rangeD_get hi] at hd
    cases hd
    exact st i τ hi hI
  rwa [rangeD_len] at this
theorem lc_list {vs : List Nat} {h : D → PS0 → Option PS0} {t : M Bool} {el : M D} : ∀ {ds acc : List D} {τ : PS0} (I : Nat → List D → PS0 → Prop), I 0 acc τ → acc.length + ds.length ≤ 16777216 →
    (∀ i d acc τ, ds[i]? = some d → I i acc τ → ∃ τb τc, h d (wipeP τ vs) = some τb ∧ ((t τb = .ok false τc ∧ I (i + 1) acc (backP τ τc vs)) ∨ (t τb = .ok true τc ∧ ∃ y τd, el τc = .ok y τd ∧ I (i + 1) (acc ++ [y]) (backP τ τd vs)))) →
    ∃ ys τ', lcL vs h t el ds acc τ = .ok (.lst ys) τ' ∧ I ds.length ys τ'
  | [], acc, τ, I, h0, _, _ => ⟨acc, τ, rfl, h0⟩
  | d :: ds, acc, τ, I, h0, hz, st => by
    obtain ⟨τb, τc, e1, q⟩ := st 0 d acc τ rfl h0
    have hz' : acc.length + (ds.length + 1) ≤ 16777216 := hz
    unfold lcL
    rw [e1]
    simp only []
    rcases q with ⟨e2, q⟩ | ⟨e2, y, τd, e3, q⟩
    · rw [e2]
      simp only []
      exact lc_list (ds := ds) (fun i => I (i + 1)) q (by omega) fun i d acc τ hd hI => st (i + 1) d acc τ hd hI
    · rw [e2]
      simp only []
      rw [e3]
      simp only []
      rw [if_pos (show acc.length < 16777216 by omega)]
      exact lc_list (ds := ds) (fun i => I (i + 1)) q (by rw [List.length_append, List.length_singleton]; omega) fun i d acc τ hd hI => st (i + 1) d acc τ hd hI
theorem lc_map {vs : List Nat} {h : D → PS0 → Option PS0} {t : M Bool} {el : M D} {ds : List D} {τ : PS0} (f : D → D) (hz : ds.length ≤ 16777216)
    (st : ∀ d, d ∈ ds → ∃ τb τc τd, h d (wipeP τ vs) = some τb ∧ t τb = .ok true τc ∧ el τc = .ok (f d) τd ∧ backP τ τd vs = τ) : lcL vs h t el ds [] τ = .ok (.lst (ds.map f)) τ := by
  obtain ⟨ys, τ', e, e1, e2⟩ := lc_list (vs := vs) (h := h) (t := t) (el := el) (ds := ds) (acc := []) (τ := τ) (fun i acc τ' => τ' = τ ∧ acc = (ds.take i).map f) ⟨rfl, by simp⟩ (by simpa using hz) fun i d acc τ' hd hI => by
    obtain ⟨rfl, rfl⟩ := hI
    obtain ⟨τb, τc, τd, e1, e2, e3, e4⟩ := st d (List.mem_of_getElem? hd)
    refine ⟨τb, τc, e1, .inr ⟨e2, f d, τd, e3, e4, ?_⟩⟩
    rw [List.take_add_one, hd, List.map_append]
    rfl
  rw [e, e1, e2, List.take_length]
theorem lc_filter {vs : List Nat} {h : D → PS0 → Option PS0} {t : M Bool} {el : M D} {ds : List D} {τ : PS0} (p : D → Bool) (f : D → D) (hz : ds.length ≤ 16777216)
    (st : ∀ d, d ∈ ds → ∃ τb τc, h d (wipeP τ vs) = some τb ∧ t τb = .ok (p d) τc ∧ (p d = false → backP τ τc vs = τ) ∧ (p d = true → ∃ τd, el τc = .ok (f d) τd ∧ backP τ τd vs = τ)) : lcL vs h t el ds [] τ = .ok (.lst ((ds.filter p).map f)) τ := by
  obtain ⟨ys, τ', e, e1, e2⟩ := lc_list (vs := vs) (h := h) (t := t) (el := el) (ds := ds) (acc := []) (τ := τ) (fun i acc τ' => τ' = τ ∧ acc = ((ds.take i).filter p).map f) ⟨rfl, by simp⟩ (by simpa using hz) fun i d acc τ' hd hI => by
    obtain ⟨rfl, rfl⟩ := hI
    obtain ⟨τb, τc, e1, e2, e3, e4⟩ := st d (List.mem_of_getElem? hd)
    refine ⟨τb, τc, e1, ?_⟩
    have et : ds.take (i + 1) = ds.take i ++ [d] := by
      rw [List.take_add_one, hd]
      rfl
    cases hp : p d with
    | false =>
      refine .inl ⟨by rw [e2, hp], e3 hp, ?_⟩
      rw [et, List.filter_append, List.map_append]
      simp [hp]
    | true =>
      obtain ⟨τd, e5, e6⟩ := e4 hp
      refine .inr ⟨by rw [e2, hp], f d, τd, e5, e6, ?_⟩
      rw [et, List.filter_append, List.map_append]
      simp [hp]
  rw [e, e1, e2, List.take_length]
theorem o_popAt {xs : List D} {a : Int} {y : D} (h0 : 0 ≤ a) (h1 : a < 2 ^ 62) (hy : xs[a.toNat]? = some y) : oPopAt (.lst xs) [.int a] = some (y, .lst (xs.eraseIdx a.toNat)) := by
  have hl := (List.getElem?_eq_some_iff.mp hy).1
  have hs : PySem.seqIndex? a xs.length = some a.toNat := by
    unfold PySem.seqIndex?
    have e : (if a < 0 then a + xs.length else a) = a := if_neg (by omega)
    simp only [e]
    exact if_pos (by rw [decide_eq_true h0, decide_eq_true (show a < xs.length by omega)]; rfl)
  unfold oPopAt
  simp only []
  rw [if_pos ⟨by omega, by omega⟩, hs]
  simp only [Option.bind_some]
  rw [hy]
  rfl
theorem strsOf_str : ∀ ss : List (List Nat), strsOf (ss.map .str) = some ss
  | [] => rfl
  | s :: r => by
    show (strsOf (r.map .str)).map (s :: ·) = _
    rw [strsOf_str r]
    rfl
theorem joinD_nil : ∀ ss : List (List Nat), joinD [] ss = ss.flatten
  | [] => rfl
  | s :: r => by
    show r.foldl (fun acc q => acc ++ [] ++ q) s = s ++ r.flatten
    have : ∀ (r : List (List Nat)) (acc : List Nat), r.foldl (fun acc q => acc ++ [] ++ q) acc = acc ++ r.flatten := by
      intro r
      induction r with
      | nil => simp
      | cons q r ih => intro acc; simp only [List.foldl_cons, List.flatten_cons]; rw [ih]; simp
    exact this r s
theorem o_join {ss : List (List Nat)} (h : (ss.map List.length).sum ≤ 16777216) : oJoin (.str []) (.lst (ss.map .str)) = some (.str ss.flatten) := by
  unfold oJoin
  simp only []
  rw [strsOf_str]
  simp only [List.length_nil, Nat.mul_zero, Nat.add_zero]
  rw [if_pos h, joinD_nil]
theorem flatten_ones (cs : List Nat) : (cs.map fun c => [c]).flatten = cs := by
  induction cs with
  | nil => rfl
  | cons c cs ih => simp only [List.map_cons, List.flatten_cons, ih]; rfl
theorem o_joinC {cs : List Nat} (h : cs.length ≤ 16777216) : oJoin (.str []) (.lst (cs.map fun c => .str [c])) = some (.str cs) := by
  have e : (cs.map fun c => D.str [c]) = (cs.map fun c => [c]).map D.str := by rw [List.map_map]; rfl
  have hs : ((cs.map fun c => [c]).map List.length).sum = cs.length := by
    clear h e
    induction cs with
    | nil => rfl
    | cons c cs ih => simp only [List.map_cons, List.sum_cons, ih]; simp; omega
  rw [e, o_join (by rw [hs]; exact h), flatten_ones]
theorem lc_mapL {α : Type} {vs : List Nat} {h : D → PS0 → Option PS0} {t : M Bool} {el : M D} {τ : PS0} {A : List α} (k g : α → D) (hz : A.length ≤ 16777216)
    (st : ∀ a, a ∈ A → ∃ τb τc τd, h (k a) (wipeP τ vs) = some τb ∧ t τb = .ok true τc ∧ el τc = .ok (g a) τd ∧ backP τ τd vs = τ) : lcL vs h t el (A.map k) [] τ = .ok (.lst (A.map g)) τ := by
  obtain ⟨ys, τ', e, e1, e2⟩ := lc_list (vs := vs) (h := h) (t := t) (el := el) (ds := A.map k) (acc := []) (τ := τ) (fun i acc τ' => τ' = τ ∧ acc = (A.take i).map g) ⟨rfl, by simp⟩ (by simpa using hz) fun i d acc τ' hd hI => by
    obtain ⟨rfl, rfl⟩ := hI
    rw [List.getElem?_map] at hd
    cases ha : A[i]? with
    | none => rw [ha] at hd; cases hd
    | some a =>
      rw [ha] at hd
      cases hd
      obtain ⟨τb, τc, τd, e1, e2, e3, e4⟩ := st a (List.mem_of_getElem? ha)
      refine ⟨τb, τc, e1, .inr ⟨e2, g a, τd, e3, e4, ?_⟩⟩
      rw [List.take_add_one, ha, List.map_append]
      rfl
  rw [e, e1, e2, List.length_map, List.take_length]
theorem lc_filtL {α : Type} {vs : List Nat} {h : D → PS0 → Option PS0} {t : M Bool} {el : M D} {τ : PS0} {A : List α} (k g : α → D) (p : α → Bool) (hz : A.length ≤ 16777216)
    (st : ∀ a, a ∈ A → ∃ τb τc, h (k a) (wipeP τ vs) = some τb ∧ t τb = .ok (p a) τc ∧ (p a = false → backP τ τc vs = τ) ∧ (p a = true → ∃ τd, el τc = .ok (g a) τd ∧ backP τ τd vs = τ)) : lcL vs h t el (A.map k) [] τ = .ok (.lst ((A.filter p).map g)) τ := by
  obtain ⟨ys, τ', e, e1, e2⟩ := lc_list (vs := vs) (h := h) (t := t) (el := el) (ds := A.map k) (acc := []) (τ := τ) (fun i acc τ' => τ' = τ ∧ acc = ((A.take i).filter p).map g) ⟨rfl, by simp⟩ (by simpa using hz) fun i d acc τ' hd hI => by
    obtain ⟨rfl, rfl⟩ := hI
    rw [List.getElem?_map] at hd
    cases ha : A[i]? with
    | none => rw [ha] at hd; cases hd
    | some a =>
      rw [ha] at hd
      cases hd
      obtain ⟨τb, τc, e1, e2, e3, e4⟩ := st a (List.mem_of_getElem? ha)
      refine ⟨τb, τc, e1, ?_⟩
      have et : A.take (i + 1) = A.take i ++ [a] := by
        rw [List.take_add_one, ha]
        rfl
      cases hp : p a with
      | false =>
        refine .inl ⟨by rw [e2, hp], e3 hp, ?_⟩
        rw [et, List.filter_append, List.map_append]
        simp [hp]
      | true =>
        obtain ⟨τd, e5, e6⟩ := e4 hp
        refine .inr ⟨by rw [e2, hp], g a, τd, e5, e6, ?_⟩
        rw [et, List.filter_append, List.map_append]
        simp [hp]
  rw [e, e1, e2, List.length_map, List.take_length]
theorem rangeD_map {lo : Int} {n : Nat} : rangeD lo n = (List.range n).map fun (i : Nat) => D.int (lo + (i : Int)) := rfl
theorem iterS_map {s : List Nat} : oIter (.str s) = some (s.map fun c => .str [c]) := rfl
theorem o_revS {s : List Nat} (h : s.length ≤ 16777216) : oRev (.str s) = some (.str s.reverse) := if_pos h
theorem o_revL {xs : List D} : oRev (.lst xs) = some (.lst xs.reverse) := rfl
theorem plA_str {n : Nat} : ∀ {A : List (List Nat)}, (∀ s, s ∈ A → ∀ c, c ∈ s → c < 1114112) → plA n (A.map .str) = true
  | [], _ => rfl
  | s :: A, h => by
    show (pl n (.str s) && plA n (A.map .str)) = true
    rw [plA_str fun z hz => h z (List.mem_cons_of_mem _ hz), Bool.and_true]
    unfold pl
    exact List.all_eq_true.mpr fun c hc => decide_eq_true (h s List.mem_cons_self c hc)
theorem eqDA_str : ∀ {A B : List (List Nat)}, eqDA (A.map .str) (B.map .str) = decide (A = B)
  | [], [] => rfl
  | [], _ :: _ => by simp [eqDA]
  | _ :: _, [] => by simp [eqDA]
  | s :: A, z :: B => by
    show (eqD (.str s) (.str z) && eqDA (A.map .str) (B.map .str)) = _
    rw [eqDA_str]
    unfold eqD
    by_cases h1 : s = z <;> by_cases h2 : A = B <;> simp [h1, h2]
def Cps (A : List (List Nat)) : Prop := ∀ s, s ∈ A → ∀ c, c ∈ s → c < 1114112
theorem Cps.nil : Cps [] := fun _ h => nomatch h
theorem plC_lst {A : List (List Nat)} (h : Cps A) : pl 60 (.lst (A.map .str)) = true := by
  unfold pl
  exact plA_str h
theorem o_eqL {A B : List (List Nat)} (h : Cps A) (k : Cps B) : oEq (.lst (A.map .str)) (.lst (B.map .str)) = some (.bl (decide (A = B))) := by
  unfold oEq
  rw [plC_lst h, plC_lst k]
  simp only [Bool.and_self, Bool.or_true, if_true]
  rw [show eqD (.lst (A.map .str)) (.lst (B.map .str)) = decide (A = B) by unfold eqD; exact eqDA_str]
theorem o_neL {A B : List (List Nat)} (h : Cps A) (k : Cps B) : oNe (.lst (A.map .str)) (.lst (B.map .str)) = some (.bl (!decide (A = B))) := by
  unfold oNe
  rw [plC_lst h, plC_lst k]
  simp only [Bool.and_self, Bool.or_true, if_true]
  rw [show eqD (.lst (A.map .str)) (.lst (B.map .str)) = decide (A = B) by unfold eqD; exact eqDA_str]
theorem o_eqNil {A : List (List Nat)} (h : Cps A) : oEq (.lst (A.map .str)) (.lst []) = some (.bl (decide (A = []))) := o_eqL (B := []) h Cps.nil
theorem o_neNil {A : List (List Nat)} (h : Cps A) : oNe (.lst (A.map .str)) (.lst []) = some (.bl (!decide (A = []))) := o_neL (B := []) h Cps.nil
theorem le_one {a b : Nat} : oLe (.str [a]) (.str [b]) = some (.bl (decide (a ≤ b))) := by
  show some (D.bl (!decide ([b] < [a]))) = _
  have : ([b] < [a]) ↔ b < a := by
    constructor
    · intro h
      cases h with
      | rel h => exact h
      | cons h => cases h
    · intro h
      exact .rel h
  congr 2
  by_cases h : a ≤ b
  · rw [decide_eq_false (fun z => by have := this.mp z; omega), decide_eq_true h]; rfl
  · rw [decide_eq_true (this.mpr (by omega)), decide_eq_false h]; rfl
theorem lc_range {vs : List Nat} {h : D → PS0 → Option PS0} {t : M Bool} {el : M D} {τ : PS0} {n : Nat} (g : Nat → D) (hz : n ≤ 16777216)
    (st : ∀ i, i < n → ∃ τb τc τd, h (.int i) (wipeP τ vs) = some τb ∧ t τb = .ok true τc ∧ el τc = .ok (g i) τd ∧ backP τ τd vs = τ) : lcL vs h t el (rangeD 0 n) [] τ = .ok (.lst ((List.range n).map g)) τ := by
  rw [rangeD_map]
  exact lc_mapL _ g (by rw [List.length_range]; exact hz) fun i hi => by
    rw [show (0 : Int) + (i : Int) = i by omega]
    exact st i (List.mem_range.mp hi)
/-! ### errors -/
section
variable {τ : PS0} {i : Nat} {d : D} {nm : Str} {fb fs : SM} {cl : Str → Option Bool}
def sK (i : Nat) : SR → SR
  | .nx τ => .nx (τ.set i .no)
  | .ret d τ => .ret d τ
  | _ => .stuck
theorem sK_nx : sK i (.nx τ) = .nx (τ.set i .no) := rfl
theorem sK_ret : sK i (.ret d τ) = .ret d τ := rfl
def tK (i : Nat) (cl : Str → Option Bool) (fs : SM) : SR → SR
  | .exc n τ1 => (match cl n with
    | some true => sK i (fs (τ1.set i (.im (.exc n))))
    | some false => .exc n τ1
    | none => .stuck)
  | r => r
theorem tK_nx : tK i cl fs (.nx τ) = .nx τ := rfl
theorem tK_ret : tK i cl fs (.ret d τ) = .ret d τ := rfl
theorem tK_exc (h : cl nm = some true) : tK i cl fs (.exc nm τ) = sK i (fs (τ.set i (.im (.exc nm)))) := by
  unfold tK
  simp only []
  rw [h]
theorem e_tryS : tryS i cl fb fs τ = tK i cl fs (fb τ) := by
  unfold tryS
  cases fb τ with
  | exc n τ1 =>
    unfold tK
    simp only []
    cases cl n with
    | none => rfl
    | some b =>
      cases b with
      | false => rfl
      | true =>
        simp only []
        cases fs (τ1.set i (.im (.exc n))) <;> rfl
  | nx τ1 => rfl
  | ret d τ1 => rfl
  | stuck => rfl
theorem e_raiseS : raiseS nm τ = .exc nm τ := rfl
theorem o_isE {f : Str → Option Bool} : oIsE f (.exc nm) = (f nm).map .bl := rfl
theorem o_isEN {f : Str → Option Bool} : oIsE f .non = some (.bl false) := rfl
theorem o_notNN : oNotN .non .non = some (.bl false) := rfl
theorem o_notNE : oNotN (.exc nm) .non = some (.bl true) := rfl
theorem o_isNN : oIsN .non .non = some (.bl true) := rfl
theorem o_isNE : oIsN (.exc nm) .non = some (.bl false) := rfl
end
/-! ### dicts -/
theorem e_prN {τ : PS0} : prN τ = .ok [] τ := rfl
theorem e_prC {fk fv : M D} {f : M (List (D × D))} {τ : PS0} : prC fk fv f τ = bM (fk τ) fun k => andThen fv fun v => andThen f fun ps => ret ((k, v) :: ps) := rfl
theorem e_dispE {f : M (List (D × D))} {τ : PS0} : dispE f τ = bM (f τ) fun ps => lift (oDisp ps) := rfl
theorem o_addL {xs ys : List D} (h : xs.length + ys.length ≤ 16777216) : oAdd (.lst xs) (.lst ys) = some (.lst (xs ++ ys)) := if_pos h
theorem o_listS {s : List Nat} (h : s.length ≤ 16777216) : oListA (.str s) = some (.lst (s.map fun c => .str [c])) := if_pos h
theorem o_tupleS {s : List Nat} (h : s.length ≤ 16777216) : oTupleA (.str s) = some (.tup (s.map fun c => .str [c])) := if_pos h
theorem o_upper {s : List Nat} (h : s.length ≤ 5592405) : oUpper (.str s) = some (.str (Txt.upper (S s)).cps.toList) := if_pos h
theorem upper_len {s : List Nat} : (Txt.upper (S s)).cps.toList.length ≤ 3 * s.length := by
  have := PyProof.Rows.len_upper (S s)
  rw [S_len] at this
  exact this
theorem e_zipA {fa fb : M D} {τ : PS0} : zipA fa fb τ = bM (fa τ) fun x => andThen fb fun y => lift (oZipA x y) := rfl
theorem o_zipSS {x y : List Nat} : oZipA (.str x) (.str y) = some (zipD (chars x) (chars y)) := rfl
theorem o_zipSL {x : List Nat} {ys : List D} : oZipA (.str x) (.lst ys) = some (zipD (chars x) ys) := rfl
theorem o_zipLL {xs ys : List D} : oZipA (.lst xs) (.lst ys) = some (zipD xs ys) := rfl
theorem o_asI {a : Int} : asI (.int a) = some a := rfl
def ofDL (r : DR) : M D := fun τ => match r with
  | .ret d _ => if flD d = true then .ok d τ else .stuck
  | .exc n _ => .exc n τ
  | .stuck => .stuck
theorem ofDL_bl {b : Bool} {o : D} {τ : PS0} : ofDL (.ret (.bl b) o) τ = .ok (.bl b) τ := rfl
theorem ofDL_int {i : Int} {o : D} {τ : PS0} : ofDL (.ret (.int i) o) τ = .ok (.int i) τ := rfl
theorem ofDL_str {s : List Nat} {o : D} {τ : PS0} : ofDL (.ret (.str s) o) τ = .ok (.str s) τ := rfl
theorem ofDL_non {o : D} {τ : PS0} : ofDL (.ret .non o) τ = .ok .non τ := rfl
theorem ofDL_exc {n : Str} {o : D} {τ : PS0} : ofDL (.exc n o) τ = .exc n τ := rfl
theorem e_callL {mf : List D → DR} {fs : M (List D)} {τ : PS0} : callL mf fs τ = bM (fs τ) fun ds => ofDL (mf ds) := by
  unfold callL andThen bM ofDL
  cases fs τ with
  | ok a τ' => rfl
  | exc n τ' => rfl
  | stuck => rfl
end PL

/-! PM1: loops and comprehensions as equations whose state is found by unification. -/
namespace PL
open PySem PySem.Spec PyProof.Rows L2
section
variable {α β : Type} {τ τ' : PS0} {i j n : Nat} {d e : D} {ds : List D} {h : D → PS0 → Option PS0} {body f : SM} {vs : List Nat} {t : M Bool} {el : M D} {nm : Str} {A : List α} {k : α → D}
def kK (vs : List Nat) : SR → SR
  | .nx τ' => .nx (wipeP τ' vs)
  | r => r
theorem kK_nx : kK vs (.nx τ) = .nx (wipeP τ vs) := rfl
theorem kK_ret : kK vs (.ret d τ) = .ret d τ := rfl
theorem kK_exc : kK vs (.exc nm τ) = .exc nm τ := rfl
theorem e_killS : killS vs f τ = kK vs (f τ) := by
  unfold killS kK
  cases f τ <;> rfl
def kiY (vs : List Nat) (y : SM) : SM := fun τ => y (wipeP τ vs)
theorem e_kiY {y : SM} : kiY vs y τ = y (wipeP τ vs) := rfl
theorem e_bSkK {r : SR} {y : SM} : bS (kK vs r) y = bS r (kiY vs y) := by cases r <;> rfl
theorem e_wipeC {v : Nat} : wipeP τ (v :: vs) = (wipeP τ vs).set v .no := rfl
theorem e_wipeN : wipeP τ [] = τ := rfl
theorem e_backN {τb : PS0} : backP τ τb [] = τb := rfl
theorem e_backC {τb : PS0} {v : Nat} : backP τ τb (v :: vs) = backO τ[v]? (backP τ τb vs) v := by
  unfold backO
  show (match τ[v]? with | some s => (backP τ τb vs).set v s | none => backP τ τb vs) = _
  cases τ[v]? <;> rfl
/-- one turn of a loop -/
def stp (h : D → PS0 → Option PS0) (body : SM) (τ : PS0) (d : D) : SR := bO (h d τ) body
theorem e_stp : stp h body τ d = bO (h d τ) body := rfl
theorem forL_nil : forL h body [] τ = .nx τ := rfl
theorem forL_cons : forL h body (d :: ds) τ = bS (stp h body τ d) (forL h body ds) := by
  unfold stp
  show (match h d τ with | some τ1 => (match body τ1 with | .nx τ2 => forL h body ds τ2 | r => r) | none => .stuck) = _
  cases h d τ with
  | none => rfl
  | some τ1 =>
    show (match body τ1 with | .nx τ2 => forL h body ds τ2 | r => r) = bS (body τ1) _
    cases body τ1 <;> rfl
theorem for_sameD : ∀ {ds : List D}, (∀ d, d ∈ ds → stp h body τ d = .nx τ) → forL h body ds τ = .nx τ
  | [], _ => rfl
  | d :: ds, st => by
    rw [forL_cons, st d List.mem_cons_self]
    exact for_sameD fun d hd => st d (List.mem_cons_of_mem _ hd)
theorem for_same (st : ∀ a, a ∈ A → stp h body τ (k a) = .nx τ) : forL h body (A.map k) τ = .nx τ := for_sameD fun d hd => by
  obtain ⟨a, ha, rfl⟩ := List.mem_map.mp hd
  exact st a ha
theorem for_sameR {lo : Int} (st : ∀ i : Nat, i < n → stp h body τ (.int (lo + (i : Int))) = .nx τ) : forL h body (rangeD lo n) τ = .nx τ := for_same fun a ha => st a (List.mem_range.mp ha)
theorem for_stD : ∀ {ds : List D} {τ : PS0} (st : Nat → PS0), st 0 = τ → (∀ i d, ds[i]? = some d → stp h body (st i) d = .nx (st (i + 1))) → forL h body ds τ = .nx (st ds.length)
  | [], τ, st, e0, _ => by rw [← e0]; rfl
  | d :: ds, τ, st, e0, step => by
    rw [forL_cons, ← e0, step 0 d rfl]
    exact for_stD (ds := ds) (fun i => st (i + 1)) rfl fun i d hd => step (i + 1) d hd
theorem for_st (st : Nat → PS0) (e0 : st 0 = τ) (step : ∀ i a, A[i]? = some a → stp h body (st i) (k a) = .nx (st (i + 1))) : forL h body (A.map k) τ = .nx (st A.length) := by
  have := for_stD (ds := A.map k) st e0 fun i d hd => by
    rw [List.getElem?_map] at hd
    cases ha : A[i]? with
    | none => rw [ha] at hd; cases hd
    | some a => rw [ha] at hd; cases hd; exact step i a ha
  rwa [List.length_map] at this
theorem for_stR {lo : Int} (st : Nat → PS0) (e0 : st 0 = τ) (step : ∀ i, i < n → stp h body (st i) (.int (lo + (i : Int))) = .nx (st (i + 1))) : forL h body (rangeD lo n) τ = .nx (st n) := by
  have := for_stD (ds := rangeD lo n) st e0 fun i d hd => by
    have hi : i < n := by
      have := (List.getElem?_eq_some_iff.mp hd).1
      rwa [rangeD_len] at this
    rw [rangeD_get hi] at hd
    cases hd
    exact step i hi
  rwa [rangeD_len] at this
/-- slot i alone changes -/
theorem for_at (i : Nat) (F : Nat → Slot) (e0 : τ.set i (F 0) = τ) (step : ∀ n a, A[n]? = some a → stp h body (τ.set i (F n)) (k a) = .nx (τ.set i (F (n + 1)))) : forL h body (A.map k) τ = .nx (τ.set i (F A.length)) :=
  for_st (fun n => τ.set i (F n)) e0 step
theorem for_atR {lo : Int} (i : Nat) (F : Nat → Slot) (e0 : τ.set i (F 0) = τ) (step : ∀ m, m < n → stp h body (τ.set i (F m)) (.int (lo + (m : Int))) = .nx (τ.set i (F (m + 1)))) : forL h body (rangeD lo n) τ = .nx (τ.set i (F n)) :=
  for_stR (fun n => τ.set i (F n)) e0 step
/-- a fold -/
theorem for_fold (st : β → PS0) (g : β → α → β) {b : β} (e0 : st b = τ) : ∀ {A : List α}, (∀ b a, a ∈ A → stp h body (st b) (k a) = .nx (st (g b a))) → forL h body (A.map k) τ = .nx (st (A.foldl g b)) := by
  intro A step
  subst e0
  induction A generalizing b with
  | nil => rfl
  | cons a A ih =>
    rw [List.map_cons, forL_cons, step b a List.mem_cons_self]
    exact ih fun b a ha => step b a (List.mem_cons_of_mem _ ha)
/-- what is not told by an equation: a relation of one slot, of two -/
theorem for_relD : ∀ {ds : List D} {s : Slot} (i : Nat) (I : Nat → Slot → Prop), I 0 s → (∀ n d s, ds[n]? = some d → I n s → ∃ s', stp h body (τ.set i s) d = .nx (τ.set i s') ∧ I (n + 1) s') → ∃ s', forL h body ds (τ.set i s) = .nx (τ.set i s') ∧ I ds.length s'
  | [], s, i, I, h0, _ => ⟨s, rfl, h0⟩
  | d :: ds, s, i, I, h0, step => by
    obtain ⟨s', e, h1⟩ := step 0 d s rfl h0
    rw [forL_cons, e]
    exact for_relD (ds := ds) i (fun n => I (n + 1)) h1 fun n d s hd hI => step (n + 1) d s hd hI
theorem for_rel2D : ∀ {ds : List D} {s u : Slot} (i j : Nat) (I : Nat → Slot → Slot → Prop), I 0 s u → (∀ n d s u, ds[n]? = some d → I n s u → ∃ s' u', stp h body ((τ.set i s).set j u) d = .nx ((τ.set i s').set j u') ∧ I (n + 1) s' u') →
    ∃ s' u', forL h body ds ((τ.set i s).set j u) = .nx ((τ.set i s').set j u') ∧ I ds.length s' u'
  | [], s, u, i, j, I, h0, _ => ⟨s, u, rfl, h0⟩
  | d :: ds, s, u, i, j, I, h0, step => by
    obtain ⟨s', u', e, h1⟩ := step 0 d s u rfl h0
    rw [forL_cons, e]
    exact for_rel2D (ds := ds) i j (fun n => I (n + 1)) h1 fun n d s u hd hI => step (n + 1) d s u hd hI
/-- a loop that may end early -/
theorem for_ret (p : α → Bool) (z : D) : ∀ {A : List α}, (∀ a, a ∈ A → (p a = true → stp h body τ (k a) = .nx τ) ∧ (p a = false → ∃ τ2, stp h body τ (k a) = .ret z τ2)) →
    ∃ τ2, forL h body (A.map k) τ = if A.all p = true then .nx τ else .ret z τ2
  | [], _ => ⟨[], rfl⟩
  | a :: A, st => by
    rw [List.map_cons, forL_cons, List.all_cons]
    cases hp : p a with
    | true =>
      rw [(st a List.mem_cons_self).1 hp]
      obtain ⟨τ2, e⟩ := for_ret p z (A := A) fun a ha => st a (List.mem_cons_of_mem _ ha)
      exact ⟨τ2, by rw [Bool.true_and]; exact e⟩
    | false =>
      obtain ⟨τ2, e⟩ := (st a List.mem_cons_self).2 hp
      rw [e]
      exact ⟨τ2, rfl⟩
theorem for_retF {rk : Kd} {K' : SM} (p : α → Bool) (z : D) (st : ∀ a, a ∈ A → (p a = true → stp h body τ (k a) = .nx τ) ∧ (p a = false → ∃ τ2, stp h body τ (k a) = .ret z τ2)) :
    endF rk (bS (forL h body (A.map k) τ) K') = if A.all p = true then endF rk (K' τ) else .ret z .non := by
  obtain ⟨τ2, e⟩ := for_ret p z st
  rw [e]
  cases A.all p <;> rfl
/-! ### comprehensions -/
def joinC (b : Bool) (x y : Res (Option D)) : Res (Option D) := if b = true then x else y
theorem joinC_t {x y : Res (Option D)} : joinC true x y = x := rfl
theorem joinC_f {x y : Res (Option D)} : joinC false x y = y := rfl
theorem joinC_ok {b : Bool} {u v : Option D} : joinC b (.ok u τ) (.ok v τ) = .ok (if b = true then u else v) τ := by cases b <;> rfl
def lcs (vs : List Nat) (h : D → PS0 → Option PS0) (t : M Bool) (el : M D) (τ : PS0) (d : D) : Res (Option D) :=
  bOM (h d (wipeP τ vs)) fun τb => bM (t τb) fun b τ1 => joinC b (bM (el τ1) fun y τd => .ok (some y) (backP τ τd vs)) (.ok none (backP τ τ1 vs))
theorem e_lcs : lcs vs h t el τ d = bOM (h d (wipeP τ vs)) fun τb => bM (t τb) fun b τ1 => joinC b (bM (el τ1) fun y τd => .ok (some y) (backP τ τd vs)) (.ok none (backP τ τ1 vs)) := rfl
theorem lcs_some {y : D} (e : lcs vs h t el τ d = .ok (some y) τ') : ∃ τb τc τd, h d (wipeP τ vs) = some τb ∧ t τb = .ok true τc ∧ el τc = .ok y τd ∧ backP τ τd vs = τ' := by
  unfold lcs at e
  cases eh : h d (wipeP τ vs) with
  | none => rw [eh] at e; cases e
  | some τb =>
    rw [eh, bOM_some] at e
    cases et : t τb with
    | stuck => rw [et] at e; cases e
    | exc n τ1 => rw [et] at e; cases e
    | ok b τ1 =>
      rw [et, bM_ok] at e
      cases b with
      | false => rw [joinC_f] at e; cases e
      | true =>
        rw [joinC_t] at e
        cases ee : el τ1 with
        | stuck => rw [ee] at e; cases e
        | exc n τ2 => rw [ee] at e; cases e
        | ok z τd => rw [ee] at e; cases e; exact ⟨τb, τ1, τd, rfl, et, ee, rfl⟩
theorem lcs_none (e : lcs vs h t el τ d = .ok none τ') : ∃ τb τc, h d (wipeP τ vs) = some τb ∧ t τb = .ok false τc ∧ backP τ τc vs = τ' := by
  unfold lcs at e
  cases eh : h d (wipeP τ vs) with
  | none => rw [eh] at e; cases e
  | some τb =>
    rw [eh, bOM_some] at e
    cases et : t τb with
    | stuck => rw [et] at e; cases e
    | exc n τ1 => rw [et] at e; cases e
    | ok b τ1 =>
      rw [et, bM_ok] at e
      cases b with
      | false => rw [joinC_f] at e; cases e; exact ⟨τb, τ1, rfl, et, rfl⟩
      | true =>
        rw [joinC_t] at e
        cases ee : el τ1 with
        | stuck => rw [ee] at e; cases e
        | exc n τ2 => rw [ee] at e; cases e
        | ok z τd => rw [ee] at e; cases e
theorem lcL_nil {acc : List D} : lcL vs h t el [] acc τ = .ok (.lst acc) τ := rfl
theorem lcL_no {acc : List D} (e : lcs vs h t el τ d = .ok none τ') : lcL vs h t el (d :: ds) acc τ = lcL vs h t el ds acc τ' := by
  obtain ⟨τb, τc, e1, e2, e3⟩ := lcs_none e
  conv => lhs; unfold lcL
  rw [e1]
  simp only []
  rw [e2]
  simp only []
  rw [e3]
theorem lcL_yes {acc : List D} {y : D} (hz : acc.length < 16777216) (e : lcs vs h t el τ d = .ok (some y) τ') : lcL vs h t el (d :: ds) acc τ = lcL vs h t el ds (acc ++ [y]) τ' := by
  obtain ⟨τb, τc, τd, e1, e2, e3, e4⟩ := lcs_some e
  conv => lhs; unfold lcL
  rw [e1]
  simp only []
  rw [e2]
  simp only []
  rw [e3]
  simp only []
  rw [if_pos hz, e4]
theorem lc_filt (p : α → Bool) (g : α → D) (hz : A.length ≤ 16777216) (st : ∀ a, a ∈ A → lcs vs h t el τ (k a) = .ok (if p a = true then some (g a) else none) τ) : lcL vs h t el (A.map k) [] τ = .ok (.lst ((A.filter p).map g)) τ :=
  lc_filtL k g p hz fun a ha => by
    have e := st a ha
    cases hp : p a with
    | true =>
      rw [hp] at e
      obtain ⟨τb, τc, τd, e1, e2, e3, e4⟩ := lcs_some e
      exact ⟨τb, τc, e1, e2, fun z => (nomatch z), fun _ => ⟨τd, e3, e4⟩⟩
    | false =>
      rw [hp] at e
      obtain ⟨τb, τc, e1, e2, e3⟩ := lcs_none e
      exact ⟨τb, τc, e1, e2, fun _ => e3, fun z => (nomatch z)⟩
theorem lc_mp (g : α → D) (hz : A.length ≤ 16777216) (st : ∀ a, a ∈ A → lcs vs h t el τ (k a) = .ok (some (g a)) τ) : lcL vs h t el (A.map k) [] τ = .ok (.lst (A.map g)) τ :=
  lc_mapL k g hz fun a ha => by
    obtain ⟨τb, τc, τd, e1, e2, e3, e4⟩ := lcs_some (st a ha)
    exact ⟨τb, τc, τd, e1, e2, e3, e4⟩
theorem lc_mpR {lo : Int} (g : Nat → D) (hz : n ≤ 16777216) (st : ∀ i, i < n → lcs vs h t el τ (.int (lo + (i : Int))) = .ok (some (g i)) τ) : lcL vs h t el (rangeD lo n) [] τ = .ok (.lst ((List.range n).map g)) τ :=
  lc_mp g (by rw [List.length_range]; exact hz) fun a ha => st a (List.mem_range.mp ha)
theorem lc_filtR {lo : Int} (p : Nat → Bool) (g : Nat → D) (hz : n ≤ 16777216) (st : ∀ i, i < n → lcs vs h t el τ (.int (lo + (i : Int))) = .ok (if p i = true then some (g i) else none) τ) : lcL vs h t el (rangeD lo n) [] τ = .ok (.lst (((List.range n).filter p).map g)) τ :=
  lc_filt p g (by rw [List.length_range]; exact hz) fun a ha => st a (List.mem_range.mp ha)
/-- a comprehension's elements change slot i -/
theorem lc_relD : ∀ {ds acc : List D} {s : Slot} (i : Nat) (I : Nat → List D → Slot → Prop), I 0 acc s → acc.length + ds.length ≤ 16777216 →
    (∀ n d acc s, ds[n]? = some d → I n acc s → ∃ y s', lcs vs h t el (τ.set i s) d = .ok (some y) (τ.set i s') ∧ I (n + 1) (acc ++ [y]) s') → ∃ ys s', lcL vs h t el ds acc (τ.set i s) = .ok (.lst ys) (τ.set i s') ∧ I ds.length ys s'
  | [], acc, s, i, I, h0, _, _ => ⟨acc, s, rfl, h0⟩
  | d :: ds, acc, s, i, I, h0, hz, step => by
    obtain ⟨y, s', e, h1⟩ := step 0 d acc s rfl h0
    obtain ⟨τb, τc, τd, e1, e2, e3, e4⟩ := lcs_some e
    have hz' : acc.length + (ds.length + 1) ≤ 16777216 := hz
    unfold lcL
    rw [e1]
    simp only []
    rw [e2]
    simp only []
    rw [e3]
    simp only []
    rw [if_pos (show acc.length < 16777216 by omega), e4]
    exact lc_relD (ds := ds) i (fun n => I (n + 1)) h1 (by rw [List.length_append, List.length_singleton]; omega) fun n d acc s hd hI => step (n + 1) d acc s hd hI
/-! ### equality -/
mutual
theorem eqD_refl : ∀ (n : Nat) (d : D), pl n d = true → eqD d d = true
  | n, .non, _ => rfl
  | n, .bl b, _ => by unfold eqD; exact beq_self_eq_true b
  | n, .int i, _ => by unfold eqD; exact beq_self_eq_true i
  | n, .str x, _ => by unfold eqD; exact beq_self_eq_true x
  | 0, .lst xs, h => by unfold pl at h; cases h
  | n + 1, .lst xs, h => by
    unfold pl at h
    unfold eqD
    exact eqDA_refl n xs h
  | 0, .tup xs, h => by unfold pl at h; cases h
  | n + 1, .tup xs, h => by
    unfold pl at h
    unfold eqD
    exact eqDA_refl n xs h
  | n, .dK _, h => by unfold pl at h; cases h
  | n, .dT _, h => by unfold pl at h; cases h
  | n, .exc _, h => by unfold pl at h; cases h
  | n, .fz _, h => by unfold pl at h; cases h
  | n, .mt _, h => by unfold pl at h; cases h
  | n, .fk _, h => by unfold pl at h; cases h
  | n, .ft _, h => by unfold pl at h; cases h
theorem eqDA_refl : ∀ (n : Nat) (xs : List D), plA n xs = true → eqDA xs xs = true
  | n, [], _ => rfl
  | n, x :: xs, h => by
    unfold plA at h
    rw [Bool.and_eq_true] at h
    unfold eqDA
    rw [eqD_refl n x h.1, eqDA_refl n xs h.2]
    rfl
end
theorem ne_self (h : pl 60 d = true) : oNe d d = some (.bl false) := by
  unfold oNe
  rw [h, eqD_refl 60 d h]
  simp
theorem eq_self' (h : pl 60 d = true) : oEq d d = some (.bl true) := by
  unfold oEq
  rw [h, eqD_refl 60 d h]
  simp
theorem plA_map {n : Nat} {f : α → D} (h : ∀ a, a ∈ A → pl n (f a) = true) : plA n (A.map f) = true := by
  rw [plA_all]
  exact List.all_eq_true.mpr fun d hd => by
    obtain ⟨a, ha, rfl⟩ := List.mem_map.mp hd
    exact h a ha
theorem pl_lst' {n : Nat} {f : α → D} (h : ∀ a, a ∈ A → pl n (f a) = true) : pl (n + 1) (.lst (A.map f)) = true := by
  unfold pl
  exact plA_map h
theorem eqDA_map {f : α → D} [DecidableEq α] (h : ∀ a b, eqD (f a) (f b) = decide (a = b)) : ∀ {A B : List α}, eqDA (A.map f) (B.map f) = decide (A = B)
  | [], [] => rfl
  | [], _ :: _ => by simp [eqDA]
  | _ :: _, [] => by simp [eqDA]
  | a :: A, b :: B => by
    show (eqD (f a) (f b) && eqDA (A.map f) (B.map f)) = _
    rw [eqDA_map h, h]
    by_cases h1 : a = b <;> by_cases h2 : A = B <;> simp [h1, h2]
theorem rangeN : rangeD 0 n = (List.range n).map fun i : Nat => D.int (0 + (i : Int)) := rfl
theorem zadd : (0 : Int) + (n : Int) = n := Int.zero_add _
end
end PL

/-! PM2: more equations for reckoning. -/
namespace PL
open PySem PySem.Spec PyProof.Rows L2
section
variable {τ : PS0} {i n : Nat} {d e : D} {f fa fb fc : M D} {a b : Int} {xs ys : List D} {s : List Nat}
theorem o_range2 (h0 : -1000000000 ≤ a) (h1 : a ≤ 1000000000) (h2 : -1000000000 ≤ b) (h3 : b ≤ 1000000000) : oRange2 (.int a) (.int b) = some (rangeD a (b - a).toNat) := by
  unfold oRange2
  exact if_pos ⟨by omega, by omega, by omega, by omega⟩
def augO (i : Nat) (o : Option Slot) (f : M D) (τ : PS0) : SR := match o with
  | some (.im (.int a)) => bR (f τ) fun d τ1 => bO (asI d) fun b => .nx (τ1.set i (.im (.int (a + b))))
  | _ => .stuck
theorem e_augI : augI i f τ = augO i τ[i]? f τ := by
  unfold augI augO
  cases τ[i]? with
  | none => rfl
  | some s =>
    cases s with
    | im d =>
      cases d with
      | int a =>
        simp only [bR]
        cases f τ with
        | ok d τ1 => cases d <;> rfl
        | exc n τ1 => rfl
        | stuck => rfl
      | _ => rfl
    | _ => rfl
theorem augO_int : augO i (some (.im (.int a))) f τ = bR (f τ) fun d τ1 => bO (asI d) fun b => .nx (τ1.set i (.im (.int (a + b)))) := rfl
theorem o_divmod (h : 0 < b) (h2 : b < 1073741824) : oDivmod (.int a) (.int b) = some (.tup [.int (a / b), .int (a % b)]) := if_pos ⟨h, h2⟩
theorem e_getE : getE fa fb fc τ = bM (fa τ) fun x => andThen (lift (asD x)) fun es => andThen fb fun y => andThen (lift (keyD y)) fun kk => andThen fc fun z => ret ((getD' es kk).getD z) := rfl
theorem e_dixE : dixE fa fb τ = bM (fa τ) fun x => andThen fb fun y => andThen (lift (asD x)) fun es => andThen (lift (keyD y)) fun kk => lift (getD' es kk) := rfl
theorem asD_k {es : List (Key × D)} : asD (.dK es) = some es := rfl
theorem keyD_s : keyD (.str s) = some (.inr (S s)) := rfl
theorem keyD_i : keyD (.int a) = some (.inl a) := rfl
theorem o_setD {es : List (Key × D)} {k : Key} (h : es.length < 16777216) (hk : keyD e = some k) : oSetD (.dK es) [e, d] = some (.non, .dK (putD es k d)) := by
  show (if es.length < 16777216 then (keyD e).map _ else none) = _
  rw [if_pos h, hk]
  rfl
theorem log_lt' {a : Int} {k : Nat} (h0 : 0 ≤ a) (h : a < 2 ^ k) (hk : k ≠ 0) : a.natAbs.log2 < k := by
  have : a.natAbs < 2 ^ k := by
    have e : ((2 ^ k : Nat) : Int) = 2 ^ k := by norm_cast
    omega
  by_cases h : a.natAbs = 0
  · rw [h]; simp; omega
  · exact (Nat.log2_lt h).mpr this
theorem o_mulB (h0 : 0 ≤ a) (h1 : a < 2 ^ 200) (h2 : 0 ≤ b) (h3 : b < 2 ^ 200) : oMulA (.int a) (.int b) = some (.int (a * b)) := o_mulI (by
  have := log_lt' h0 h1 (by decide)
  have := log_lt' h2 h3 (by decide)
  omega)
theorem o_divB (h : 0 < b) (h2 : b < 2 ^ 200) : oDiv (.int a) (.int b) = some (.int (a / b)) := o_divI h (by
  have := log_lt' (by omega) h2 (by decide)
  omega)
theorem ix0 {x : D} {xs : List D} : oIx (.lst (x :: xs)) (.int 0) = some x := o_ixL (by decide) (by simp only [List.length_cons]; omega)
theorem ix1 {x y : D} {xs : List D} : oIx (.lst (x :: y :: xs)) (.int 1) = some y := o_ixL (by decide) (by simp only [List.length_cons]; omega)
theorem ix2 {x y z : D} {xs : List D} : oIx (.lst (x :: y :: z :: xs)) (.int 2) = some z := o_ixL (by decide) (by simp only [List.length_cons]; omega)
theorem tx0 {x : D} {xs : List D} : oIx (.tup (x :: xs)) (.int 0) = some x := o_ixT (by decide) (by simp only [List.length_cons]; omega)
theorem tx1 {x y : D} {xs : List D} : oIx (.tup (x :: y :: xs)) (.int 1) = some y := o_ixT (by decide) (by simp only [List.length_cons]; omega)
theorem tx2 {x y z : D} {xs : List D} : oIx (.tup (x :: y :: z :: xs)) (.int 2) = some z := o_ixT (by decide) (by simp only [List.length_cons]; omega)
theorem set0 {x y : D} {xs : List D} : oSetIx (.lst (x :: xs)) [.int 0, y] = some (.non, .lst (y :: xs)) := o_setIx (k := 0) (by unfold L2.ixN; rw [if_pos (by decide), if_pos (by simp only [List.length_cons]; omega)]; rfl)
theorem set2 {x y z u : D} {xs : List D} : oSetIx (.lst (x :: y :: z :: xs)) [.int 2, u] = some (.non, .lst (x :: y :: u :: xs)) := o_setIx (k := 2) (by unfold L2.ixN; rw [if_pos (by decide), if_pos (by simp only [List.length_cons]; omega)]; rfl)
theorem o_extend (h : xs.length + ys.length ≤ 16777216) : oExtend (.lst xs) [.lst ys] = some (.non, .lst (xs ++ ys)) := if_pos h
/-- of a list of ints, of texts, of one's own choice: an item by a number that is in range -/
theorem ixN_nat {n a : Nat} (h : a < n) : L2.ixN n (a : Int) = some a := by
  unfold L2.ixN
  rw [if_pos (by omega), if_pos (by omega), Int.toNat_natCast]
theorem o_ixM {α : Type} {f : α → D} {A : List α} {z : α} (h0 : 0 ≤ a) (h1 : a < A.length) : oIx (.lst (A.map f)) (.int a) = some (f (A.getD a.toNat z)) := by
  rw [o_ixL h0 (by rw [List.length_map]; exact h1), List.getElem?_map, List.getD_eq_getElem?_getD, List.getElem?_eq_getElem (show a.toNat < A.length by omega)]
  rfl
theorem o_ixC (hz : s.length ≤ 16777216) (h0 : 0 ≤ a) (h1 : a < s.length) : oIx (.str s) (.int a) = some (.str [s.getD a.toNat 0]) := by
  rw [o_ixS hz h0 h1, List.getD_eq_getElem?_getD, List.getElem?_eq_getElem (show a.toNat < s.length by omega)]
  rfl
theorem o_setM {α : Type} {f : α → D} {A : List α} {y : α} (h0 : 0 ≤ a) (h1 : a < A.length) : oSetIx (.lst (A.map f)) [.int a, f y] = some (.non, .lst ((A.set a.toNat y).map f)) := by
  rw [o_setIx (k := a.toNat) (by obtain ⟨n, rfl⟩ := Int.eq_ofNat_of_zero_le h0; rw [List.length_map, Int.toNat_natCast]; exact ixN_nat (by omega)), List.map_set]
theorem getD_in {α : Type} {A : List α} {z : α} {i : Nat} (h : i < A.length) : A.getD i z ∈ A := by
  rw [List.getD_eq_getElem?_getD, List.getElem?_eq_getElem h]
  exact List.getElem_mem h
theorem o_intB {k : Bool} : oInt (.bl k) = some (.int (if k = true then 1 else 0)) := rfl
theorem isi_lst : oIsi "list" (.lst xs) = some (.bl true) := rfl
theorem isi_tup : oIsi "tuple" (.tup xs) = some (.bl true) := rfl
theorem isi_bi : oIsi "bool" (.int a) = some (.bl false) := rfl
theorem isi_bb {k : Bool} : oIsi "bool" (.bl k) = some (.bl true) := rfl
theorem isi_ii : oIsi "int" (.int a) = some (.bl true) := rfl
theorem isi_ss : oIsi "str" (.str s) = some (.bl true) := rfl
theorem o_listL : oListA (.lst xs) = some (.lst xs) := rfl
theorem o_iterS' : oIter (.str s) = some (s.map fun c => .str [c]) := rfl
theorem o_enumL' : oEnumA (.lst xs) = some (enumD 0 xs) := rfl
theorem o_enumS' : oEnumA (.str s) = some (enumD 0 (s.map fun c => .str [c])) := rfl
theorem enum_map {α : Type} {f : α → D} {A : List α} {z : α} : enumD 0 (A.map f) = (List.range A.length).map fun (i : Nat) => D.tup [.int (i : Nat), f (A.getD i z)] := by
  apply List.ext_getElem?
  intro i
  rw [enumD_get, List.getElem?_map, List.getElem?_map]
  by_cases h : i < A.length
  · have e : A.getD i z = A[i] := by rw [List.getD_eq_getElem?_getD, List.getElem?_eq_getElem h]; rfl
    rw [List.getElem?_range h, List.getElem?_eq_getElem h]
    simp only [Option.map_some, e, Nat.zero_add]
  · rw [List.getElem?_eq_none_iff.mpr (by omega), List.getElem?_eq_none_iff.mpr (by rw [List.length_range]; omega)]
    rfl
theorem forML_same {h : D → PS0 → Option PS0} {body : SM} (e : τ[i]? = some (.mu (.lst xs))) : ∀ {ds : List D}, (∀ d, d ∈ ds → stp h body τ d = .nx τ) → forML i xs h body ds τ = .nx τ
  | [], _ => by
    unfold forML
    exact if_pos e
  | d :: ds, st => by
    unfold forML
    rw [if_pos e]
    have := st d List.mem_cons_self
    unfold stp bO at this
    cases eh : h d τ with
    | none => rw [eh] at this; cases this
    | some τ1 =>
      rw [eh] at this
      simp only [] at this ⊢
      rw [this]
      exact forML_same e fun d hd => st d (List.mem_cons_of_mem _ hd)
/-- a list of one's own is walked, nothing changes -/
theorem for_pin {h : D → PS0 → Option PS0} {body : SM} (e : τ[i]? = some (.ow (.lst xs))) (hm : τ.all noMu = true) (st : ∀ d, d ∈ xs → stp h body (τ.set i (.mu (.lst xs))) d = .nx (τ.set i (.mu (.lst xs)))) : pinS i (forM i h body) τ = .nx τ := by
  have hl : i < τ.length := (List.getElem?_eq_some_iff.mp e).1
  have e1 : (τ.set i (.mu (.lst xs)))[i]? = some (.mu (.lst xs)) := List.getElem?_set_self hl
  have es : (τ.set i (.mu (.lst xs))).set i (.ow (.lst xs)) = τ := by
    rw [List.set_set]
    apply List.ext_getElem?
    intro j
    by_cases hj : j = i
    · subst hj
      rw [List.getElem?_set_self hl, e]
    · rw [List.getElem?_set_ne (Ne.symm hj)]
  unfold pinS
  rw [e]
  simp only []
  rw [if_pos hm]
  unfold forM
  rw [e1]
  simp only []
  rw [forML_same e1 st]
  unfold unpin unpinP
  simp only []
  rw [e1]
  simp only []
  rw [es, if_pos hm]
theorem o_mulS {n : Int} (h0 : 0 ≤ n) (h1 : n ≤ 1000000) (h2 : s.length * n.toNat ≤ 16777216) : oMulA (.str s) (.int n) = some (.str (repD n.toNat s)) := by
  unfold oMulA
  exact if_pos ⟨by omega, by omega, h2⟩
theorem e_lmM {o : D → D → Option D} : lmM fa fb o τ = bM (fa τ) fun x => andThen (lift (asL x)) fun _ => andThen fb fun y => lift (o x y) := rfl
theorem e_tixE {ss : List (List Nat)} : tixE ss fb τ = bM (fb τ) fun y => lift (oTix ss y) := rfl
theorem asL_l : asL (.lst xs) = some () := rfl
theorem one_eq {x y : Nat} : ([x] = [y]) = (x = y) := by simp
theorem s_eq {x y : Nat} : oEq (.str [x]) (.str [y]) = some (.bl (decide (x = y))) := by
  rw [o_eqS]
  simp
theorem s_ne {x y : Nat} : oNe (.str [x]) (.str [y]) = some (.bl (!decide (x = y))) := by
  rw [o_neS]
  simp
theorem e_tgL {hs : List D → PS0 → Option PS0} : tgL n hs (.lst xs) τ = if xs.length = n then hs xs τ else none := rfl
theorem eqE_nil : oEqE (.lst xs) (.lst []) = some (.bl xs.isEmpty) := by
  cases xs with
  | nil => rfl
  | cons x xs => rfl
theorem neE_nil : oNeE (.lst xs) (.lst []) = some (.bl !xs.isEmpty) := by
  cases xs with
  | nil => rfl
  | cons x xs => rfl
theorem e_strX : strX f τ = bM (f τ) fun d => lift (match d with | .str s => some (.str s) | _ => none) := rfl
theorem e_rng3A {fs : M (List D)} : rng3A fs τ = bM (fs τ) fun ds => lift (oRange3 ds) := rfl
theorem e_freeP3 {i j k : Nat} : freeP τ [i, j, k] = (freeO τ[i]? && (freeO τ[j]? && freeO τ[k]?)) := by
  unfold freeP freeO
  rw [List.all_cons, List.all_cons, List.all_cons, List.all_nil, Bool.and_true]
  all_goals (cases τ[i]? <;> cases τ[j]? <;> cases τ[k]? <;> rfl)
def kF (i : Nat) : SR → SR
  | .nx τ' => bO (frzO i τ') fun τ2 => .nx τ2
  | r => r
theorem e_frzS {f : SM} : frzS i f τ = kF i (f τ) := by
  unfold frzS kF bO
  cases f τ with
  | nx τ' =>
    simp only []
    generalize frzO i τ' = o
    cases o <;> rfl
  | _ => rfl
theorem kF_nx : kF i (.nx τ) = bO (frzO i τ) fun τ2 => .nx τ2 := rfl
def fO (i : Nat) (τ : PS0) : Option Slot → Option PS0
  | some (.ow d) => some (τ.set i (.im d))
  | _ => none
theorem e_frzO : frzO i τ = fO i τ τ[i]? := by
  unfold frzO fO
  cases τ[i]? with
  | none => rfl
  | some s => cases s <;> rfl
theorem fO_ow : fO i τ (some (.ow d)) = some (τ.set i (.im d)) := rfl
end
/-! ### locked dicts -/
section
variable {i : Nat} {τ : PS0} {r : SR} {es : List (Key × D)} {ts : List (List Key × D)} {f fa fb fc : M D} {d : D}
def kL (i : Nat) (r : SR) : SR := match r with
  | .nx τ' => bO (lckO i τ') fun τ2 => .nx τ2
  | r => r
theorem e_lckS {f : SM} : lckS i f τ = kL i (f τ) := by
  unfold lckS kL bO
  cases f τ with
  | nx τ' =>
    simp only []
    generalize lckO i τ' = o
    cases o <;> rfl
  | _ => rfl
theorem kL_nx : kL i (.nx τ) = bO (lckO i τ) fun τ2 => .nx τ2 := rfl
def lO (i : Nat) (τ : PS0) : Option Slot → Option PS0
  | some (.ow d) => (lckD d).map fun e => τ.set i (.im e)
  | _ => none
theorem e_lckO : lckO i τ = lO i τ τ[i]? := by
  unfold lckO lO
  cases τ[i]? with
  | none => rfl
  | some s => cases s <;> rfl
theorem lO_k : lO i τ (some (.ow (.dK es))) = some (τ.set i (.im (.fk es))) := rfl
theorem lO_t : lO i τ (some (.ow (.dT ts))) = some (τ.set i (.im (.ft ts))) := rfl
theorem e_iterK : iterK f τ = bM (f τ) fun d => lift (oIterK d) := rfl
theorem o_iterKk : oIterK (.fk es) = some (es.map fun kv => keyO kv.1) := rfl
theorem o_iterKt : oIterK (.ft ts) = some (ts.map fun kv => .tup (kv.1.map keyO)) := rfl
theorem e_getA : getA fa fb fc τ = bM (fa τ) fun x => andThen (lift (isDct x)) fun _ => andThen fb fun y => andThen fc fun z => lift ((oGetA x y).map fun r => r.getD z) := rfl
theorem e_dixA : dixA fa fb τ = bM (fa τ) fun x => andThen fb fun y => lift ((oGetA x y).bind id) := rfl
theorem e_iterL : iterL f τ = bM (f τ) fun d => lift (oIterL d) := rfl
theorem isDct_k : isDct (.dK es) = some () := rfl
theorem isDct_t : isDct (.dT ts) = some () := rfl
theorem isDct_fk : isDct (.fk es) = some () := rfl
theorem isDct_ft : isDct (.ft ts) = some () := rfl
theorem oGetA_k : oGetA (.dK es) d = (keyD d).map (getD' es) := rfl
theorem oGetA_fk : oGetA (.fk es) d = (keyD d).map (getD' es) := rfl
theorem oGetA_t : oGetA (.dT ts) d = (keyT d).map (getT ts) := rfl
theorem oGetA_ft : oGetA (.ft ts) d = (keyT d).map (getT ts) := rfl
end
/-! ### tests over what one owns -/
section
variable {τ τ' : PS0} {t : M Bool} {b : Bool} {s : Slot} {d : D} {xs : List D} {n : Int}
def lookR (τ : PS0) : Res Bool → Res Bool
  | .ok b _ => .ok b τ
  | _ => .stuck
theorem e_lookT : lookT t τ = lookR τ (t (frzAll τ)) := by
  unfold lookT lookR
  cases t (frzAll τ) <;> rfl
theorem lookR_ok : lookR τ (.ok b τ') = .ok b τ := rfl
theorem frzA_c : frzAll (s :: τ) = s.frz :: frzAll τ := rfl
theorem frzA_n : frzAll [] = [] := rfl
theorem frz_im' : Slot.frz (.im d) = .im d := rfl
theorem frz_ow' : Slot.frz (.ow d) = .im d := rfl
theorem frz_mu' : Slot.frz (.mu d) = .im d := rfl
theorem frz_no' : Slot.frz .no = .no := rfl
theorem o_mulL (h0 : 0 ≤ n) (h1 : n ≤ 1000000) (h2 : xs.length * n.toNat ≤ 16777216) : oMulA (.lst xs) (.int n) = some (.lst (repD n.toNat xs)) := by
  unfold oMulA
  exact if_pos ⟨by omega, by omega, h2⟩
end
end PL

namespace Q
open PL
open PySem (Str)
noncomputable section
abbrev K_MOST_ROWS : D := .int 40
abbrev K_PER_CENT : D := .int 37
abbrev T_b8bce6 : List Nat := [33, 34, 35, 36, 38, 39, 40, 41, 42, 43, 44, 45, 46, 48, 49, 50, 51, 52, 53, 54, 55, 56, 57, 58, 59, 60, 61, 62, 64, 65, 66, 67, 68, 69, 70, 71, 72, 73, 74, 75, 76, 77, 78, 79, 80, 81, 82, 83, 84, 85, 86, 87, 88, 89, 90, 91, 92, 93, 94, 95, 96, 97, 98, 99, 100, 101, 102, 103, 104, 105, 106, 107, 108, 109, 110, 111, 112, 113, 114, 115, 116, 117, 118, 119, 120, 121, 122, 123, 124, 125, 126]
abbrev T_ba0001 : List Nat := [33, 34, 35, 36, 38, 39, 40, 41, 42, 43, 44, 45, 46, 47, 48, 49, 50, 51, 52, 53, 54, 55, 56, 57, 58, 59, 60, 61, 62, 64]
abbrev T_3e6ac1 : List Nat := [65, 66, 67, 68, 69, 70, 71, 72, 73, 74, 75, 76, 77, 78, 79, 80, 81, 82, 83, 84, 85, 86, 87, 88, 89, 90, 91, 92, 93, 94, 95, 96, 97, 98, 99, 100, 101, 102, 103, 104, 105, 106, 107, 108, 109, 110, 111, 112, 113, 114, 115, 116, 117, 118, 119, 120, 121, 122, 123, 124, 125, 126]
abbrev N_is_row : List Str := ["thing", "sign"]
def b_is_row : SM := (seqS (ifS (orM (notM (tst (op1 (oIsi "str") (rd 0)))) (tst (op2 oEq (rd 0) (ret (.str []))))) (retS (ret (.bl false))) skip) (retS (op2 oEq (lcE [1] (iterM (rd 0)) (tgN 1) (orM (notM (tst (chn oLe oLe (ret (.str [33])) (rd 1) (ret (.str [126]))))) (tst (op2 oEq (op1 oOrd (rd 1)) (ret K_PER_CENT)))) (rd 1)) (lstE argN))))
def m_is_row : List D → DR := runF 2 .im b_is_row
abbrev N__law_pool : List Str := ["script", "k", "cell"]
def b__law_pool : SM := (seqS (setS 2 (ret (.int 0))) (seqS (killS [0] (ifS (tst (op2 oLt (rd 1) (op1 oLen (rd 0)))) (killS [0] (setS 2 (op2 oIx (rd 0) (rd 1)))) skip)) (retS (lstE (argC (rd 2) (argC (op1 oInt (op2 oGe (rd 2) (op2 oPow (ret (.int 10)) (ret (.int 18))))) (argC (op2 oMulA (ret (.int 37)) (rd 1)) argN)))))))
def m__law_pool : List D → DR := runF 3 .fr b__law_pool
abbrev N__law_draw : List Str := ["pool", "many", "x", "found"]
def b__law_draw : SM := (seqS (killS [3] (ifS (tst (op2 oEq (op2 oIx (look 0) (ret (.int 1))) (ret (.int 1)))) (seqS (setS 3 (op2 oMod (op2 oIx (look 0) (ret (.int 0))) (rd 1))) (seqS (killS [1] (stIx 0 (op2 oDiv (op2 oIx (look 0) (ret (.int 0))) (rd 1)) (ret (.int 0)) oSetIx)) (retS (rd 3)))) skip)) (seqS (stIx 0 (op2 oAdd (op2 oIx (look 0) (ret (.int 2))) (ret (.int 1))) (ret (.int 2)) oSetIx) (seqS (setS 2 (op2 oMod (op2 oAdd (op2 oMod (op2 oIx (look 0) (ret (.int 0))) (ret (.int 999999999989))) (op2 oMulA (ret (.int 520021)) (op2 oIx (look 0) (ret (.int 2))))) (ret (.int 999999999989)))) (seqS (setS 2 (op2 oMod (op2 oMulA (rd 2) (rd 2)) (ret (.int 1000000000039)))) (seqS (setS 2 (op2 oMod (op2 oMulA (op2 oAdd (rd 2) (ret (.int 610031))) (rd 2)) (ret (.int 999999999961)))) (retS (op2 oMod (op2 oDiv (rd 2) (ret (.int 7))) (rd 1))))))))
def m__law_draw : List D → DR := runU 4 .im b__law_draw
def e__law_written_1 : M D := (op1 (oRepl [47] [47, 47]) (rd 1))
abbrev N__law_written : List Str := ["rows", "row"]
def b__law_written : SM := (seqS (ifS (tst (op2 oEq (lcE [1] (iterM (rd 0)) (tgN 1) (tst (op2 (oIn false) (ret (.str [47])) (rd 1))) (rd 1)) (lstE argN))) (retS (strM (ret (.str [47])) (rd 0) oJoin)) skip) (retS (strM (ret (.str [32])) (lcE [1] (iterM (rd 0)) (tgN 1) (ret true) e__law_written_1) oJoin)))
def m__law_written : List D → DR := runF 2 .im b__law_written
abbrev N_is_little : List Str := ["thing", "row"]
def b_is_little : SM := (seqS (ifS (orM (notM (tst (op1 (oIsi "list") (rd 0)))) (tst (op2 oEq (rd 0) (lstE argN)))) (retS (ret (.bl false))) skip) (seqS (ifS (tst (op2 oNe (lcE [1] (iterM (rd 0)) (tgN 1) (notM (tst (callF m_is_row (argC (rd 1) argN)))) (rd 1)) (lstE argN))) (retS (ret (.bl false))) skip) (retS (op2 oEq (lcE [1] (iterM (rd 0)) (tgN 1) (tst (op2 oNe (op1 oLen (rd 1)) (op1 oLen (op2 oIx (rd 0) (ret (.int 0)))))) (rd 1)) (lstE argN)))))
def m_is_little : List D → DR := runF 2 .im b_is_little
def e__law_some_signs_1 : M D := (mutM "list" 1 (argC (useU 0 m__law_draw (argC (op1 oLen (look 1)) argN)) argN) oPopAt)
abbrev N__law_some_signs : List Str := ["pool", "left", "found", "k"]
def b__law_some_signs : SM := (seqS (ownS 1 (op1 oListA (ret (.str T_b8bce6)))) (seqS (killS [1] (setS 2 (lcE [3] (rng1M (op2 oIx (lstE (argC (ret (.int 1)) (argC (ret (.int 2)) (argC (ret (.int 2)) (argC (ret (.int 3)) (argC (ret (.int 12)) argN)))))) (useU 0 m__law_draw (argC (ret (.int 5)) argN)))) (tgN 3) (ret true) e__law_some_signs_1))) (retS (op2 oAdd (rd 2) (op2 oMulA (lstE (argC (ret (.str [47])) argN)) (op1 oInt (op2 oEq (useU 0 m__law_draw (argC (ret (.int 3)) argN)) (ret (.int 0)))))))))
def m__law_some_signs : List D → DR := runU 4 .im b__law_some_signs
def b__law_row_1 : SM := (seqS (killS [5] (setS 6 (op2 oIx (rd 1) (useU 0 m__law_draw (argC (op1 oLen (rd 1)) argN))))) (seqS (ifS (andM (tst (op2 oGt (rd 3) (ret (.int 0)))) (tst (op2 oEq (useU 0 m__law_draw (argC (rd 3) argN)) (ret (.int 0))))) (setS 6 (ret (.str [63]))) skip) (killS [6] (setS 4 (op2 oAdd (rd 4) (rd 6))))))
abbrev N__law_row : List Str := ["pool", "signs", "columns", "often", "row", "j", "sign"]
def b__law_row : SM := (seqS (setS 4 (ret (.str []))) (seqS (killS [1, 2, 3] (forS (rng1M (rd 2)) (tgN 5) b__law_row_1)) (retS (rd 4))))
def m__law_row : List D → DR := runU 7 .im b__law_row
abbrev N_need_little : List Str := ["little"]
def b_need_little : SM := (ifS (notM (tst (callF m_is_little (argC (rd 0) argN)))) (raiseS "NoTable") skip)
def m_need_little : List D → DR := runF 1 .im b_need_little
def e__law_table_1 : M D := (useU 0 m__law_row (argC (rd 1) (argC (rd 3) (argC (rd 4) argN))))
abbrev N__law_table : List Str := ["pool", "signs", "rows", "columns", "often", "i"]
def b__law_table : SM := (retS (lcE [5] (rng1M (rd 2)) (tgN 5) (ret true) e__law_table_1))
def m__law_table : List D → DR := runU 6 .im b__law_table
def e_show_table_1 : M D := (op1 (oRepl [47] [47, 47]) (rd 1))
abbrev N_show_table : List Str := ["little", "row"]
def b_show_table : SM := (seqS (exprS (callF m_need_little (argC (rd 0) argN))) (seqS (ifS (tst (op2 oEq (lcE [1] (iterM (rd 0)) (tgN 1) (tst (op2 (oIn false) (ret (.str [47])) (rd 1))) (rd 1)) (lstE argN))) (retS (strM (ret (.str [47])) (rd 0) oJoin)) skip) (retS (strM (ret (.str [32])) (lcE [1] (iterM (rd 0)) (tgN 1) (ret true) e_show_table_1) oJoin))))
def m_show_table : List D → DR := runF 2 .im b_show_table
abbrev N__law_any_table : List Str := ["pool", "most", "rows", "columns", "signs"]
def b__law_any_table : SM := (seqS (setS 1 (op2 oIx (lstE (argC (ret (.int 6)) (argC (ret (.int 6)) (argC (ret (.int 6)) (argC (ret (.int 12)) (argC (ret (.int 40)) (argC (ret (.int 6)) argN))))))) (useU 0 m__law_draw (argC (ret (.int 6)) argN)))) (seqS (setS 2 (op2 oAdd (ret (.int 1)) (useU 0 m__law_draw (argC (rd 1) argN)))) (seqS (setS 3 (op2 oAdd (ret (.int 1)) (useU 0 m__law_draw (argC (rd 1) argN)))) (seqS (killS [1] (ifS (andM (tst (op2 oEq (rd 1) (ret (.int 40)))) (tst (op2 oEq (useU 0 m__law_draw (argC (ret (.int 2)) argN)) (ret (.int 0))))) (killS [1] (tgS (tgT 2 (tgCons (tgN 2) (tgCons (tgN 3) tgNil))) (tupE (argC (ret (.int 40)) (argC (ret (.int 40)) argN))))) skip)) (seqS (setS 4 (useU 0 m__law_some_signs argN)) (seqS (ifS (tst (op2 oEq (useU 0 m__law_draw (argC (ret (.int 8)) argN)) (ret (.int 1)))) (seqS (setS 4 (op1 oListA (ret (.str T_ba0001)))) (setS 4 (op2 oAdd (rd 4) (op1 oListA (ret (.str T_3e6ac1)))))) skip) (seqS (ifS (tst (op2 oEq (useU 0 m__law_draw (argC (ret (.int 5)) argN)) (ret (.int 0)))) (setS 4 (lstE (argC (ret (.str [47])) argN))) skip) (retS (useU 0 m__law_table (argC (rd 4) (argC (rd 2) (argC (rd 3) (argC (op2 oIx (lstE (argC (ret (.int 0)) (argC (ret (.int 0)) (argC (ret (.int 5)) (argC (ret (.int 2)) argN))))) (useU 0 m__law_draw (argC (ret (.int 4)) argN))) argN)))))))))))))
def m__law_any_table : List D → DR := runU 5 .im b__law_any_table
def e_read_table_1 : M D := (op1 (oRepl [47, 47] [47]) (rd 2))
abbrev N_read_table : List Str := ["text", "rows", "row"]
def b_read_table : SM := (seqS (ifS (notM (tst (op1 (oIsi "str") (rd 0)))) (raiseS "NoText") skip) (seqS (ownS 1 (strM (rd 0) (ret (.str [47])) oSplit)) (seqS (ifS (orM (tst (op2 (oIn false) (ret (.str [32])) (rd 0))) (tst (op2 (oIn false) (ret (.str [47, 47])) (rd 0)))) (ownS 1 (lcE [2] (iterL (strM (rd 0) (ret (.str [32])) oSplit)) (tgN 2) (ret true) e_read_table_1)) skip) (seqS (killS [0] (ifS (orM (notM (tst (callL m_is_little (argC (look 1) argN)))) (orM (tst (op2 oGt (op2 oMax (op1 oLen (look 1)) (op1 oLen (op2 oIx (look 1) (ret (.int 0))))) (ret K_MOST_ROWS))) (tst (op2 oNe (callL m_show_table (argC (look 1) argN)) (rd 0))))) (raiseS "NoText") skip)) (retS (move 1))))))
def m_read_table : List D → DR := runF 3 .fr b_read_table
def b_law_1 : SM := (seqS (killS [7] (setS 8 (callF m_show_table (argC (rd 6) argN)))) (seqS (ifS (orM (notM (tst (op1 (oIsi "str") (rd 8)))) (orM (tst (op2 oNe (rd 8) (rd 5))) (tst (op2 oNe (rd 6) (rd 4))))) (retS (ret (.bl false))) skip) (seqS (killS [8] (ownS 9 (callF m_read_table (argC (rd 8) argN)))) (seqS (ifS (orM (notM (tst (op1 (oIsi "list") (look 9)))) (tst (op2 oNe (look 9) (rd 4)))) (retS (ret (.bl false))) skip) (seqS (ifS (lookT (tst (op2 oNe (lcE [10] (iterM (rd 9)) (tgN 10) (notM (tst (op1 (oIsi "str") (rd 10)))) (ret (.int 1))) (lstE argN)))) (retS (ret (.bl false))) skip) (seqS (exprS (mutM "list" 9 (argC (ret (.str [115, 112, 111, 105, 108, 116])) argN) oAppend)) (killS [9] (stIx 9 (ret (.str [])) (ret (.int 0)) oSetIx))))))))
def b_law_2 : SM := (seqS (killS [1] (ownS 3 (callF m__law_pool (argC (rd 0) (argC (rd 1) argN))))) (seqS (killS [3] (setS 4 (useU 3 m__law_any_table argN))) (seqS (setS 5 (callF m__law_written (argC (rd 4) argN))) (seqS (setS 6 (op1 oListA (rd 4))) (killS [4, 5, 6] (forS (rng1M (ret (.int 2))) (tgN 7) b_law_1))))))
abbrev N_law : List Str := ["script", "k", "great", "pool", "rows", "due", "handed", "again", "text", "found", "row"]
def b_law : SM := (seqS (killS [0] (forS (rng1M (op2 oMax (ret (.int 1)) (op2 oMin (ret (.int 6)) (op1 oLen (rd 0))))) (tgN 1) b_law_2)) (seqS (setS 2 (op2 oMulA (lstE (argC (op2 oMulA (ret (.str [47])) (ret (.int 40))) argN)) (ret (.int 40)))) (retS (andE (op2 oEq (callF m_show_table (argC (rd 2) argN)) (strM (ret (.str [32])) (op2 oMulA (lstE (argC (op2 oMulA (ret (.str [47, 47])) (ret (.int 40))) argN)) (ret (.int 40))) oJoin)) (op2 oEq (callF m_read_table (argC (strM (ret (.str [32])) (op2 oMulA (lstE (argC (op2 oMulA (ret (.str [47, 47])) (ret (.int 40))) argN)) (ret (.int 40))) oJoin) argN)) (rd 2))))))
def m_law : List D → DR := runF 11 .im b_law
end
end Q

namespace Q
open PySem PySem.Spec PyProof.Rows L2 PL
def topS (i : Nat) : Stmt := PySem.Challenge.pw_tablefind_k43_tables_written_and_read.main.body.getD i (.Pass ⟨0, 0, 0, 0⟩)
section
variable {P : Program} {w : World} {K : PySem.W.Frag} {mg : Str → Option Value} {base : Heap}
structure Zs (mg : Str → Option Value) : Prop where
  int : mg "int" = none
  isinstance : mg "isinstance" = none
  len : mg "len" = none
  list : mg "list" = none
  max : mg "max" = none
  min : mg "min" = none
  ord : mg "ord" = none
  range : mg "range" = none
  str : mg "str" = none
structure Xs (K : PySem.W.Frag) (mg : Str → Option Value) : Prop where
  r_NoTable : ∃ C, Xc K mg "NoTable" C
  r_NoText : ∃ C, Xc K mg "NoText" C
structure Cs (g : Gc) : Prop where
  MOST_ROWS : GC g "MOST_ROWS" K_MOST_ROWS
  PER_CENT : GC g "PER_CENT" K_PER_CENT
abbrev s_is_row : Stmt := topS 6
theorem sc_is_row : FnScope N_is_row ["thing"] (defScope s_is_row) := ⟨rfl, rfl, rfl, by decide +kernel, rfl, by decide +kernel, by decide +kernel⟩
theorem ok_is_row {f : Addr} {fd : FuncData} (T : FnT K mg "is_row" s_is_row ["thing"] f fd) (z : Zs mg) (c : Cs ⟨K, mg⟩) : Kn P w K mg base "is_row" ["thing"] f fd 1 (spF ⟨K, mg⟩ 1 .im m_is_row) := by
  have sc := sc_is_row
  exact ⟨T.g, T.F.kp, T.b, fn_F T.F sc_is_row (by decide) fun cdv A outer s H E hr => show JB _ _ _ (defBody s_is_row) (seqS (ifS (orM (notM (tst (op1 (oIsi "str") (rd 0)))) (tst (op2 oEq (rd 0) (ret (.str []))))) (retS (ret (.bl false))) skip) (retS (op2 oEq (lcE [1] (iterM (rd 0)) (tgN 1) (orM (notM (tst (chn oLe oLe (ret (.str [33])) (rd 1) (ret (.str [126]))))) (tst (op2 oEq (op1 oOrd (rd 1)) (ret K_PER_CENT)))) (rd 1)) (lstE argN)))) from
    (jb_cons (js_if (jt_w (jw_or (jt_not (jt_val (je_isi isi_str rfl z.isinstance (by decide +kernel) rfl z.str (by decide +kernel) (je_rd 0)))) (jw_or1 (jt_cmp (op_eqAll hr.units) o2_eq (je_rd 0) (je_str (l := [])))))) (jb_one (js_ret je_bl)) jb_nil) (jb_one (js_ret (je_cmp (op_eqAll hr.units) o2_eq (je_lc rfl sc.nd (own := [("sign", 1)]) (ji_val (je_rd 0)) (blkOk_by (own := [("sign", 1)]) (N := N_is_row) (sc := (defScope s_is_row)) (by decide +kernel)) (fun _ _ _ _ _ => (jg_name 1 sc.nd)) (fun _ _ _ _ _ => (jts_one (jt_w (jw_or (jt_not (jt_chain op_leA o2_le op_leA o2_le (je_str (l := [33])) (je_rd 1) (je_str (l := [126])))) (jw_or1 (jt_cmp (op_eqAll hr.units) o2_eq (je_b1 call_ord fn_ord rfl z.ord (by decide +kernel) (je_rd 1)) (je_glob c.PER_CENT))))))) (fun _ _ _ _ _ => (je_rd 1))) (je_lst ja_nil)))))⟩
abbrev s__law_pool : Stmt := topS 14
theorem sc__law_pool : FnScope N__law_pool ["script", "k"] (defScope s__law_pool) := ⟨rfl, rfl, rfl, by decide +kernel, rfl, by decide +kernel, by decide +kernel⟩
theorem ok__law_pool {f : Addr} {fd : FuncData} (T : FnT K mg "_law_pool" s__law_pool ["script", "k"] f fd) (z : Zs mg) : Kn P w K mg base "_law_pool" ["script", "k"] f fd 1 (spF ⟨K, mg⟩ 2 .fr m__law_pool) := by
  have sc := sc__law_pool
  exact ⟨T.g, T.F.kp, T.b, fn_F T.F sc__law_pool (by decide) fun cdv A outer s H E hr => show JB _ _ _ (defBody s__law_pool) (seqS (setS 2 (ret (.int 0))) (seqS (killS [0] (ifS (tst (op2 oLt (rd 1) (op1 oLen (rd 0)))) (killS [0] (setS 2 (op2 oIx (rd 0) (rd 1)))) skip)) (retS (lstE (argC (rd 2) (argC (op1 oInt (op2 oGe (rd 2) (op2 oPow (ret (.int 10)) (ret (.int 18))))) (argC (op2 oMulA (ret (.int 37)) (rd 1)) argN))))))) from
    (jb_cons (js_set 2 sc.nd je_int) (jb_cons (js_kill [0] (js_if (jt_cmp op_ltA o2_lt (je_rd 1) (je_b1 call_lenA fn_len rfl z.len (by decide +kernel) (je_rd 0))) (jb_one (js_kill [0] (js_set 2 sc.nd (je_ix (je_rd 0) (je_rd 1))))) jb_nil)) (jb_one (js_ret (je_lst (ja_cons (je_rd 2) (ja_cons (je_t1 call_intA fn_int rfl z.int (by decide +kernel) (je_cmp op_geA o2_ge (je_rd 2) (je_op op_pow o2_pow je_int je_int))) (ja_cons (je_op op_mulAll o2_mulA je_int (je_rd 1)) ja_nil))))))))⟩
abbrev s__law_draw : Stmt := topS 15
theorem sc__law_draw : FnScope N__law_draw ["pool", "many"] (defScope s__law_draw) := ⟨rfl, rfl, rfl, by decide +kernel, rfl, by decide +kernel, by decide +kernel⟩
theorem ok__law_draw {f : Addr} {fd : FuncData} (T : FnT K mg "_law_draw" s__law_draw ["pool", "many"] f fd) : Kn P w K mg base "_law_draw" ["pool", "many"] f fd 1 (spU ⟨K, mg⟩ 2 .im m__law_draw) := by
  have sc := sc__law_draw
  exact ⟨T.g, T.F.kp, T.b, fn_U T.F sc__law_draw (by decide) (by decide) fun cdv A outer s H E hr => show JB _ _ _ (defBody s__law_draw) (seqS (killS [3] (ifS (tst (op2 oEq (op2 oIx (look 0) (ret (.int 1))) (ret (.int 1)))) (seqS (setS 3 (op2 oMod (op2 oIx (look 0) (ret (.int 0))) (rd 1))) (seqS (killS [1] (stIx 0 (op2 oDiv (op2 oIx (look 0) (ret (.int 0))) (rd 1)) (ret (.int 0)) oSetIx)) (retS (rd 3)))) skip)) (seqS (stIx 0 (op2 oAdd (op2 oIx (look 0) (ret (.int 2))) (ret (.int 1))) (ret (.int 2)) oSetIx) (seqS (setS 2 (op2 oMod (op2 oAdd (op2 oMod (op2 oIx (look 0) (ret (.int 0))) (ret (.int 999999999989))) (op2 oMulA (ret (.int 520021)) (op2 oIx (look 0) (ret (.int 2))))) (ret (.int 999999999989)))) (seqS (setS 2 (op2 oMod (op2 oMulA (rd 2) (rd 2)) (ret (.int 1000000000039)))) (seqS (setS 2 (op2 oMod (op2 oMulA (op2 oAdd (rd 2) (ret (.int 610031))) (rd 2)) (ret (.int 999999999961)))) (retS (op2 oMod (op2 oDiv (rd 2) (ret (.int 7))) (rd 1)))))))) from
    (jb_cons (js_kill [3] (js_if (jt_cmp (op_eqAll hr.units) o2_eq (je_ix (je_look 0) je_int) je_int) (jb_cons (js_set 3 sc.nd (je_op op_mod o2_mod (je_ix (je_look 0) je_int) (je_rd 1))) (jb_cons (js_kill [1] (js_ix 0 (je_op op_fdivW o2_div (je_ix (je_look 0) je_int) (je_rd 1)) je_int)) (jb_one (js_ret (je_rd 3))))) jb_nil)) (jb_cons (js_ix 0 (je_op op_addAll (o2_add rfl) (je_ix (je_look 0) je_int) je_int) je_int) (jb_cons (js_set 2 sc.nd (je_op op_mod o2_mod (je_op op_addAll (o2_add rfl) (je_op op_mod o2_mod (je_ix (je_look 0) je_int) je_int) (je_op op_mulAll o2_mulA je_int (je_ix (je_look 0) je_int))) je_int)) (jb_cons (js_set 2 sc.nd (je_op op_mod o2_mod (je_op op_mulAll o2_mulA (je_rd 2) (je_rd 2)) je_int)) (jb_cons (js_set 2 sc.nd (je_op op_mod o2_mod (je_op op_mulAll o2_mulA (je_op op_addAll (o2_add rfl) (je_rd 2) je_int) (je_rd 2)) je_int)) (jb_one (js_ret (je_op op_mod o2_mod (je_op op_fdivW o2_div (je_rd 2) je_int) (je_rd 1)))))))))⟩
abbrev s__law_written : Stmt := topS 19
theorem sc__law_written : FnScope N__law_written ["rows"] (defScope s__law_written) := ⟨rfl, rfl, rfl, by decide +kernel, rfl, by decide +kernel, by decide +kernel⟩
theorem ok__law_written {f : Addr} {fd : FuncData} (T : FnT K mg "_law_written" s__law_written ["rows"] f fd) : Kn P w K mg base "_law_written" ["rows"] f fd 1 (spF ⟨K, mg⟩ 1 .im m__law_written) := by
  have sc := sc__law_written
  exact ⟨T.g, T.F.kp, T.b, fn_F T.F sc__law_written (by decide) fun cdv A outer s H E hr => show JB _ _ _ (defBody s__law_written) (seqS (ifS (tst (op2 oEq (lcE [1] (iterM (rd 0)) (tgN 1) (tst (op2 (oIn false) (ret (.str [47])) (rd 1))) (rd 1)) (lstE argN))) (retS (strM (ret (.str [47])) (rd 0) oJoin)) skip) (retS (strM (ret (.str [32])) (lcE [1] (iterM (rd 0)) (tgN 1) (ret true) e__law_written_1) oJoin))) from
    (jb_cons (js_if (jt_cmp (op_eqAll hr.units) o2_eq (je_lc rfl sc.nd (own := [("row", 1)]) (ji_val (je_rd 0)) (blkOk_by (own := [("row", 1)]) (N := N__law_written) (sc := (defScope s__law_written)) (by decide +kernel)) (fun _ _ _ _ _ => (jg_name 1 sc.nd)) (fun _ _ _ _ _ => (jts_one (jt_cmp (op_inAll (u65 hr)) o2_in (je_str (l := [47])) (je_rd 1)))) (fun _ _ _ _ _ => (je_rd 1))) (je_lst ja_nil)) (jb_one (js_ret (je_join (je_str (l := [47])) (je_rd 0)))) jb_nil) (jb_one (js_ret (je_joinT (l := [32]) (jet_lc rfl sc.nd (own := [("row", 1)]) (ji_val (je_rd 0)) (blkOk_by (own := [("row", 1)]) (N := N__law_written) (sc := (defScope s__law_written)) (by decide +kernel)) (fun _ _ _ _ _ => (jg_name 1 sc.nd)) (fun _ _ _ _ _ => jts_nil) (fun _ _ _ _ _ => (jet_repl (ly := [47]) (lz := [47, 47]) (je_rd 1))))))))⟩
abbrev s_is_little : Stmt := topS 7
theorem sc_is_little : FnScope N_is_little ["thing"] (defScope s_is_little) := ⟨rfl, rfl, rfl, by decide +kernel, rfl, by decide +kernel, by decide +kernel⟩
theorem ok_is_little {f : Addr} {fd : FuncData} (T : FnT K mg "is_little" s_is_little ["thing"] f fd) (z : Zs mg) {f_is_row : Addr} {d_is_row : FuncData} (C_is_row : Kn P w K mg base "is_row" ["thing"] f_is_row d_is_row 1 (spF ⟨K, mg⟩ 1 .im m_is_row)) : Kn P w K mg base "is_little" ["thing"] f fd 2 (spF ⟨K, mg⟩ 1 .im m_is_little) := by
  have sc := sc_is_little
  exact ⟨T.g, T.F.kp, T.b, fn_F T.F sc_is_little (by decide) fun cdv A outer s H E hr => show JB _ _ _ (defBody s_is_little) (seqS (ifS (orM (notM (tst (op1 (oIsi "list") (rd 0)))) (tst (op2 oEq (rd 0) (lstE argN)))) (retS (ret (.bl false))) skip) (seqS (ifS (tst (op2 oNe (lcE [1] (iterM (rd 0)) (tgN 1) (notM (tst (callF m_is_row (argC (rd 1) argN)))) (rd 1)) (lstE argN))) (retS (ret (.bl false))) skip) (retS (op2 oEq (lcE [1] (iterM (rd 0)) (tgN 1) (tst (op2 oNe (op1 oLen (rd 1)) (op1 oLen (op2 oIx (rd 0) (ret (.int 0)))))) (rd 1)) (lstE argN))))) from
    (jb_cons (js_if (jt_w (jw_or (jt_not (jt_val (je_isi isi_list rfl z.isinstance (by decide +kernel) rfl z.list (by decide +kernel) (je_rd 0)))) (jw_or1 (jt_cmp (op_eqAll hr.units) o2_eq (je_rd 0) (je_lst ja_nil))))) (jb_one (js_ret je_bl)) jb_nil) (jb_cons (js_if (jt_cmp (op_neAll hr.units) o2_ne (je_lc rfl sc.nd (own := [("row", 1)]) (ji_val (je_rd 0)) (blkOk_by (own := [("row", 1)]) (N := N_is_little) (sc := (defScope s_is_little)) (by decide +kernel)) (fun _ _ _ _ _ => (jg_name 1 sc.nd)) (fun _ _ _ _ _ => (jts_one (jt_not (jt_val (je_call (argC_len argN_len) C_is_row.ok (hr.mono (by decide)) C_is_row.g C_is_row.kp C_is_row.b takes0 (ja_cons (je_rd 1) ja_nil)))))) (fun _ _ _ _ _ => (je_rd 1))) (je_lst ja_nil)) (jb_one (js_ret je_bl)) jb_nil) (jb_one (js_ret (je_cmp (op_eqAll hr.units) o2_eq (je_lc rfl sc.nd (own := [("row", 1)]) (ji_val (je_rd 0)) (blkOk_by (own := [("row", 1)]) (N := N_is_little) (sc := (defScope s_is_little)) (by decide +kernel)) (fun _ _ _ _ _ => (jg_name 1 sc.nd)) (fun _ _ _ _ _ => (jts_one (jt_cmp (op_neAll hr.units) o2_ne (je_b1 call_lenA fn_len rfl z.len (by decide +kernel) (je_rd 1)) (je_b1 call_lenA fn_len rfl z.len (by decide +kernel) (je_ix (je_rd 0) je_int))))) (fun _ _ _ _ _ => (je_rd 1))) (je_lst ja_nil))))))⟩
abbrev s__law_some_signs : Stmt := topS 16
theorem sc__law_some_signs : FnScope N__law_some_signs ["pool"] (defScope s__law_some_signs) := ⟨rfl, rfl, rfl, by decide +kernel, rfl, by decide +kernel, by decide +kernel⟩
theorem ok__law_some_signs {f : Addr} {fd : FuncData} (T : FnT K mg "_law_some_signs" s__law_some_signs ["pool"] f fd) (z : Zs mg) {f__law_draw : Addr} {d__law_draw : FuncData} (C__law_draw : Kn P w K mg base "_law_draw" ["pool", "many"] f__law_draw d__law_draw 1 (spU ⟨K, mg⟩ 2 .im m__law_draw)) : Kn P w K mg base "_law_some_signs" ["pool"] f fd 2 (spU ⟨K, mg⟩ 1 .im m__law_some_signs) := by
  have sc := sc__law_some_signs
  exact ⟨T.g, T.F.kp, T.b, fn_U T.F sc__law_some_signs (by decide) (by decide) fun cdv A outer s H E hr => show JB _ _ _ (defBody s__law_some_signs) (seqS (ownS 1 (op1 oListA (ret (.str T_b8bce6)))) (seqS (killS [1] (setS 2 (lcE [3] (rng1M (op2 oIx (lstE (argC (ret (.int 1)) (argC (ret (.int 2)) (argC (ret (.int 2)) (argC (ret (.int 3)) (argC (ret (.int 12)) argN)))))) (useU 0 m__law_draw (argC (ret (.int 5)) argN)))) (tgN 3) (ret true) e__law_some_signs_1))) (retS (op2 oAdd (rd 2) (op2 oMulA (lstE (argC (ret (.str [47])) argN)) (op1 oInt (op2 oEq (useU 0 m__law_draw (argC (ret (.int 3)) argN)) (ret (.int 0))))))))) from
    (jb_cons (js_own 1 sc.nd (je_t1 call_listA (fn_listA (k := .fr) (by decide)) rfl z.list (by decide +kernel) (je_str (l := T_b8bce6)))) (jb_cons (js_kill [1] (js_setLc 2 rfl sc.nd rfl rfl (sw_true rfl rfl rfl (by decide +kernel)) (own := [("k", 3)]) (ji_range1 rfl z.range (je_ix (je_lst (ja_cons je_int (ja_cons je_int (ja_cons je_int (ja_cons je_int (ja_cons je_int ja_nil)))))) (je_callU 0 (argC_len argN_len) (by decide) C__law_draw.ok (hr.mono (by decide)) C__law_draw.g C__law_draw.kp C__law_draw.b (takes_of rfl rfl rfl rfl) (ja_cons je_int ja_nil)))) (blkOk_by (own := [("k", 3)]) (N := N__law_some_signs) (sc := (defScope s__law_some_signs)) (by decide +kernel)) (fun _ _ _ _ _ => (jg_name 3 sc.nd)) (fun _ _ _ _ _ => jts_nil) (fun _ _ _ _ _ => (je_mut 1 PySem.F.plainAttrs_list PySem.F.slot_list_pop PySem.F.type_list_pop mt_popAt mo_popAt (ja_cons (je_callU 0 (argC_len argN_len) (by decide) C__law_draw.ok (hr.mono (by decide)) C__law_draw.g C__law_draw.kp C__law_draw.b takes0 (ja_cons (je_b1 call_lenA fn_len rfl z.len (by decide +kernel) (je_look 1)) ja_nil)) ja_nil))))) (jb_one (js_ret (je_op op_addAll (o2_add rfl) (je_rd 2) (je_op op_mulAll o2_mulA (je_lst (ja_cons (je_str (l := [47])) ja_nil)) (je_t1 call_intA fn_int rfl z.int (by decide +kernel) (je_cmp (op_eqAll hr.units) o2_eq (je_callU 0 (argC_len argN_len) (by decide) C__law_draw.ok (hr.mono (by decide)) C__law_draw.g C__law_draw.kp C__law_draw.b (takes_of rfl rfl rfl rfl) (ja_cons je_int ja_nil)) je_int))))))))⟩
abbrev s__law_row : Stmt := topS 17
theorem sc__law_row : FnScope N__law_row ["pool", "signs", "columns", "often"] (defScope s__law_row) := ⟨rfl, rfl, rfl, by decide +kernel, rfl, by decide +kernel, by decide +kernel⟩
theorem ok__law_row {f : Addr} {fd : FuncData} (T : FnT K mg "_law_row" s__law_row ["pool", "signs", "columns", "often"] f fd) (z : Zs mg) {f__law_draw : Addr} {d__law_draw : FuncData} (C__law_draw : Kn P w K mg base "_law_draw" ["pool", "many"] f__law_draw d__law_draw 1 (spU ⟨K, mg⟩ 2 .im m__law_draw)) : Kn P w K mg base "_law_row" ["pool", "signs", "columns", "often"] f fd 2 (spU ⟨K, mg⟩ 4 .im m__law_row) := by
  have sc := sc__law_row
  exact ⟨T.g, T.F.kp, T.b, fn_U T.F sc__law_row (by decide) (by decide) fun cdv A outer s H E hr => show JB _ _ _ (defBody s__law_row) (seqS (setS 4 (ret (.str []))) (seqS (killS [1, 2, 3] (forS (rng1M (rd 2)) (tgN 5) b__law_row_1)) (retS (rd 4)))) from
    (jb_cons (js_set 4 sc.nd (je_str (l := []))) (jb_cons (js_kill [1, 2, 3] (js_for (passes_of rfl) rfl (ji_range1 rfl z.range (je_rd 2)) (jg_name 5 sc.nd) (jb_cons (js_kill [5] (js_set 6 sc.nd (je_ix (je_rd 1) (je_callU 0 (argC_len argN_len) (by decide) C__law_draw.ok (hr.mono (by decide)) C__law_draw.g C__law_draw.kp C__law_draw.b (takes_of rfl rfl rfl rfl) (ja_cons (je_b1 call_lenA fn_len rfl z.len (by decide +kernel) (je_rd 1)) ja_nil))))) (jb_cons (js_if (jt_w (jw_and (jt_cmp op_gtA o2_gt (je_rd 3) je_int) (jw_and1 (jt_cmp (op_eqAll hr.units) o2_eq (je_callU 0 (argC_len argN_len) (by decide) C__law_draw.ok (hr.mono (by decide)) C__law_draw.g C__law_draw.kp C__law_draw.b (takes_of rfl rfl rfl rfl) (ja_cons (je_rd 3) ja_nil)) je_int)))) (jb_one (js_set 6 sc.nd (je_str (l := [63])))) jb_nil) (jb_one (js_kill [6] (js_set 4 sc.nd (je_op op_addAll (o2_add rfl) (je_rd 4) (je_rd 6))))))))) (jb_one (js_ret (je_rd 4)))))⟩
abbrev s_need_little : Stmt := topS 8
theorem sc_need_little : FnScope N_need_little ["little"] (defScope s_need_little) := ⟨rfl, rfl, rfl, by decide +kernel, rfl, by decide +kernel, by decide +kernel⟩
theorem ok_need_little {f : Addr} {fd : FuncData} (T : FnT K mg "need_little" s_need_little ["little"] f fd) (x : Xs K mg) {f_is_little : Addr} {d_is_little : FuncData} (C_is_little : Kn P w K mg base "is_little" ["thing"] f_is_little d_is_little 2 (spF ⟨K, mg⟩ 1 .im m_is_little)) : Kn P w K mg base "need_little" ["little"] f fd 3 (spF ⟨K, mg⟩ 1 .im m_need_little) := by
  have sc := sc_need_little
  obtain ⟨A_NoTable, r_NoTable⟩ := x.r_NoTable
  exact ⟨T.g, T.F.kp, T.b, fn_F T.F sc_need_little (by decide) fun cdv A outer s H E hr => show JB _ _ _ (defBody s_need_little) (ifS (notM (tst (callF m_is_little (argC (rd 0) argN)))) (raiseS "NoTable") skip) from
    (jb_one (js_if (jt_not (jt_val (je_call (argC_len argN_len) C_is_little.ok (hr.mono (by decide)) C_is_little.g C_is_little.kp C_is_little.b (takes_of rfl rfl rfl rfl) (ja_cons (je_rd 0) ja_nil)))) (jb_one (js_raise rfl (takes_of rfl rfl rfl rfl) PySem.F.excBase_ValueError r_NoTable.q r_NoTable.g r_NoTable.k (raises_own r_NoTable.h1 r_NoTable.h2))) jb_nil))⟩
abbrev s__law_table : Stmt := topS 18
theorem sc__law_table : FnScope N__law_table ["pool", "signs", "rows", "columns", "often"] (defScope s__law_table) := ⟨rfl, rfl, rfl, by decide +kernel, rfl, by decide +kernel, by decide +kernel⟩
theorem ok__law_table {f : Addr} {fd : FuncData} (T : FnT K mg "_law_table" s__law_table ["pool", "signs", "rows", "columns", "often"] f fd) (z : Zs mg) {f__law_row : Addr} {d__law_row : FuncData} (C__law_row : Kn P w K mg base "_law_row" ["pool", "signs", "columns", "often"] f__law_row d__law_row 2 (spU ⟨K, mg⟩ 4 .im m__law_row)) : Kn P w K mg base "_law_table" ["pool", "signs", "rows", "columns", "often"] f fd 3 (spU ⟨K, mg⟩ 5 .im m__law_table) := by
  have sc := sc__law_table
  exact ⟨T.g, T.F.kp, T.b, fn_U T.F sc__law_table (by decide) (by decide) fun cdv A outer s H E hr => show JB _ _ _ (defBody s__law_table) (retS (lcE [5] (rng1M (rd 2)) (tgN 5) (ret true) e__law_table_1)) from
    (jb_one (js_ret (JE.im (je_lc rfl sc.nd (own := [("i", 5)]) (ji_range1 rfl z.range (je_rd 2)) (blkOk_by (own := [("i", 5)]) (N := N__law_table) (sc := (defScope s__law_table)) (by decide +kernel)) (fun _ _ _ _ _ => (jg_name 5 sc.nd)) (fun _ _ _ _ _ => jts_nil) (fun _ _ _ _ _ => (je_callU 0 (argC_len (argC_len (argC_len argN_len))) (by decide) C__law_row.ok (hr.mono (by decide)) C__law_row.g C__law_row.kp C__law_row.b takes0 (ja_cons (je_rd 1) (ja_cons (je_rd 3) (ja_cons (je_rd 4) ja_nil)))))))))⟩
abbrev s_show_table : Stmt := topS 11
theorem sc_show_table : FnScope N_show_table ["little"] (defScope s_show_table) := ⟨rfl, rfl, rfl, by decide +kernel, rfl, by decide +kernel, by decide +kernel⟩
theorem ok_show_table {f : Addr} {fd : FuncData} (T : FnT K mg "show_table" s_show_table ["little"] f fd) {f_need_little : Addr} {d_need_little : FuncData} (C_need_little : Kn P w K mg base "need_little" ["little"] f_need_little d_need_little 3 (spF ⟨K, mg⟩ 1 .im m_need_little)) : Kn P w K mg base "show_table" ["little"] f fd 4 (spF ⟨K, mg⟩ 1 .im m_show_table) := by
  have sc := sc_show_table
  exact ⟨T.g, T.F.kp, T.b, fn_F T.F sc_show_table (by decide) fun cdv A outer s H E hr => show JB _ _ _ (defBody s_show_table) (seqS (exprS (callF m_need_little (argC (rd 0) argN))) (seqS (ifS (tst (op2 oEq (lcE [1] (iterM (rd 0)) (tgN 1) (tst (op2 (oIn false) (ret (.str [47])) (rd 1))) (rd 1)) (lstE argN))) (retS (strM (ret (.str [47])) (rd 0) oJoin)) skip) (retS (strM (ret (.str [32])) (lcE [1] (iterM (rd 0)) (tgN 1) (ret true) e_show_table_1) oJoin)))) from
    (jb_cons (js_expr (je_call (argC_len argN_len) C_need_little.ok (hr.mono (by decide)) C_need_little.g C_need_little.kp C_need_little.b (takes_of rfl rfl rfl rfl) (ja_cons (je_rd 0) ja_nil))) (jb_cons (js_if (jt_cmp (op_eqAll hr.units) o2_eq (je_lc rfl sc.nd (own := [("row", 1)]) (ji_val (je_rd 0)) (blkOk_by (own := [("row", 1)]) (N := N_show_table) (sc := (defScope s_show_table)) (by decide +kernel)) (fun _ _ _ _ _ => (jg_name 1 sc.nd)) (fun _ _ _ _ _ => (jts_one (jt_cmp (op_inAll (u65 hr)) o2_in (je_str (l := [47])) (je_rd 1)))) (fun _ _ _ _ _ => (je_rd 1))) (je_lst ja_nil)) (jb_one (js_ret (je_join (je_str (l := [47])) (je_rd 0)))) jb_nil) (jb_one (js_ret (je_joinT (l := [32]) (jet_lc rfl sc.nd (own := [("row", 1)]) (ji_val (je_rd 0)) (blkOk_by (own := [("row", 1)]) (N := N_show_table) (sc := (defScope s_show_table)) (by decide +kernel)) (fun _ _ _ _ _ => (jg_name 1 sc.nd)) (fun _ _ _ _ _ => jts_nil) (fun _ _ _ _ _ => (jet_repl (ly := [47]) (lz := [47, 47]) (je_rd 1)))))))))⟩
abbrev s__law_any_table : Stmt := topS 20
theorem sc__law_any_table : FnScope N__law_any_table ["pool"] (defScope s__law_any_table) := ⟨rfl, rfl, rfl, by decide +kernel, rfl, by decide +kernel, by decide +kernel⟩
theorem ok__law_any_table {f : Addr} {fd : FuncData} (T : FnT K mg "_law_any_table" s__law_any_table ["pool"] f fd) (z : Zs mg) {f__law_draw : Addr} {d__law_draw : FuncData} (C__law_draw : Kn P w K mg base "_law_draw" ["pool", "many"] f__law_draw d__law_draw 1 (spU ⟨K, mg⟩ 2 .im m__law_draw)) {f__law_some_signs : Addr} {d__law_some_signs : FuncData} (C__law_some_signs : Kn P w K mg base "_law_some_signs" ["pool"] f__law_some_signs d__law_some_signs 2 (spU ⟨K, mg⟩ 1 .im m__law_some_signs)) {f__law_table : Addr} {d__law_table : FuncData} (C__law_table : Kn P w K mg base "_law_table" ["pool", "signs", "rows", "columns", "often"] f__law_table d__law_table 3 (spU ⟨K, mg⟩ 5 .im m__law_table)) : Kn P w K mg base "_law_any_table" ["pool"] f fd 4 (spU ⟨K, mg⟩ 1 .im m__law_any_table) := by
  have sc := sc__law_any_table
  exact ⟨T.g, T.F.kp, T.b, fn_U T.F sc__law_any_table (by decide) (by decide) fun cdv A outer s H E hr => show JB _ _ _ (defBody s__law_any_table) (seqS (setS 1 (op2 oIx (lstE (argC (ret (.int 6)) (argC (ret (.int 6)) (argC (ret (.int 6)) (argC (ret (.int 12)) (argC (ret (.int 40)) (argC (ret (.int 6)) argN))))))) (useU 0 m__law_draw (argC (ret (.int 6)) argN)))) (seqS (setS 2 (op2 oAdd (ret (.int 1)) (useU 0 m__law_draw (argC (rd 1) argN)))) (seqS (setS 3 (op2 oAdd (ret (.int 1)) (useU 0 m__law_draw (argC (rd 1) argN)))) (seqS (killS [1] (ifS (andM (tst (op2 oEq (rd 1) (ret (.int 40)))) (tst (op2 oEq (useU 0 m__law_draw (argC (ret (.int 2)) argN)) (ret (.int 0))))) (killS [1] (tgS (tgT 2 (tgCons (tgN 2) (tgCons (tgN 3) tgNil))) (tupE (argC (ret (.int 40)) (argC (ret (.int 40)) argN))))) skip)) (seqS (setS 4 (useU 0 m__law_some_signs argN)) (seqS (ifS (tst (op2 oEq (useU 0 m__law_draw (argC (ret (.int 8)) argN)) (ret (.int 1)))) (seqS (setS 4 (op1 oListA (ret (.str T_ba0001)))) (setS 4 (op2 oAdd (rd 4) (op1 oListA (ret (.str T_3e6ac1)))))) skip) (seqS (ifS (tst (op2 oEq (useU 0 m__law_draw (argC (ret (.int 5)) argN)) (ret (.int 0)))) (setS 4 (lstE (argC (ret (.str [47])) argN))) skip) (retS (useU 0 m__law_table (argC (rd 4) (argC (rd 2) (argC (rd 3) (argC (op2 oIx (lstE (argC (ret (.int 0)) (argC (ret (.int 0)) (argC (ret (.int 5)) (argC (ret (.int 2)) argN))))) (useU 0 m__law_draw (argC (ret (.int 4)) argN))) argN))))))))))))) from
    (jb_cons (js_set 1 sc.nd (je_ix (je_lst (ja_cons je_int (ja_cons je_int (ja_cons je_int (ja_cons je_int (ja_cons je_int (ja_cons je_int ja_nil))))))) (je_callU 0 (argC_len argN_len) (by decide) C__law_draw.ok (hr.mono (by decide)) C__law_draw.g C__law_draw.kp C__law_draw.b (takes_of rfl rfl rfl rfl) (ja_cons je_int ja_nil)))) (jb_cons (js_set 2 sc.nd (je_op op_addAll (o2_add rfl) je_int (je_callU 0 (argC_len argN_len) (by decide) C__law_draw.ok (hr.mono (by decide)) C__law_draw.g C__law_draw.kp C__law_draw.b (takes_of rfl rfl rfl rfl) (ja_cons (je_rd 1) ja_nil)))) (jb_cons (js_set 3 sc.nd (je_op op_addAll (o2_add rfl) je_int (je_callU 0 (argC_len argN_len) (by decide) C__law_draw.ok (hr.mono (by decide)) C__law_draw.g C__law_draw.kp C__law_draw.b (takes_of rfl rfl rfl rfl) (ja_cons (je_rd 1) ja_nil)))) (jb_cons (js_kill [1] (js_if (jt_w (jw_and (jt_cmp (op_eqAll hr.units) o2_eq (je_rd 1) je_int) (jw_and1 (jt_cmp (op_eqAll hr.units) o2_eq (je_callU 0 (argC_len argN_len) (by decide) C__law_draw.ok (hr.mono (by decide)) C__law_draw.g C__law_draw.kp C__law_draw.b (takes_of rfl rfl rfl rfl) (ja_cons je_int ja_nil)) je_int)))) (jb_one (js_kill [1] (js_tg (je_tup (ja_cons je_int (ja_cons je_int ja_nil))) (jg_tup rfl (jgs_cons (jg_name 2 sc.nd) (jgs_cons (jg_name 3 sc.nd) jgs_nil)))))) jb_nil)) (jb_cons (js_set 4 sc.nd (je_callU 0 argN_len (by decide) C__law_some_signs.ok (hr.mono (by decide)) C__law_some_signs.g C__law_some_signs.kp C__law_some_signs.b (takes_of rfl rfl rfl rfl) ja_nil)) (jb_cons (js_if (jt_cmp (op_eqAll hr.units) o2_eq (je_callU 0 (argC_len argN_len) (by decide) C__law_draw.ok (hr.mono (by decide)) C__law_draw.g C__law_draw.kp C__law_draw.b (takes_of rfl rfl rfl rfl) (ja_cons je_int ja_nil)) je_int) (jb_cons (js_set 4 sc.nd (JE.im (je_t1 call_listA (fn_listA (k := .fr) (by decide)) rfl z.list (by decide +kernel) (je_str (l := T_ba0001))))) (jb_one (js_set 4 sc.nd (je_op op_addAll (o2_add rfl) (je_rd 4) (je_t1 call_listA (fn_listA (k := .fr) (by decide)) rfl z.list (by decide +kernel) (je_str (l := T_3e6ac1))))))) jb_nil) (jb_cons (js_if (jt_cmp (op_eqAll hr.units) o2_eq (je_callU 0 (argC_len argN_len) (by decide) C__law_draw.ok (hr.mono (by decide)) C__law_draw.g C__law_draw.kp C__law_draw.b (takes_of rfl rfl rfl rfl) (ja_cons je_int ja_nil)) je_int) (jb_one (js_set 4 sc.nd (JE.im (je_lst (ja_cons (je_str (l := [47])) ja_nil))))) jb_nil) (jb_one (js_ret (je_callU 0 (argC_len (argC_len (argC_len (argC_len argN_len)))) (by decide) C__law_table.ok (hr.mono (by decide)) C__law_table.g C__law_table.kp C__law_table.b (takes_of rfl rfl rfl rfl) (ja_cons (je_rd 4) (ja_cons (je_rd 2) (ja_cons (je_rd 3) (ja_cons (je_ix (je_lst (ja_cons je_int (ja_cons je_int (ja_cons je_int (ja_cons je_int ja_nil))))) (je_callU 0 (argC_len argN_len) (by decide) C__law_draw.ok (hr.mono (by decide)) C__law_draw.g C__law_draw.kp C__law_draw.b (takes_of rfl rfl rfl rfl) (ja_cons je_int ja_nil))) ja_nil))))))))))))))⟩
abbrev s_read_table : Stmt := topS 12
theorem sc_read_table : FnScope N_read_table ["text"] (defScope s_read_table) := ⟨rfl, rfl, rfl, by decide +kernel, rfl, by decide +kernel, by decide +kernel⟩
theorem ok_read_table {f : Addr} {fd : FuncData} (T : FnT K mg "read_table" s_read_table ["text"] f fd) (z : Zs mg) (c : Cs ⟨K, mg⟩) (x : Xs K mg) {f_is_little : Addr} {d_is_little : FuncData} (C_is_little : Kn P w K mg base "is_little" ["thing"] f_is_little d_is_little 2 (spF ⟨K, mg⟩ 1 .im m_is_little)) {f_show_table : Addr} {d_show_table : FuncData} (C_show_table : Kn P w K mg base "show_table" ["little"] f_show_table d_show_table 4 (spF ⟨K, mg⟩ 1 .im m_show_table)) : Kn P w K mg base "read_table" ["text"] f fd 5 (spF ⟨K, mg⟩ 1 .fr m_read_table) := by
  have sc := sc_read_table
  obtain ⟨A_NoText, r_NoText⟩ := x.r_NoText
  exact ⟨T.g, T.F.kp, T.b, fn_F T.F sc_read_table (by decide) fun cdv A outer s H E hr => show JB _ _ _ (defBody s_read_table) (seqS (ifS (notM (tst (op1 (oIsi "str") (rd 0)))) (raiseS "NoText") skip) (seqS (ownS 1 (strM (rd 0) (ret (.str [47])) oSplit)) (seqS (ifS (orM (tst (op2 (oIn false) (ret (.str [32])) (rd 0))) (tst (op2 (oIn false) (ret (.str [47, 47])) (rd 0)))) (ownS 1 (lcE [2] (iterL (strM (rd 0) (ret (.str [32])) oSplit)) (tgN 2) (ret true) e_read_table_1)) skip) (seqS (killS [0] (ifS (orM (notM (tst (callL m_is_little (argC (look 1) argN)))) (orM (tst (op2 oGt (op2 oMax (op1 oLen (look 1)) (op1 oLen (op2 oIx (look 1) (ret (.int 0))))) (ret K_MOST_ROWS))) (tst (op2 oNe (callL m_show_table (argC (look 1) argN)) (rd 0))))) (raiseS "NoText") skip)) (retS (move 1)))))) from
    (jb_cons (js_if (jt_not (jt_val (je_isi isi_str rfl z.isinstance (by decide +kernel) rfl z.str (by decide +kernel) (je_rd 0)))) (jb_one (js_raise rfl (takes_of rfl rfl rfl rfl) PySem.F.excBase_ValueError r_NoText.q r_NoText.g r_NoText.k (raises_own r_NoText.h1 r_NoText.h2))) jb_nil) (jb_cons (js_own 1 sc.nd (je_split (kr := .fr) (je_rd 0) (je_str (l := [47])))) (jb_cons (js_if (jt_w (jw_or (jt_cmp (op_inAll (u65 hr)) o2_in (je_str (l := [32])) (je_rd 0)) (jw_or1 (jt_cmp (op_inAll (u65 hr)) o2_in (je_str (l := [47, 47])) (je_rd 0))))) (jb_one (js_ownLcX 1 rfl sc.nd rfl rfl (sw_true rfl rfl rfl (by decide +kernel)) (own := [("row", 2)]) (jix_split (l := [32]) (je_rd 0)) (blkOk_by (own := [("row", 2)]) (N := N_read_table) (sc := (defScope s_read_table)) (by decide +kernel)) (fun _ _ _ _ _ => (jg_name 2 sc.nd)) (fun _ _ _ _ _ => jts_nil) (fun _ _ _ _ _ => (jet_repl (ly := [47, 47]) (lz := [47]) (je_rd 2))))) jb_nil) (jb_cons (js_kill [0] (js_if (jt_w (jw_or (jt_not (jt_val (je_callL (argC_len argN_len) C_is_little.ok (hr.mono (by decide)) C_is_little.g C_is_little.kp C_is_little.b (takes_of rfl rfl rfl rfl) (jal_cons (je_look 1) jal_nil)))) (jw_or (jt_cmp op_gtA o2_gt (je_b2 (call_max2 rfl) fn_max rfl z.max (by decide +kernel) (je_b1 call_lenA fn_len rfl z.len (by decide +kernel) (je_look 1)) (je_b1 call_lenA fn_len rfl z.len (by decide +kernel) (je_ix (je_look 1) je_int))) (je_glob c.MOST_ROWS)) (jw_or1 (jt_cmp (op_neAll hr.units) o2_ne (je_callL (argC_len argN_len) C_show_table.ok (hr.mono (by decide)) C_show_table.g C_show_table.kp C_show_table.b (takes_of rfl rfl rfl rfl) (jal_cons (je_look 1) jal_nil)) (je_rd 0)))))) (jb_one (js_raise rfl (takes_of rfl rfl rfl rfl) PySem.F.excBase_ValueError r_NoText.q r_NoText.g r_NoText.k (raises_own r_NoText.h1 r_NoText.h2))) jb_nil)) (jb_one (js_ret (je_move 1)))))))⟩
abbrev s_law : Stmt := topS 21
theorem sc_law : FnScope N_law ["script"] (defScope s_law) := ⟨rfl, rfl, rfl, by decide +kernel, rfl, by decide +kernel, by decide +kernel⟩
theorem ok_law {f : Addr} {fd : FuncData} (T : FnT K mg "law" s_law ["script"] f fd) (z : Zs mg) {f_show_table : Addr} {d_show_table : FuncData} (C_show_table : Kn P w K mg base "show_table" ["little"] f_show_table d_show_table 4 (spF ⟨K, mg⟩ 1 .im m_show_table)) {f_read_table : Addr} {d_read_table : FuncData} (C_read_table : Kn P w K mg base "read_table" ["text"] f_read_table d_read_table 5 (spF ⟨K, mg⟩ 1 .fr m_read_table)) {f__law_pool : Addr} {d__law_pool : FuncData} (C__law_pool : Kn P w K mg base "_law_pool" ["script", "k"] f__law_pool d__law_pool 1 (spF ⟨K, mg⟩ 2 .fr m__law_pool)) {f__law_written : Addr} {d__law_written : FuncData} (C__law_written : Kn P w K mg base "_law_written" ["rows"] f__law_written d__law_written 1 (spF ⟨K, mg⟩ 1 .im m__law_written)) {f__law_any_table : Addr} {d__law_any_table : FuncData} (C__law_any_table : Kn P w K mg base "_law_any_table" ["pool"] f__law_any_table d__law_any_table 4 (spU ⟨K, mg⟩ 1 .im m__law_any_table)) : Kn P w K mg base "law" ["script"] f fd 6 (spF ⟨K, mg⟩ 1 .im m_law) := by
  have sc := sc_law
  exact ⟨T.g, T.F.kp, T.b, fn_F T.F sc_law (by decide) fun cdv A outer s H E hr => show JB _ _ _ (defBody s_law) (seqS (killS [0] (forS (rng1M (op2 oMax (ret (.int 1)) (op2 oMin (ret (.int 6)) (op1 oLen (rd 0))))) (tgN 1) b_law_2)) (seqS (setS 2 (op2 oMulA (lstE (argC (op2 oMulA (ret (.str [47])) (ret (.int 40))) argN)) (ret (.int 40)))) (retS (andE (op2 oEq (callF m_show_table (argC (rd 2) argN)) (strM (ret (.str [32])) (op2 oMulA (lstE (argC (op2 oMulA (ret (.str [47, 47])) (ret (.int 40))) argN)) (ret (.int 40))) oJoin)) (op2 oEq (callF m_read_table (argC (strM (ret (.str [32])) (op2 oMulA (lstE (argC (op2 oMulA (ret (.str [47, 47])) (ret (.int 40))) argN)) (ret (.int 40))) oJoin) argN)) (rd 2)))))) from
    (jb_cons (js_kill [0] (js_for (passes_of rfl) rfl (ji_range1 rfl z.range (je_b2 (call_max2 rfl) fn_max rfl z.max (by decide +kernel) je_int (je_b2 (call_min2 rfl) fn_min rfl z.min (by decide +kernel) je_int (je_b1 call_lenA fn_len rfl z.len (by decide +kernel) (je_rd 0))))) (jg_name 1 sc.nd) (jb_cons (js_kill [1] (js_own 3 sc.nd (je_call (argC_len (argC_len argN_len)) C__law_pool.ok (hr.mono (by decide)) C__law_pool.g C__law_pool.kp C__law_pool.b (takes_of rfl rfl rfl rfl) (ja_cons (je_rd 0) (ja_cons (je_rd 1) ja_nil))))) (jb_cons (js_kill [3] (js_set 4 sc.nd (je_callU 3 argN_len (by decide) C__law_any_table.ok (hr.mono (by decide)) C__law_any_table.g C__law_any_table.kp C__law_any_table.b (takes_of rfl rfl rfl rfl) ja_nil))) (jb_cons (js_set 5 sc.nd (je_call (argC_len argN_len) C__law_written.ok (hr.mono (by decide)) C__law_written.g C__law_written.kp C__law_written.b (takes_of rfl rfl rfl rfl) (ja_cons (je_rd 4) ja_nil))) (jb_cons (js_set 6 sc.nd (JE.im (je_t1 call_listA (fn_listA (k := .fr) (by decide)) rfl z.list (by decide +kernel) (je_rd 4)))) (jb_one (js_kill [4, 5, 6] (js_for (passes_of rfl) rfl (ji_range1 rfl z.range je_int) (jg_name 7 sc.nd) (jb_cons (js_kill [7] (js_set 8 sc.nd (je_call (argC_len argN_len) C_show_table.ok (hr.mono (by decide)) C_show_table.g C_show_table.kp C_show_table.b (takes_of rfl rfl rfl rfl) (ja_cons (je_rd 6) ja_nil)))) (jb_cons (js_if (jt_w (jw_or (jt_not (jt_val (je_isi isi_str rfl z.isinstance (by decide +kernel) rfl z.str (by decide +kernel) (je_rd 8)))) (jw_or (jt_cmp (op_neAll hr.units) o2_ne (je_rd 8) (je_rd 5)) (jw_or1 (jt_cmp (op_neAll hr.units) o2_ne (je_rd 6) (je_rd 4)))))) (jb_one (js_ret je_bl)) jb_nil) (jb_cons (js_kill [8] (js_own 9 sc.nd (je_call (argC_len argN_len) C_read_table.ok (hr.mono (by decide)) C_read_table.g C_read_table.kp C_read_table.b (takes_of rfl rfl rfl rfl) (ja_cons (je_rd 8) ja_nil)))) (jb_cons (js_if (jt_w (jw_or (jt_not (jt_val (je_isi isi_list rfl z.isinstance (by decide +kernel) rfl z.list (by decide +kernel) (je_look 9)))) (jw_or1 (jt_cmp (op_neAll hr.units) o2_ne (je_look 9) (je_rd 4))))) (jb_one (js_ret je_bl)) jb_nil) (jb_cons (js_if (jt_look (jt_cmp (op_neAll hr.units) o2_ne (je_lc rfl sc.nd (own := [("row", 10)]) (ji_val (je_rd 9)) (blkOk_by (own := [("row", 10)]) (N := N_law) (sc := (defScope s_law)) (by decide +kernel)) (fun _ _ _ _ _ => (jg_name 10 sc.nd)) (fun _ _ _ _ _ => (jts_one (jt_not (jt_val (je_isi isi_str rfl z.isinstance (by decide +kernel) rfl z.str (by decide +kernel) (je_rd 10)))))) (fun _ _ _ _ _ => je_int)) (je_lst ja_nil))) (jb_one (js_ret je_bl)) jb_nil) (jb_cons (js_expr (je_mut 9 PySem.F.plainAttrs_list PySem.F.slot_list_append PySem.F.type_list_append mt_append mo_append (ja_cons (je_str (l := [115, 112, 111, 105, 108, 116])) ja_nil))) (jb_one (js_kill [9] (js_ix 9 (je_str (l := [])) je_int)))))))))))))))))) (jb_cons (js_set 2 sc.nd (je_op op_mulAll o2_mulA (je_lst (ja_cons (je_op op_mulAll o2_mulA (je_str (l := [47])) je_int) ja_nil)) je_int)) (jb_one (js_ret (je_and (je_cmp (op_eqAll hr.units) o2_eq (je_call (argC_len argN_len) C_show_table.ok (hr.mono (by decide)) C_show_table.g C_show_table.kp C_show_table.b (takes_of rfl rfl rfl rfl) (ja_cons (je_rd 2) ja_nil)) (je_join (je_str (l := [32])) (je_op op_mulAll o2_mulA (je_lst (ja_cons (je_op op_mulAll o2_mulA (je_str (l := [47, 47])) je_int) ja_nil)) je_int))) (je_one (je_cmp (op_eqAll hr.units) o2_eq (je_call (argC_len argN_len) C_read_table.ok (hr.mono (by decide)) C_read_table.g C_read_table.kp C_read_table.b (takes_of rfl rfl rfl rfl) (ja_cons (je_join (je_str (l := [32])) (je_op op_mulAll o2_mulA (je_lst (ja_cons (je_op op_mulAll o2_mulA (je_str (l := [47, 47])) je_int) ja_nil)) je_int)) ja_nil)) (je_rd 2))))))))⟩
theorem all_mk {h : Heap} {fa : Addr} (X : K.In h) (G : h.Ns mainGlobals mg) (hfa : mg "law" = some (.ref fa))
    {f0 : Addr} {od0 an0 : Option Addr} {sl0 : Array (Option Value)} {oc0 kV0 dc0 pm0 cd0 ct0 : Value} (a0 : PySem.W.nsIn K mainGlobals "is_row" = some (some (.ref f0))) (l0 : K.lookup f0 = some ⟨oc0, od0, .func (PySem.W.fnOf "is_row" "is_row" (defArgs s_is_row) (defBody s_is_row) (defScope s_is_row) .none kV0 dc0 pm0 an0 cd0 ct0), sl0⟩) (c0 : PySem.W.codeIn K cd0 "is_row" = true) (k0 : PySem.W.keepIn K (.ref f0) = true)
    {f1 : Addr} {od1 an1 : Option Addr} {sl1 : Array (Option Value)} {oc1 kV1 dc1 pm1 cd1 ct1 : Value} (a1 : PySem.W.nsIn K mainGlobals "_law_pool" = some (some (.ref f1))) (l1 : K.lookup f1 = some ⟨oc1, od1, .func (PySem.W.fnOf "_law_pool" "_law_pool" (defArgs s__law_pool) (defBody s__law_pool) (defScope s__law_pool) .none kV1 dc1 pm1 an1 cd1 ct1), sl1⟩) (c1 : PySem.W.codeIn K cd1 "_law_pool" = true) (k1 : PySem.W.keepIn K (.ref f1) = true)
    {f2 : Addr} {od2 an2 : Option Addr} {sl2 : Array (Option Value)} {oc2 kV2 dc2 pm2 cd2 ct2 : Value} (a2 : PySem.W.nsIn K mainGlobals "_law_draw" = some (some (.ref f2))) (l2 : K.lookup f2 = some ⟨oc2, od2, .func (PySem.W.fnOf "_law_draw" "_law_draw" (defArgs s__law_draw) (defBody s__law_draw) (defScope s__law_draw) .none kV2 dc2 pm2 an2 cd2 ct2), sl2⟩) (c2 : PySem.W.codeIn K cd2 "_law_draw" = true) (k2 : PySem.W.keepIn K (.ref f2) = true)
    {f3 : Addr} {od3 an3 : Option Addr} {sl3 : Array (Option Value)} {oc3 kV3 dc3 pm3 cd3 ct3 : Value} (a3 : PySem.W.nsIn K mainGlobals "_law_written" = some (some (.ref f3))) (l3 : K.lookup f3 = some ⟨oc3, od3, .func (PySem.W.fnOf "_law_written" "_law_written" (defArgs s__law_written) (defBody s__law_written) (defScope s__law_written) .none kV3 dc3 pm3 an3 cd3 ct3), sl3⟩) (c3 : PySem.W.codeIn K cd3 "_law_written" = true) (k3 : PySem.W.keepIn K (.ref f3) = true)
    {f4 : Addr} {od4 an4 : Option Addr} {sl4 : Array (Option Value)} {oc4 kV4 dc4 pm4 cd4 ct4 : Value} (a4 : PySem.W.nsIn K mainGlobals "is_little" = some (some (.ref f4))) (l4 : K.lookup f4 = some ⟨oc4, od4, .func (PySem.W.fnOf "is_little" "is_little" (defArgs s_is_little) (defBody s_is_little) (defScope s_is_little) .none kV4 dc4 pm4 an4 cd4 ct4), sl4⟩) (c4 : PySem.W.codeIn K cd4 "is_little" = true) (k4 : PySem.W.keepIn K (.ref f4) = true)
    {f5 : Addr} {od5 an5 : Option Addr} {sl5 : Array (Option Value)} {oc5 kV5 dc5 pm5 cd5 ct5 : Value} (a5 : PySem.W.nsIn K mainGlobals "_law_some_signs" = some (some (.ref f5))) (l5 : K.lookup f5 = some ⟨oc5, od5, .func (PySem.W.fnOf "_law_some_signs" "_law_some_signs" (defArgs s__law_some_signs) (defBody s__law_some_signs) (defScope s__law_some_signs) .none kV5 dc5 pm5 an5 cd5 ct5), sl5⟩) (c5 : PySem.W.codeIn K cd5 "_law_some_signs" = true) (k5 : PySem.W.keepIn K (.ref f5) = true)
    {f6 : Addr} {od6 an6 : Option Addr} {sl6 : Array (Option Value)} {oc6 kV6 dc6 pm6 cd6 ct6 : Value} (a6 : PySem.W.nsIn K mainGlobals "_law_row" = some (some (.ref f6))) (l6 : K.lookup f6 = some ⟨oc6, od6, .func (PySem.W.fnOf "_law_row" "_law_row" (defArgs s__law_row) (defBody s__law_row) (defScope s__law_row) .none kV6 dc6 pm6 an6 cd6 ct6), sl6⟩) (c6 : PySem.W.codeIn K cd6 "_law_row" = true) (k6 : PySem.W.keepIn K (.ref f6) = true)
    {f7 : Addr} {od7 an7 : Option Addr} {sl7 : Array (Option Value)} {oc7 kV7 dc7 pm7 cd7 ct7 : Value} (a7 : PySem.W.nsIn K mainGlobals "need_little" = some (some (.ref f7))) (l7 : K.lookup f7 = some ⟨oc7, od7, .func (PySem.W.fnOf "need_little" "need_little" (defArgs s_need_little) (defBody s_need_little) (defScope s_need_little) .none kV7 dc7 pm7 an7 cd7 ct7), sl7⟩) (c7 : PySem.W.codeIn K cd7 "need_little" = true) (k7 : PySem.W.keepIn K (.ref f7) = true)
    {f8 : Addr} {od8 an8 : Option Addr} {sl8 : Array (Option Value)} {oc8 kV8 dc8 pm8 cd8 ct8 : Value} (a8 : PySem.W.nsIn K mainGlobals "_law_table" = some (some (.ref f8))) (l8 : K.lookup f8 = some ⟨oc8, od8, .func (PySem.W.fnOf "_law_table" "_law_table" (defArgs s__law_table) (defBody s__law_table) (defScope s__law_table) .none kV8 dc8 pm8 an8 cd8 ct8), sl8⟩) (c8 : PySem.W.codeIn K cd8 "_law_table" = true) (k8 : PySem.W.keepIn K (.ref f8) = true)
    {f9 : Addr} {od9 an9 : Option Addr} {sl9 : Array (Option Value)} {oc9 kV9 dc9 pm9 cd9 ct9 : Value} (a9 : PySem.W.nsIn K mainGlobals "show_table" = some (some (.ref f9))) (l9 : K.lookup f9 = some ⟨oc9, od9, .func (PySem.W.fnOf "show_table" "show_table" (defArgs s_show_table) (defBody s_show_table) (defScope s_show_table) .none kV9 dc9 pm9 an9 cd9 ct9), sl9⟩) (c9 : PySem.W.codeIn K cd9 "show_table" = true) (k9 : PySem.W.keepIn K (.ref f9) = true)
    {f10 : Addr} {od10 an10 : Option Addr} {sl10 : Array (Option Value)} {oc10 kV10 dc10 pm10 cd10 ct10 : Value} (a10 : PySem.W.nsIn K mainGlobals "_law_any_table" = some (some (.ref f10))) (l10 : K.lookup f10 = some ⟨oc10, od10, .func (PySem.W.fnOf "_law_any_table" "_law_any_table" (defArgs s__law_any_table) (defBody s__law_any_table) (defScope s__law_any_table) .none kV10 dc10 pm10 an10 cd10 ct10), sl10⟩) (c10 : PySem.W.codeIn K cd10 "_law_any_table" = true) (k10 : PySem.W.keepIn K (.ref f10) = true)
    {f11 : Addr} {od11 an11 : Option Addr} {sl11 : Array (Option Value)} {oc11 kV11 dc11 pm11 cd11 ct11 : Value} (a11 : PySem.W.nsIn K mainGlobals "read_table" = some (some (.ref f11))) (l11 : K.lookup f11 = some ⟨oc11, od11, .func (PySem.W.fnOf "read_table" "read_table" (defArgs s_read_table) (defBody s_read_table) (defScope s_read_table) .none kV11 dc11 pm11 an11 cd11 ct11), sl11⟩) (c11 : PySem.W.codeIn K cd11 "read_table" = true) (k11 : PySem.W.keepIn K (.ref f11) = true)
    {f12 : Addr} {od12 an12 : Option Addr} {sl12 : Array (Option Value)} {oc12 kV12 dc12 pm12 cd12 ct12 : Value} (a12 : PySem.W.nsIn K mainGlobals "law" = some (some (.ref f12))) (l12 : K.lookup f12 = some ⟨oc12, od12, .func (PySem.W.fnOf "law" "law" (defArgs s_law) (defBody s_law) (defScope s_law) .none kV12 dc12 pm12 an12 cd12 ct12), sl12⟩) (c12 : PySem.W.codeIn K cd12 "law" = true) (k12 : PySem.W.keepIn K (.ref f12) = true)
    (z0 : PySem.W.nsIn K mainGlobals "int" = some none)
    (z1 : PySem.W.nsIn K mainGlobals "isinstance" = some none)
    (z2 : PySem.W.nsIn K mainGlobals "len" = some none)
    (z3 : PySem.W.nsIn K mainGlobals "list" = some none)
    (z4 : PySem.W.nsIn K mainGlobals "max" = some none)
    (z5 : PySem.W.nsIn K mainGlobals "min" = some none)
    (z6 : PySem.W.nsIn K mainGlobals "ord" = some none)
    (z7 : PySem.W.nsIn K mainGlobals "range" = some none)
    (z8 : PySem.W.nsIn K mainGlobals "str" = some none)
    {qt0 : Tok} (gk0 : PySem.W.nsIn K mainGlobals "MOST_ROWS" = some (some (.int 40 qt0)))
    {qt1 : Tok} (gk1 : PySem.W.nsIn K mainGlobals "PER_CENT" = some (some (.int 37 qt1)))
    {ea0 : Addr}
    (ee0 : PySem.W.nsIn K mainGlobals "NoTable" = some (some (.ref ea0)))
    {ea1 : Addr}
    (ee1 : PySem.W.nsIn K mainGlobals "NoText" = some (some (.ref ea1)))
    (esp : PySem.W.specialIn K (.builtin "object.__class__") "__get__" = some (some (.builtin "getset_descriptor.__get__")))
    (etk : PySem.W.takesIn K (.builtin "object.__class__") = some true)
    (es0 : PySem.W.subIn K (.ref ea0) (.type "BaseException") = some true)
    (et0 : PySem.W.typeIn K (.ref ea0) = some (.type "type"))
    (ed0 : PySem.W.hasDictIn K ea0 = true)
    (eq0 : PySem.W.excIn K ea0 [.type "ValueError", .type "Exception", .type "BaseException", .type "object"] "ValueError.__new__" = true)
    (ep0 : PySem.W.keepIn K (.ref ea0) = true)
    (es1 : PySem.W.subIn K (.ref ea1) (.type "BaseException") = some true)
    (et1 : PySem.W.typeIn K (.ref ea1) = some (.type "type"))
    (ed1 : PySem.W.hasDictIn K ea1 = true)
    (eq1 : PySem.W.excIn K ea1 [.type "ValueError", .type "Exception", .type "BaseException", .type "object"] "ValueError.__new__" = true)
    (ep1 : PySem.W.keepIn K (.ref ea1) = true)
    (hm : ∀ ns : List Int, ns.length ≤ 63 → m_law [.fz (ns.map .int)] = .ret (.bl true) .non) :
    ∃ fd : FuncData, (∀ (s : Shared) (v : Value), BindsTo s fd ⟨[v], []⟩ [("script", v)]) ∧ ∀ base : Heap, K.In base → base.Ns mainGlobals mg → FnOk P w K mg base (L2.CX P w) 6 fa fd ["script"] (spLaw K) := by
  have e := hfa.symm.trans (PySem.W.mg_of X G a12)
  cases e
  have F0 := fun_mk (st := s_is_row) l0 c0 k0
  have b0 := F0.binds (ps := ["thing"]) fun _ _ _ _ _ _ us hl => match us, hl with | [_], _ => rfl
  have F1 := fun_mk (st := s__law_pool) l1 c1 k1
  have b1 := F1.binds (ps := ["script", "k"]) fun _ _ _ _ _ _ us hl => match us, hl with | [_, _], _ => rfl
  have F2 := fun_mk (st := s__law_draw) l2 c2 k2
  have b2 := F2.binds (ps := ["pool", "many"]) fun _ _ _ _ _ _ us hl => match us, hl with | [_, _], _ => rfl
  have F3 := fun_mk (st := s__law_written) l3 c3 k3
  have b3 := F3.binds (ps := ["rows"]) fun _ _ _ _ _ _ us hl => match us, hl with | [_], _ => rfl
  have F4 := fun_mk (st := s_is_little) l4 c4 k4
  have b4 := F4.binds (ps := ["thing"]) fun _ _ _ _ _ _ us hl => match us, hl with | [_], _ => rfl
  have F5 := fun_mk (st := s__law_some_signs) l5 c5 k5
  have b5 := F5.binds (ps := ["pool"]) fun _ _ _ _ _ _ us hl => match us, hl with | [_], _ => rfl
  have F6 := fun_mk (st := s__law_row) l6 c6 k6
  have b6 := F6.binds (ps := ["pool", "signs", "columns", "often"]) fun _ _ _ _ _ _ us hl => match us, hl with | [_, _, _, _], _ => rfl
  have F7 := fun_mk (st := s_need_little) l7 c7 k7
  have b7 := F7.binds (ps := ["little"]) fun _ _ _ _ _ _ us hl => match us, hl with | [_], _ => rfl
  have F8 := fun_mk (st := s__law_table) l8 c8 k8
  have b8 := F8.binds (ps := ["pool", "signs", "rows", "columns", "often"]) fun _ _ _ _ _ _ us hl => match us, hl with | [_, _, _, _, _], _ => rfl
  have F9 := fun_mk (st := s_show_table) l9 c9 k9
  have b9 := F9.binds (ps := ["little"]) fun _ _ _ _ _ _ us hl => match us, hl with | [_], _ => rfl
  have F10 := fun_mk (st := s__law_any_table) l10 c10 k10
  have b10 := F10.binds (ps := ["pool"]) fun _ _ _ _ _ _ us hl => match us, hl with | [_], _ => rfl
  have F11 := fun_mk (st := s_read_table) l11 c11 k11
  have b11 := F11.binds (ps := ["text"]) fun _ _ _ _ _ _ us hl => match us, hl with | [_], _ => rfl
  have F12 := fun_mk (st := s_law) l12 c12 k12
  have b12 := F12.binds (ps := ["script"]) fun _ _ _ _ _ _ us hl => match us, hl with | [_], _ => rfl
  have z : Zs mg := ⟨PySem.W.mg_none_of X G z0, PySem.W.mg_none_of X G z1, PySem.W.mg_none_of X G z2, PySem.W.mg_none_of X G z3, PySem.W.mg_none_of X G z4, PySem.W.mg_none_of X G z5, PySem.W.mg_none_of X G z6, PySem.W.mg_none_of X G z7, PySem.W.mg_none_of X G z8⟩
  have x : Xs K mg := ⟨⟨ea0, ⟨eq0, PySem.W.mg_of X G ee0, ep0, es0, et0⟩⟩, ⟨ea1, ⟨eq1, PySem.W.mg_of X G ee1, ep1, es1, et1⟩⟩⟩
  have c : Cs ⟨K, mg⟩ := ⟨gc_int (PySem.W.mg_of X G gk0), gc_int (PySem.W.mg_of X G gk1)⟩
  refine ⟨PySem.W.fnOf "law" "law" (defArgs s_law) (defBody s_law) (defScope s_law) .none kV12 dc12 pm12 an12 cd12 ct12, fun s v => .of_eq rfl, fun base _ _ => ?_⟩
  have C0 := ok_is_row (P := P) (w := w) (base := base) ⟨F0, b0, PySem.W.mg_of X G a0⟩ z c
  have C1 := ok__law_pool (P := P) (w := w) (base := base) ⟨F1, b1, PySem.W.mg_of X G a1⟩ z
  have C2 := ok__law_draw (P := P) (w := w) (base := base) ⟨F2, b2, PySem.W.mg_of X G a2⟩
  have C3 := ok__law_written (P := P) (w := w) (base := base) ⟨F3, b3, PySem.W.mg_of X G a3⟩
  have C4 := ok_is_little (P := P) (w := w) (base := base) ⟨F4, b4, PySem.W.mg_of X G a4⟩ z C0
  have C5 := ok__law_some_signs (P := P) (w := w) (base := base) ⟨F5, b5, PySem.W.mg_of X G a5⟩ z C2
  have C6 := ok__law_row (P := P) (w := w) (base := base) ⟨F6, b6, PySem.W.mg_of X G a6⟩ z C2
  have C7 := ok_need_little (P := P) (w := w) (base := base) ⟨F7, b7, PySem.W.mg_of X G a7⟩ x C4
  have C8 := ok__law_table (P := P) (w := w) (base := base) ⟨F8, b8, PySem.W.mg_of X G a8⟩ z C6
  have C9 := ok_show_table (P := P) (w := w) (base := base) ⟨F9, b9, PySem.W.mg_of X G a9⟩ C7
  have C10 := ok__law_any_table (P := P) (w := w) (base := base) ⟨F10, b10, PySem.W.mg_of X G a10⟩ z C2 C5 C8
  have C11 := ok_read_table (P := P) (w := w) (base := base) ⟨F11, b11, PySem.W.mg_of X G a11⟩ z c x C4 C9
  have C12 := ok_law (P := P) (w := w) (base := base) ⟨F12, b12, PySem.W.mg_of X G a12⟩ z C9 C11 C1 C3 C10
  exact law_imp C12.ok hm
end
end Q

/-! CA: a pool by budget; one asking of it. -/
namespace Q
open PL
open PySem (Str)
/-- a pool that may be asked n times more -/
def Pool (n : Nat) (d : D) : Prop := ∃ a b c : Int, d = .lst [.int a, .int b, .int c] ∧ 0 ≤ c ∧ c + n ≤ 2 ^ 59
theorem Pool.less {n m : Nat} {d : D} (h : Pool n d) (hm : m ≤ n) : Pool m d := by
  obtain ⟨a, b, c, e, h0, h1⟩ := h
  exact ⟨a, b, c, e, h0, by omega⟩
theorem draw_ok {n : Nat} {d : D} {many : Int} (h : Pool (n + 1) d) (hm : 0 < many) (hl : many < 2 ^ 200) : ∃ v d', m__law_draw [d, .int many] = .ret (.int v) d' ∧ 0 ≤ v ∧ v < many ∧ Pool n d' := by
  obtain ⟨a, b, c, rfl, h0, hc⟩ := h
  by_cases hb : b = 1
  · subst hb
    refine ⟨a % many, .lst [.int (a / many), .int 1, .int c], ?_, Int.emod_nonneg _ (by omega), Int.emod_lt_of_pos _ hm, _, _, _, rfl, h0, by omega⟩
    simp -implicitDefEqProofs (disch := (first | assumption | omega | ((try simp only [List.length_map, List.length_range, List.length_append, List.length_cons, List.length_nil, List.length_reverse, List.length_take, List.length_drop, List.length_set]); omega))) only [m__law_draw, b__law_draw, bM_ok, bM_exc, bR_ok, bR_exc, bS_nx, bS_ret, bS_exc, bO_some, bOM_some, selM_t, selM_f, selS_t, selS_f, rdO_im, rdO_ow, lookO_im, lookO_ow, lookO_mu, moveO_ow, ownO_ow, ownO_mu, putO_ow, putO_mu, ofDR_ret, ofDR_exc, ofDU_ret, ofDU_exc, endF_nx, endF_ret, endF_exc, endU_nx, endU_ret, endU_exc, e_runF, e_runU, e_bind, e_ret, e_lift, e_rd, e_look, e_move, e_ownC, e_putC, e_op2, e_op1, e_tst, e_notM, e_andM, e_orM, e_notE, e_andE, e_orE, e_iteE, e_chn, e_argN, e_argC, e_tupE, e_lstE, e_noP, e_partM, e_sl3, asStr_str, e_strM, e_callF, e_callU, e_useU, e_mutM, e_skip, e_seqS, e_ifS, e_exprS, e_retS, e_setS, e_ownS, e_stIx, e_tgS, e_tgN, e_tgT, e_tgCons, e_tgNil, parK_2, e_parS, e_forS, e_rng1M, e_rng2M, e_iterM, e_enumA, e_zipM, e_lcE, o_subI, o_addI, o_eqI, o_neI, o_eqS, o_neS, o_ltI, o_leI, o_gtI, o_geI, o_maxI, o_minI, o_lenL, o_lenF, o_lenT, o_negI, o_asB, o_isiS, List.map_cons, List.map_nil, List.length_cons, List.length_nil, List.cons_append, List.nil_append, List.append_nil, List.replicate_succ, List.replicate_zero, List.getElem?_cons_succ, List.getElem?_cons_zero, List.set_cons_succ, List.set_cons_zero, Option.map_some, Option.map_none, Option.bind_some, Option.bind_none, if_true, if_false, ite_true, ite_false, decide_true, decide_false, Bool.not_true, Bool.not_false, Nat.zero_add, Nat.reduceAdd, Nat.reduceSub, reduceIte, reduceCtorEq, Nat.reduceLT, Nat.reduceLeDiff, Int.reduceLT, Int.reduceLE, Int.reduceToNat, Int.reduceNeg, Int.reduceEq, Int.reduceSub, Int.reduceAdd, Int.reduceMul, Int.reducePow, tyOk, beq_self_eq_true, e_freeP1, e_freeP2, freeO_no, freeO_im, e_wipe1, e_wipe2, e_back1, e_back2, backO_s, o_iterL, o_iterF, o_iterT, Bool.and_true, sK_nx, sK_ret, tK_nx, tK_ret, e_tryS, e_raiseS, o_isE, o_isEN, o_notNN, o_notNE, o_isNN, o_isNE, e_prN, e_prC, e_dispE, e_zipA, o_zipSS, o_zipSL, o_zipLL, o_asI, e_callL, ofDL_bl, ofDL_int, ofDL_str, ofDL_non, ofDL_exc, e_killS, kK_nx, kK_ret, kK_exc, e_wipeC, e_wipeN, e_backC, e_backN, e_stp, e_lcs, joinC_t, joinC_f, joinC_ok, e_augI, augO_int, e_getE, e_dixE, asD_k, keyD_s, keyD_i, e_bSkK, e_kiY, e_frzS, kF_nx, e_frzO, fO_ow, e_freeP3, e_strX, e_rng3A, o_iterM, e_lckS, kL_nx, e_lckO, lO_k, lO_t, e_iterK, o_iterKk, o_iterKt, e_getA, e_dixA, isDct_k, isDct_t, isDct_fk, isDct_ft, oGetA_k, oGetA_fk, oGetA_t, oGetA_ft, id_eq, e_iterL, e_lookT, lookR_ok, frzA_c, frzA_n, frz_im', frz_ow', frz_mu', frz_no', ix0, ix1, ix2, set0, set2, o_modI, o_divB]
  · simp -implicitDefEqProofs (disch := (first | assumption | omega | ((try simp only [List.length_map, List.length_range, List.length_append, List.length_cons, List.length_nil, List.length_reverse, List.length_take, List.length_drop, List.length_set]); omega))) only [m__law_draw, b__law_draw, bM_ok, bM_exc, bR_ok, bR_exc, bS_nx, bS_ret, bS_exc, bO_some, bOM_some, selM_t, selM_f, selS_t, selS_f, rdO_im, rdO_ow, lookO_im, lookO_ow, lookO_mu, moveO_ow, ownO_ow, ownO_mu, putO_ow, putO_mu, ofDR_ret, ofDR_exc, ofDU_ret, ofDU_exc, endF_nx, endF_ret, endF_exc, endU_nx, endU_ret, endU_exc, e_runF, e_runU, e_bind, e_ret, e_lift, e_rd, e_look, e_move, e_ownC, e_putC, e_op2, e_op1, e_tst, e_notM, e_andM, e_orM, e_notE, e_andE, e_orE, e_iteE, e_chn, e_argN, e_argC, e_tupE, e_lstE, e_noP, e_partM, e_sl3, asStr_str, e_strM, e_callF, e_callU, e_useU, e_mutM, e_skip, e_seqS, e_ifS, e_exprS, e_retS, e_setS, e_ownS, e_stIx, e_tgS, e_tgN, e_tgT, e_tgCons, e_tgNil, parK_2, e_parS, e_forS, e_rng1M, e_rng2M, e_iterM, e_enumA, e_zipM, e_lcE, o_subI, o_addI, o_eqI, o_neI, o_eqS, o_neS, o_ltI, o_leI, o_gtI, o_geI, o_maxI, o_minI, o_lenL, o_lenF, o_lenT, o_negI, o_asB, o_isiS, List.map_cons, List.map_nil, List.length_cons, List.length_nil, List.cons_append, List.nil_append, List.append_nil, List.replicate_succ, List.replicate_zero, List.getElem?_cons_succ, List.getElem?_cons_zero, List.set_cons_succ, List.set_cons_zero, Option.map_some, Option.map_none, Option.bind_some, Option.bind_none, if_true, if_false, ite_true, ite_false, decide_true, decide_false, Bool.not_true, Bool.not_false, Nat.zero_add, Nat.reduceAdd, Nat.reduceSub, reduceIte, reduceCtorEq, Nat.reduceLT, Nat.reduceLeDiff, Int.reduceLT, Int.reduceLE, Int.reduceToNat, Int.reduceNeg, Int.reduceEq, Int.reduceSub, Int.reduceAdd, Int.reduceMul, Int.reducePow, tyOk, beq_self_eq_true, e_freeP1, e_freeP2, freeO_no, freeO_im, e_wipe1, e_wipe2, e_back1, e_back2, backO_s, o_iterL, o_iterF, o_iterT, Bool.and_true, sK_nx, sK_ret, tK_nx, tK_ret, e_tryS, e_raiseS, o_isE, o_isEN, o_notNN, o_notNE, o_isNN, o_isNE, e_prN, e_prC, e_dispE, e_zipA, o_zipSS, o_zipSL, o_zipLL, o_asI, e_callL, ofDL_bl, ofDL_int, ofDL_str, ofDL_non, ofDL_exc, e_killS, kK_nx, kK_ret, kK_exc, e_wipeC, e_wipeN, e_backC, e_backN, e_stp, e_lcs, joinC_t, joinC_f, joinC_ok, e_augI, augO_int, e_getE, e_dixE, asD_k, keyD_s, keyD_i, e_bSkK, e_kiY, e_frzS, kF_nx, e_frzO, fO_ow, e_freeP3, e_strX, e_rng3A, o_iterM, e_lckS, kL_nx, e_lckO, lO_k, lO_t, e_iterK, o_iterKk, o_iterKt, e_getA, e_dixA, isDct_k, isDct_t, isDct_fk, isDct_ft, oGetA_k, oGetA_fk, oGetA_t, oGetA_ft, id_eq, e_iterL, e_lookT, lookR_ok, frzA_c, frzA_n, frz_im', frz_ow', frz_mu', frz_no', ix0, ix1, ix2, set0, set2, o_modI, o_divB, o_mulB, hb]
    exact ⟨_, _, rfl, Int.emod_nonneg _ (by omega), Int.emod_lt_of_pos _ hm, _, _, _, rfl, by omega, by omega⟩
/-- the pool of a number of the script -/
theorem pow18 : oPow (.int 10) (.int 18) = some (.int 1000000000000000000) := rfl
theorem pool_ok {ns : List Int} {k : Nat} (hk : k < 64) : ∃ d, m__law_pool [.fz (ns.map .int), .int k] = .ret d .non ∧ Pool 100000000 d := by
  by_cases h : (k : Int) < (ns.length : Int)
  · have hI : oIx (.fz (ns.map .int)) (.int k) = some (.int (ns.getD k 0)) := by
      have hk2 : k < ns.length := by omega
      rw [o_ixF (by omega) (by rw [List.length_map]; exact h), Int.toNat_natCast, List.getElem?_map, List.getElem?_eq_getElem hk2, List.getD_eq_getElem?_getD, List.getElem?_eq_getElem hk2]
      rfl
    have hl := List.length_map (as := ns) (f := D.int)
    simp -implicitDefEqProofs (disch := (first | assumption | omega | ((try simp only [List.length_map, List.length_range, List.length_append, List.length_cons, List.length_nil, List.length_reverse, List.length_take, List.length_drop, List.length_set]); omega))) only [m__law_pool, b__law_pool, bM_ok, bM_exc, bR_ok, bR_exc, bS_nx, bS_ret, bS_exc, bO_some, bOM_some, selM_t, selM_f, selS_t, selS_f, rdO_im, rdO_ow, lookO_im, lookO_ow, lookO_mu, moveO_ow, ownO_ow, ownO_mu, putO_ow, putO_mu, ofDR_ret, ofDR_exc, ofDU_ret, ofDU_exc, endF_nx, endF_ret, endF_exc, endU_nx, endU_ret, endU_exc, e_runF, e_runU, e_bind, e_ret, e_lift, e_rd, e_look, e_move, e_ownC, e_putC, e_op2, e_op1, e_tst, e_notM, e_andM, e_orM, e_notE, e_andE, e_orE, e_iteE, e_chn, e_argN, e_argC, e_tupE, e_lstE, e_noP, e_partM, e_sl3, asStr_str, e_strM, e_callF, e_callU, e_useU, e_mutM, e_skip, e_seqS, e_ifS, e_exprS, e_retS, e_setS, e_ownS, e_stIx, e_tgS, e_tgN, e_tgT, e_tgCons, e_tgNil, parK_2, e_parS, e_forS, e_rng1M, e_rng2M, e_iterM, e_enumA, e_zipM, e_lcE, o_subI, o_addI, o_eqI, o_neI, o_eqS, o_neS, o_ltI, o_leI, o_gtI, o_geI, o_maxI, o_minI, o_lenL, o_lenF, o_lenT, o_negI, o_asB, o_isiS, List.map_cons, List.map_nil, List.length_cons, List.length_nil, List.cons_append, List.nil_append, List.append_nil, List.replicate_succ, List.replicate_zero, List.getElem?_cons_succ, List.getElem?_cons_zero, List.set_cons_succ, List.set_cons_zero, Option.map_some, Option.map_none, Option.bind_some, Option.bind_none, if_true, if_false, ite_true, ite_false, decide_true, decide_false, Bool.not_true, Bool.not_false, Nat.zero_add, Nat.reduceAdd, Nat.reduceSub, reduceIte, reduceCtorEq, Nat.reduceLT, Nat.reduceLeDiff, Int.reduceLT, Int.reduceLE, Int.reduceToNat, Int.reduceNeg, Int.reduceEq, Int.reduceSub, Int.reduceAdd, Int.reduceMul, Int.reducePow, tyOk, beq_self_eq_true, e_freeP1, e_freeP2, freeO_no, freeO_im, e_wipe1, e_wipe2, e_back1, e_back2, backO_s, o_iterL, o_iterF, o_iterT, Bool.and_true, sK_nx, sK_ret, tK_nx, tK_ret, e_tryS, e_raiseS, o_isE, o_isEN, o_notNN, o_notNE, o_isNN, o_isNE, e_prN, e_prC, e_dispE, e_zipA, o_zipSS, o_zipSL, o_zipLL, o_asI, e_callL, ofDL_bl, ofDL_int, ofDL_str, ofDL_non, ofDL_exc, e_killS, kK_nx, kK_ret, kK_exc, e_wipeC, e_wipeN, e_backC, e_backN, e_stp, e_lcs, joinC_t, joinC_f, joinC_ok, e_augI, augO_int, e_getE, e_dixE, asD_k, keyD_s, keyD_i, e_bSkK, e_kiY, e_frzS, kF_nx, e_frzO, fO_ow, e_freeP3, e_strX, e_rng3A, o_iterM, e_lckS, kL_nx, e_lckO, lO_k, lO_t, e_iterK, o_iterKk, o_iterKt, e_getA, e_dixA, isDct_k, isDct_t, isDct_fk, isDct_ft, oGetA_k, oGetA_fk, oGetA_t, oGetA_ft, id_eq, e_iterL, e_lookT, lookR_ok, frzA_c, frzA_n, frz_im', frz_ow', frz_mu', frz_no', hl, h, hI, pow18, o_intB, o_mulB]
    exact ⟨_, rfl, _, _, _, rfl, by omega, by omega⟩
  · have hl := List.length_map (as := ns) (f := D.int)
    simp -implicitDefEqProofs (disch := (first | assumption | omega | ((try simp only [List.length_map, List.length_range, List.length_append, List.length_cons, List.length_nil, List.length_reverse, List.length_take, List.length_drop, List.length_set]); omega))) only [m__law_pool, b__law_pool, bM_ok, bM_exc, bR_ok, bR_exc, bS_nx, bS_ret, bS_exc, bO_some, bOM_some, selM_t, selM_f, selS_t, selS_f, rdO_im, rdO_ow, lookO_im, lookO_ow, lookO_mu, moveO_ow, ownO_ow, ownO_mu, putO_ow, putO_mu, ofDR_ret, ofDR_exc, ofDU_ret, ofDU_exc, endF_nx, endF_ret, endF_exc, endU_nx, endU_ret, endU_exc, e_runF, e_runU, e_bind, e_ret, e_lift, e_rd, e_look, e_move, e_ownC, e_putC, e_op2, e_op1, e_tst, e_notM, e_andM, e_orM, e_notE, e_andE, e_orE, e_iteE, e_chn, e_argN, e_argC, e_tupE, e_lstE, e_noP, e_partM, e_sl3, asStr_str, e_strM, e_callF, e_callU, e_useU, e_mutM, e_skip, e_seqS, e_ifS, e_exprS, e_retS, e_setS, e_ownS, e_stIx, e_tgS, e_tgN, e_tgT, e_tgCons, e_tgNil, parK_2, e_parS, e_forS, e_rng1M, e_rng2M, e_iterM, e_enumA, e_zipM, e_lcE, o_subI, o_addI, o_eqI, o_neI, o_eqS, o_neS, o_ltI, o_leI, o_gtI, o_geI, o_maxI, o_minI, o_lenL, o_lenF, o_lenT, o_negI, o_asB, o_isiS, List.map_cons, List.map_nil, List.length_cons, List.length_nil, List.cons_append, List.nil_append, List.append_nil, List.replicate_succ, List.replicate_zero, List.getElem?_cons_succ, List.getElem?_cons_zero, List.set_cons_succ, List.set_cons_zero, Option.map_some, Option.map_none, Option.bind_some, Option.bind_none, if_true, if_false, ite_true, ite_false, decide_true, decide_false, Bool.not_true, Bool.not_false, Nat.zero_add, Nat.reduceAdd, Nat.reduceSub, reduceIte, reduceCtorEq, Nat.reduceLT, Nat.reduceLeDiff, Int.reduceLT, Int.reduceLE, Int.reduceToNat, Int.reduceNeg, Int.reduceEq, Int.reduceSub, Int.reduceAdd, Int.reduceMul, Int.reducePow, tyOk, beq_self_eq_true, e_freeP1, e_freeP2, freeO_no, freeO_im, e_wipe1, e_wipe2, e_back1, e_back2, backO_s, o_iterL, o_iterF, o_iterT, Bool.and_true, sK_nx, sK_ret, tK_nx, tK_ret, e_tryS, e_raiseS, o_isE, o_isEN, o_notNN, o_notNE, o_isNN, o_isNE, e_prN, e_prC, e_dispE, e_zipA, o_zipSS, o_zipSL, o_zipLL, o_asI, e_callL, ofDL_bl, ofDL_int, ofDL_str, ofDL_non, ofDL_exc, e_killS, kK_nx, kK_ret, kK_exc, e_wipeC, e_wipeN, e_backC, e_backN, e_stp, e_lcs, joinC_t, joinC_f, joinC_ok, e_augI, augO_int, e_getE, e_dixE, asD_k, keyD_s, keyD_i, e_bSkK, e_kiY, e_frzS, kF_nx, e_frzO, fO_ow, e_freeP3, e_strX, e_rng3A, o_iterM, e_lckS, kL_nx, e_lckO, lO_k, lO_t, e_iterK, o_iterKk, o_iterKt, e_getA, e_dixA, isDct_k, isDct_t, isDct_fk, isDct_ft, oGetA_k, oGetA_fk, oGetA_t, oGetA_ft, id_eq, e_iterL, e_lookT, lookR_ok, frzA_c, frzA_n, frz_im', frz_ow', frz_mu', frz_no', hl, h, pow18, o_intB, o_mulB]
    exact ⟨_, rfl, _, _, _, rfl, by omega, by omega⟩
end Q

namespace Q
open PL
open PySem (Str)
/-- a table of texts -/
def Tab (h w : Nat) (T : List (List Nat)) : Prop := T.length = h ∧ ∀ r, r ∈ T → r.length = w ∧ ∀ c, c ∈ r → c < 128
def atT (T : List (List Nat)) (i j : Nat) : Nat := (T.getD i []).getD j 0
theorem row_at {T : List (List Nat)} {h w : Nat} {i : Int} (hT : Tab h w T) (h0 : 0 ≤ i) (h1 : i < h) : oIx (.lst (T.map .str)) (.int i) = some (.str (T.getD i.toNat [])) ∧ (T.getD i.toNat []).length = w := by
  have hi : i.toNat < T.length := by have := hT.1; omega
  have e : T.getD i.toNat [] = T[i.toNat] := by rw [List.getD_eq_getElem?_getD, List.getElem?_eq_getElem hi]; rfl
  rw [e]
  refine ⟨?_, (hT.2 _ (List.getElem_mem hi)).1⟩
  rw [o_ixL h0 (by rw [List.length_map]; omega), List.getElem?_map, List.getElem?_eq_getElem hi]
  rfl
theorem sign_at {s : List Nat} {w : Nat} {j : Int} (hs : s.length = w) (hz : w ≤ 1000) (h0 : 0 ≤ j) (h1 : j < w) : oIx (.str s) (.int j) = some (.str [s.getD j.toNat 0]) := by
  have hj : j.toNat < s.length := by omega
  rw [o_ixS (Nat.le_trans (Nat.le_of_eq hs) (Nat.le_trans hz (by decide))) h0 (by omega), List.getElem?_eq_getElem hj, List.getD_eq_getElem?_getD, List.getElem?_eq_getElem hj]
  rfl
theorem atT_lt {T : List (List Nat)} {h w i j : Nat} (hT : Tab h w T) (hi : i < h) (hj : j < w) : ∃ r, T[i]? = some r ∧ r[j]? = some (atT T i j) ∧ atT T i j < 128 := by
  have h1 : i < T.length := by rw [hT.1]; exact hi
  obtain ⟨l, c⟩ := hT.2 T[i] (List.getElem_mem h1)
  have h2 : j < T[i].length := by omega
  have e : atT T i j = T[i][j] := by
    unfold atT
    rw [List.getD_eq_getElem?_getD, List.getD_eq_getElem?_getD, List.getElem?_eq_getElem h1]
    show (T[i][j]?).getD 0 = _
    rw [List.getElem?_eq_getElem h2]; rfl
  refine ⟨T[i], List.getElem?_eq_getElem h1, ?_, ?_⟩
  · rw [e, List.getElem?_eq_getElem h2]
  · rw [e]; exact c _ (List.getElem_mem h2)
theorem ne_same {A : List (List Nat)} (h : Cps A) : oNe (.lst (A.map .str)) (.lst (A.map .str)) = some (.bl false) := by
  rw [o_neL h h, decide_eq_true rfl]
  rfl
theorem tab_cps {h w : Nat} {T : List (List Nat)} (hT : Tab h w T) : Cps T := fun s hs c hc => Nat.lt_trans ((hT.2 s hs).2 c hc) (by decide)
/-! ### the program's tables -/
def Sg (c : Nat) : Prop := 33 ≤ c ∧ c ≤ 126 ∧ c ≠ 37
/-- a little table: not empty, of good signs -/
structure Lit (h w : Nat) (T : List (List Nat)) : Prop where
  t : Tab h w T
  h0 : 0 < h
  w0 : 0 < w
  hh : h ≤ 1000
  hw : w ≤ 1000
  sg : ∀ r, r ∈ T → ∀ c, c ∈ r → Sg c
theorem is_row_ok {s : List Nat} (h : s ≠ []) (hl : s.length ≤ 1000) (hs : ∀ c, c ∈ s → Sg c) : m_is_row [.str s] = .ret (.bl true) .non := by
  have L := lc_filtL (vs := [1]) (h := tgN 1) (t := orM (notM (tst (chn oLe oLe (ret (.str [33])) (rd 1) (ret (.str [126]))))) (tst (op2 oEq (op1 oOrd (rd 1)) (ret K_PER_CENT)))) (el := rd 1) (τ := [.im (.str s), .no]) (A := s) (fun c => .str [c]) (fun c => .str [c]) (fun _ => false) (by omega) fun c hc => by
    obtain ⟨h1, h2, h3⟩ := hs c hc
    have h4 : ¬ ((c : Int) = 37) := by omega
    refine ⟨_, [.im (.str s), .im (.str [c])], rfl, ?_, fun _ => rfl, fun z => nomatch z⟩
    simp -implicitDefEqProofs only [bM_ok, bM_exc, bR_ok, bR_exc, bS_nx, bS_ret, bS_exc, bO_some, bOM_some, selM_t, selM_f, selS_t, selS_f, rdO_im, rdO_ow, lookO_im, lookO_ow, lookO_mu, moveO_ow, ownO_ow, ownO_mu, putO_ow, putO_mu, ofDR_ret, ofDR_exc, ofDU_ret, ofDU_exc, endF_nx, endF_ret, endF_exc, endU_nx, endU_ret, endU_exc, e_runF, e_runU, e_bind, e_ret, e_lift, e_rd, e_look, e_move, e_ownC, e_putC, e_op2, e_op1, e_tst, e_notM, e_andM, e_orM, e_notE, e_andE, e_orE, e_iteE, e_chn, e_argN, e_argC, e_tupE, e_lstE, e_noP, e_partM, e_sl3, asStr_str, e_strM, e_callF, e_callU, e_useU, e_mutM, e_skip, e_seqS, e_ifS, e_exprS, e_retS, e_setS, e_ownS, e_stIx, e_tgS, e_tgN, e_tgT, e_tgCons, e_tgNil, parK_2, e_parS, e_forS, e_rng1M, e_rng2M, e_iterM, e_enumA, e_zipM, e_lcE, o_subI, o_addI, o_eqI, o_neI, o_eqS, o_neS, o_ltI, o_leI, o_gtI, o_geI, o_maxI, o_minI, o_lenL, o_lenF, o_lenT, o_negI, o_asB, o_isiS, List.map_cons, List.map_nil, List.length_cons, List.length_nil, List.cons_append, List.nil_append, List.append_nil, List.replicate_succ, List.replicate_zero, List.getElem?_cons_succ, List.getElem?_cons_zero, List.set_cons_succ, List.set_cons_zero, Option.map_some, Option.map_none, Option.bind_some, Option.bind_none, if_true, if_false, ite_true, ite_false, decide_true, decide_false, Bool.not_true, Bool.not_false, Nat.zero_add, Nat.reduceAdd, Nat.reduceSub, reduceIte, reduceCtorEq, Nat.reduceLT, Nat.reduceLeDiff, Int.reduceLT, Int.reduceLE, Int.reduceToNat, Int.reduceNeg, Int.reduceEq, Int.reduceSub, Int.reduceAdd, Int.reduceMul, Int.reducePow, tyOk, beq_self_eq_true, e_freeP1, e_freeP2, freeO_no, freeO_im, e_wipe1, e_wipe2, e_back1, e_back2, backO_s, o_iterL, o_iterF, o_iterT, Bool.and_true, sK_nx, sK_ret, tK_nx, tK_ret, e_tryS, e_raiseS, o_isE, o_isEN, o_notNN, o_notNE, o_isNN, o_isNE, e_prN, e_prC, e_dispE, e_zipA, o_zipSS, o_zipSL, o_zipLL, o_asI, e_callL, ofDL_bl, ofDL_int, ofDL_str, ofDL_non, ofDL_exc, e_killS, kK_nx, kK_ret, kK_exc, e_wipeC, e_wipeN, e_backC, e_backN, e_stp, e_lcs, joinC_t, joinC_f, joinC_ok, e_augI, augO_int, e_getE, e_dixE, asD_k, keyD_s, keyD_i, e_bSkK, e_kiY, e_frzS, kF_nx, e_frzO, fO_ow, e_freeP3, e_strX, e_rng3A, o_iterM, e_lckS, kL_nx, e_lckO, lO_k, lO_t, e_iterK, o_iterKk, o_iterKt, e_getA, e_dixA, isDct_k, isDct_t, isDct_fk, isDct_ft, oGetA_k, oGetA_fk, oGetA_t, oGetA_ft, id_eq, e_iterL, e_lookT, lookR_ok, frzA_c, frzA_n, frz_im', frz_ow', frz_mu', frz_no', le_one, h1, h2, show oOrd (.str [c]) = some (.int c) from rfl, h4]
  rw [List.filter_eq_nil_iff.mpr (fun _ _ => by simp)] at L
  have E : oEq (.lst []) (.lst []) = some (.bl true) := rfl
  simp -implicitDefEqProofs only [m_is_row, b_is_row, bM_ok, bM_exc, bR_ok, bR_exc, bS_nx, bS_ret, bS_exc, bO_some, bOM_some, selM_t, selM_f, selS_t, selS_f, rdO_im, rdO_ow, lookO_im, lookO_ow, lookO_mu, moveO_ow, ownO_ow, ownO_mu, putO_ow, putO_mu, ofDR_ret, ofDR_exc, ofDU_ret, ofDU_exc, endF_nx, endF_ret, endF_exc, endU_nx, endU_ret, endU_exc, e_runF, e_runU, e_bind, e_ret, e_lift, e_rd, e_look, e_move, e_ownC, e_putC, e_op2, e_op1, e_tst, e_notM, e_andM, e_orM, e_notE, e_andE, e_orE, e_iteE, e_chn, e_argN, e_argC, e_tupE, e_lstE, e_noP, e_partM, e_sl3, asStr_str, e_strM, e_callF, e_callU, e_useU, e_mutM, e_skip, e_seqS, e_ifS, e_exprS, e_retS, e_setS, e_ownS, e_stIx, e_tgS, e_tgN, e_tgT, e_tgCons, e_tgNil, parK_2, e_parS, e_forS, e_rng1M, e_rng2M, e_iterM, e_enumA, e_zipM, e_lcE, o_subI, o_addI, o_eqI, o_neI, o_eqS, o_neS, o_ltI, o_leI, o_gtI, o_geI, o_maxI, o_minI, o_lenL, o_lenF, o_lenT, o_negI, o_asB, o_isiS, List.map_cons, List.map_nil, List.length_cons, List.length_nil, List.cons_append, List.nil_append, List.append_nil, List.replicate_succ, List.replicate_zero, List.getElem?_cons_succ, List.getElem?_cons_zero, List.set_cons_succ, List.set_cons_zero, Option.map_some, Option.map_none, Option.bind_some, Option.bind_none, if_true, if_false, ite_true, ite_false, decide_true, decide_false, Bool.not_true, Bool.not_false, Nat.zero_add, Nat.reduceAdd, Nat.reduceSub, reduceIte, reduceCtorEq, Nat.reduceLT, Nat.reduceLeDiff, Int.reduceLT, Int.reduceLE, Int.reduceToNat, Int.reduceNeg, Int.reduceEq, Int.reduceSub, Int.reduceAdd, Int.reduceMul, Int.reducePow, tyOk, beq_self_eq_true, e_freeP1, e_freeP2, freeO_no, freeO_im, e_wipe1, e_wipe2, e_back1, e_back2, backO_s, o_iterL, o_iterF, o_iterT, Bool.and_true, sK_nx, sK_ret, tK_nx, tK_ret, e_tryS, e_raiseS, o_isE, o_isEN, o_notNN, o_notNE, o_isNN, o_isNE, e_prN, e_prC, e_dispE, e_zipA, o_zipSS, o_zipSL, o_zipLL, o_asI, e_callL, ofDL_bl, ofDL_int, ofDL_str, ofDL_non, ofDL_exc, e_killS, kK_nx, kK_ret, kK_exc, e_wipeC, e_wipeN, e_backC, e_backN, e_stp, e_lcs, joinC_t, joinC_f, joinC_ok, e_augI, augO_int, e_getE, e_dixE, asD_k, keyD_s, keyD_i, e_bSkK, e_kiY, e_frzS, kF_nx, e_frzO, fO_ow, e_freeP3, e_strX, e_rng3A, o_iterM, e_lckS, kL_nx, e_lckO, lO_k, lO_t, e_iterK, o_iterKk, o_iterKt, e_getA, e_dixA, isDct_k, isDct_t, isDct_fk, isDct_ft, oGetA_k, oGetA_fk, oGetA_t, oGetA_ft, id_eq, e_iterL, e_lookT, lookR_ok, frzA_c, frzA_n, frz_im', frz_ow', frz_mu', frz_no', decide_eq_false h, iterS_map, L, E]
theorem is_little_ok {h w : Nat} {T : List (List Nat)} (hT : Lit h w T) : m_is_little [.lst (T.map .str)] = .ret (.bl true) .non := by
  have hne : T ≠ [] := fun e => by have := hT.t.1; rw [e] at this; have := hT.h0; simp at *; omega
  have hlen : T.length ≤ 1000 := by rw [hT.t.1]; exact hT.hh
  have row : ∀ r, r ∈ T → m_is_row [.str r] = .ret (.bl true) .non := fun r hr => is_row_ok (fun e => by
    have := (hT.t.2 r hr).1
    have := hT.w0
    rw [e] at *
    simp at *
    omega) (by rw [(hT.t.2 r hr).1]; exact hT.hw) (hT.sg r hr)
  have L1 := lc_filtL (vs := [1]) (h := tgN 1) (t := notM (tst (callF m_is_row (argC (rd 1) argN)))) (el := rd 1) (τ := [.im (.lst (T.map .str)), .no]) (A := T) .str .str (fun _ => false) (by omega) fun r hr => by
    refine ⟨_, [.im (.lst (T.map .str)), .im (.str r)], rfl, ?_, fun _ => rfl, fun z => nomatch z⟩
    simp -implicitDefEqProofs only [bM_ok, bM_exc, bR_ok, bR_exc, bS_nx, bS_ret, bS_exc, bO_some, bOM_some, selM_t, selM_f, selS_t, selS_f, rdO_im, rdO_ow, lookO_im, lookO_ow, lookO_mu, moveO_ow, ownO_ow, ownO_mu, putO_ow, putO_mu, ofDR_ret, ofDR_exc, ofDU_ret, ofDU_exc, endF_nx, endF_ret, endF_exc, endU_nx, endU_ret, endU_exc, e_runF, e_runU, e_bind, e_ret, e_lift, e_rd, e_look, e_move, e_ownC, e_putC, e_op2, e_op1, e_tst, e_notM, e_andM, e_orM, e_notE, e_andE, e_orE, e_iteE, e_chn, e_argN, e_argC, e_tupE, e_lstE, e_noP, e_partM, e_sl3, asStr_str, e_strM, e_callF, e_callU, e_useU, e_mutM, e_skip, e_seqS, e_ifS, e_exprS, e_retS, e_setS, e_ownS, e_stIx, e_tgS, e_tgN, e_tgT, e_tgCons, e_tgNil, parK_2, e_parS, e_forS, e_rng1M, e_rng2M, e_iterM, e_enumA, e_zipM, e_lcE, o_subI, o_addI, o_eqI, o_neI, o_eqS, o_neS, o_ltI, o_leI, o_gtI, o_geI, o_maxI, o_minI, o_lenL, o_lenF, o_lenT, o_negI, o_asB, o_isiS, List.map_cons, List.map_nil, List.length_cons, List.length_nil, List.cons_append, List.nil_append, List.append_nil, List.replicate_succ, List.replicate_zero, List.getElem?_cons_succ, List.getElem?_cons_zero, List.set_cons_succ, List.set_cons_zero, Option.map_some, Option.map_none, Option.bind_some, Option.bind_none, if_true, if_false, ite_true, ite_false, decide_true, decide_false, Bool.not_true, Bool.not_false, Nat.zero_add, Nat.reduceAdd, Nat.reduceSub, reduceIte, reduceCtorEq, Nat.reduceLT, Nat.reduceLeDiff, Int.reduceLT, Int.reduceLE, Int.reduceToNat, Int.reduceNeg, Int.reduceEq, Int.reduceSub, Int.reduceAdd, Int.reduceMul, Int.reducePow, tyOk, beq_self_eq_true, e_freeP1, e_freeP2, freeO_no, freeO_im, e_wipe1, e_wipe2, e_back1, e_back2, backO_s, o_iterL, o_iterF, o_iterT, Bool.and_true, sK_nx, sK_ret, tK_nx, tK_ret, e_tryS, e_raiseS, o_isE, o_isEN, o_notNN, o_notNE, o_isNN, o_isNE, e_prN, e_prC, e_dispE, e_zipA, o_zipSS, o_zipSL, o_zipLL, o_asI, e_callL, ofDL_bl, ofDL_int, ofDL_str, ofDL_non, ofDL_exc, e_killS, kK_nx, kK_ret, kK_exc, e_wipeC, e_wipeN, e_backC, e_backN, e_stp, e_lcs, joinC_t, joinC_f, joinC_ok, e_augI, augO_int, e_getE, e_dixE, asD_k, keyD_s, keyD_i, e_bSkK, e_kiY, e_frzS, kF_nx, e_frzO, fO_ow, e_freeP3, e_strX, e_rng3A, o_iterM, e_lckS, kL_nx, e_lckO, lO_k, lO_t, e_iterK, o_iterKk, o_iterKt, e_getA, e_dixA, isDct_k, isDct_t, isDct_fk, isDct_ft, oGetA_k, oGetA_fk, oGetA_t, oGetA_ft, id_eq, e_iterL, e_lookT, lookR_ok, frzA_c, frzA_n, frz_im', frz_ow', frz_mu', frz_no', row r hr]
  obtain ⟨e1, l1⟩ := row_at hT.t (i := 0) (by decide) (by have := hT.h0; omega)
  have l2 : (T.getD 0 []).length = w := l1
  have e2 : oLen (.str (T.getD 0 [])) = some (.int w) := by rw [o_lenS (by rw [l2]; have := hT.hw; omega), l2]
  have L2 := lc_filtL (vs := [1]) (h := tgN 1) (t := tst (op2 oNe (op1 oLen (rd 1)) (op1 oLen (op2 oIx (rd 0) (ret (.int 0)))))) (el := rd 1) (τ := [.im (.lst (T.map .str)), .no]) (A := T) .str .str (fun _ => false) (by omega) fun r hr => by
    have lr := (hT.t.2 r hr).1
    have e3 : oLen (.str r) = some (.int w) := by rw [o_lenS (by rw [lr]; have := hT.hw; omega), lr]
    refine ⟨_, [.im (.lst (T.map .str)), .im (.str r)], rfl, ?_, fun _ => rfl, fun z => nomatch z⟩
    simp -implicitDefEqProofs only [bM_ok, bM_exc, bR_ok, bR_exc, bS_nx, bS_ret, bS_exc, bO_some, bOM_some, selM_t, selM_f, selS_t, selS_f, rdO_im, rdO_ow, lookO_im, lookO_ow, lookO_mu, moveO_ow, ownO_ow, ownO_mu, putO_ow, putO_mu, ofDR_ret, ofDR_exc, ofDU_ret, ofDU_exc, endF_nx, endF_ret, endF_exc, endU_nx, endU_ret, endU_exc, e_runF, e_runU, e_bind, e_ret, e_lift, e_rd, e_look, e_move, e_ownC, e_putC, e_op2, e_op1, e_tst, e_notM, e_andM, e_orM, e_notE, e_andE, e_orE, e_iteE, e_chn, e_argN, e_argC, e_tupE, e_lstE, e_noP, e_partM, e_sl3, asStr_str, e_strM, e_callF, e_callU, e_useU, e_mutM, e_skip, e_seqS, e_ifS, e_exprS, e_retS, e_setS, e_ownS, e_stIx, e_tgS, e_tgN, e_tgT, e_tgCons, e_tgNil, parK_2, e_parS, e_forS, e_rng1M, e_rng2M, e_iterM, e_enumA, e_zipM, e_lcE, o_subI, o_addI, o_eqI, o_neI, o_eqS, o_neS, o_ltI, o_leI, o_gtI, o_geI, o_maxI, o_minI, o_lenL, o_lenF, o_lenT, o_negI, o_asB, o_isiS, List.map_cons, List.map_nil, List.length_cons, List.length_nil, List.cons_append, List.nil_append, List.append_nil, List.replicate_succ, List.replicate_zero, List.getElem?_cons_succ, List.getElem?_cons_zero, List.set_cons_succ, List.set_cons_zero, Option.map_some, Option.map_none, Option.bind_some, Option.bind_none, if_true, if_false, ite_true, ite_false, decide_true, decide_false, Bool.not_true, Bool.not_false, Nat.zero_add, Nat.reduceAdd, Nat.reduceSub, reduceIte, reduceCtorEq, Nat.reduceLT, Nat.reduceLeDiff, Int.reduceLT, Int.reduceLE, Int.reduceToNat, Int.reduceNeg, Int.reduceEq, Int.reduceSub, Int.reduceAdd, Int.reduceMul, Int.reducePow, tyOk, beq_self_eq_true, e_freeP1, e_freeP2, freeO_no, freeO_im, e_wipe1, e_wipe2, e_back1, e_back2, backO_s, o_iterL, o_iterF, o_iterT, Bool.and_true, sK_nx, sK_ret, tK_nx, tK_ret, e_tryS, e_raiseS, o_isE, o_isEN, o_notNN, o_notNE, o_isNN, o_isNE, e_prN, e_prC, e_dispE, e_zipA, o_zipSS, o_zipSL, o_zipLL, o_asI, e_callL, ofDL_bl, ofDL_int, ofDL_str, ofDL_non, ofDL_exc, e_killS, kK_nx, kK_ret, kK_exc, e_wipeC, e_wipeN, e_backC, e_backN, e_stp, e_lcs, joinC_t, joinC_f, joinC_ok, e_augI, augO_int, e_getE, e_dixE, asD_k, keyD_s, keyD_i, e_bSkK, e_kiY, e_frzS, kF_nx, e_frzO, fO_ow, e_freeP3, e_strX, e_rng3A, o_iterM, e_lckS, kL_nx, e_lckO, lO_k, lO_t, e_iterK, o_iterKk, o_iterKt, e_getA, e_dixA, isDct_k, isDct_t, isDct_fk, isDct_ft, oGetA_k, oGetA_fk, oGetA_t, oGetA_ft, id_eq, e_iterL, e_lookT, lookR_ok, frzA_c, frzA_n, frz_im', frz_ow', frz_mu', frz_no', e1, e2, e3]
  rw [List.filter_eq_nil_iff.mpr (fun _ _ => by simp)] at L1 L2
  have E : oEq (.lst []) (.lst []) = some (.bl true) := rfl
  have E2 : oNe (.lst []) (.lst []) = some (.bl false) := rfl
  have I : oIsi "list" (.lst (T.map .str)) = some (.bl true) := rfl
  simp -implicitDefEqProofs only [m_is_little, b_is_little, bM_ok, bM_exc, bR_ok, bR_exc, bS_nx, bS_ret, bS_exc, bO_some, bOM_some, selM_t, selM_f, selS_t, selS_f, rdO_im, rdO_ow, lookO_im, lookO_ow, lookO_mu, moveO_ow, ownO_ow, ownO_mu, putO_ow, putO_mu, ofDR_ret, ofDR_exc, ofDU_ret, ofDU_exc, endF_nx, endF_ret, endF_exc, endU_nx, endU_ret, endU_exc, e_runF, e_runU, e_bind, e_ret, e_lift, e_rd, e_look, e_move, e_ownC, e_putC, e_op2, e_op1, e_tst, e_notM, e_andM, e_orM, e_notE, e_andE, e_orE, e_iteE, e_chn, e_argN, e_argC, e_tupE, e_lstE, e_noP, e_partM, e_sl3, asStr_str, e_strM, e_callF, e_callU, e_useU, e_mutM, e_skip, e_seqS, e_ifS, e_exprS, e_retS, e_setS, e_ownS, e_stIx, e_tgS, e_tgN, e_tgT, e_tgCons, e_tgNil, parK_2, e_parS, e_forS, e_rng1M, e_rng2M, e_iterM, e_enumA, e_zipM, e_lcE, o_subI, o_addI, o_eqI, o_neI, o_eqS, o_neS, o_ltI, o_leI, o_gtI, o_geI, o_maxI, o_minI, o_lenL, o_lenF, o_lenT, o_negI, o_asB, o_isiS, List.map_cons, List.map_nil, List.length_cons, List.length_nil, List.cons_append, List.nil_append, List.append_nil, List.replicate_succ, List.replicate_zero, List.getElem?_cons_succ, List.getElem?_cons_zero, List.set_cons_succ, List.set_cons_zero, Option.map_some, Option.map_none, Option.bind_some, Option.bind_none, if_true, if_false, ite_true, ite_false, decide_true, decide_false, Bool.not_true, Bool.not_false, Nat.zero_add, Nat.reduceAdd, Nat.reduceSub, reduceIte, reduceCtorEq, Nat.reduceLT, Nat.reduceLeDiff, Int.reduceLT, Int.reduceLE, Int.reduceToNat, Int.reduceNeg, Int.reduceEq, Int.reduceSub, Int.reduceAdd, Int.reduceMul, Int.reducePow, tyOk, beq_self_eq_true, e_freeP1, e_freeP2, freeO_no, freeO_im, e_wipe1, e_wipe2, e_back1, e_back2, backO_s, o_iterL, o_iterF, o_iterT, Bool.and_true, sK_nx, sK_ret, tK_nx, tK_ret, e_tryS, e_raiseS, o_isE, o_isEN, o_notNN, o_notNE, o_isNN, o_isNE, e_prN, e_prC, e_dispE, e_zipA, o_zipSS, o_zipSL, o_zipLL, o_asI, e_callL, ofDL_bl, ofDL_int, ofDL_str, ofDL_non, ofDL_exc, e_killS, kK_nx, kK_ret, kK_exc, e_wipeC, e_wipeN, e_backC, e_backN, e_stp, e_lcs, joinC_t, joinC_f, joinC_ok, e_augI, augO_int, e_getE, e_dixE, asD_k, keyD_s, keyD_i, e_bSkK, e_kiY, e_frzS, kF_nx, e_frzO, fO_ow, e_freeP3, e_strX, e_rng3A, o_iterM, e_lckS, kL_nx, e_lckO, lO_k, lO_t, e_iterK, o_iterKk, o_iterKt, e_getA, e_dixA, isDct_k, isDct_t, isDct_fk, isDct_ft, oGetA_k, oGetA_fk, oGetA_t, oGetA_ft, id_eq, e_iterL, e_lookT, lookR_ok, frzA_c, frzA_n, frz_im', frz_ow', frz_mu', frz_no', I, o_eqNil (tab_cps hT.t), decide_eq_false hne, L1, L2, E, E2]
theorem need_little_ok {h w : Nat} {T : List (List Nat)} (hT : Lit h w T) : m_need_little [.lst (T.map .str)] = .ret .non .non := by
  simp -implicitDefEqProofs only [m_need_little, b_need_little, bM_ok, bM_exc, bR_ok, bR_exc, bS_nx, bS_ret, bS_exc, bO_some, bOM_some, selM_t, selM_f, selS_t, selS_f, rdO_im, rdO_ow, lookO_im, lookO_ow, lookO_mu, moveO_ow, ownO_ow, ownO_mu, putO_ow, putO_mu, ofDR_ret, ofDR_exc, ofDU_ret, ofDU_exc, endF_nx, endF_ret, endF_exc, endU_nx, endU_ret, endU_exc, e_runF, e_runU, e_bind, e_ret, e_lift, e_rd, e_look, e_move, e_ownC, e_putC, e_op2, e_op1, e_tst, e_notM, e_andM, e_orM, e_notE, e_andE, e_orE, e_iteE, e_chn, e_argN, e_argC, e_tupE, e_lstE, e_noP, e_partM, e_sl3, asStr_str, e_strM, e_callF, e_callU, e_useU, e_mutM, e_skip, e_seqS, e_ifS, e_exprS, e_retS, e_setS, e_ownS, e_stIx, e_tgS, e_tgN, e_tgT, e_tgCons, e_tgNil, parK_2, e_parS, e_forS, e_rng1M, e_rng2M, e_iterM, e_enumA, e_zipM, e_lcE, o_subI, o_addI, o_eqI, o_neI, o_eqS, o_neS, o_ltI, o_leI, o_gtI, o_geI, o_maxI, o_minI, o_lenL, o_lenF, o_lenT, o_negI, o_asB, o_isiS, List.map_cons, List.map_nil, List.length_cons, List.length_nil, List.cons_append, List.nil_append, List.append_nil, List.replicate_succ, List.replicate_zero, List.getElem?_cons_succ, List.getElem?_cons_zero, List.set_cons_succ, List.set_cons_zero, Option.map_some, Option.map_none, Option.bind_some, Option.bind_none, if_true, if_false, ite_true, ite_false, decide_true, decide_false, Bool.not_true, Bool.not_false, Nat.zero_add, Nat.reduceAdd, Nat.reduceSub, reduceIte, reduceCtorEq, Nat.reduceLT, Nat.reduceLeDiff, Int.reduceLT, Int.reduceLE, Int.reduceToNat, Int.reduceNeg, Int.reduceEq, Int.reduceSub, Int.reduceAdd, Int.reduceMul, Int.reducePow, tyOk, beq_self_eq_true, e_freeP1, e_freeP2, freeO_no, freeO_im, e_wipe1, e_wipe2, e_back1, e_back2, backO_s, o_iterL, o_iterF, o_iterT, Bool.and_true, sK_nx, sK_ret, tK_nx, tK_ret, e_tryS, e_raiseS, o_isE, o_isEN, o_notNN, o_notNE, o_isNN, o_isNE, e_prN, e_prC, e_dispE, e_zipA, o_zipSS, o_zipSL, o_zipLL, o_asI, e_callL, ofDL_bl, ofDL_int, ofDL_str, ofDL_non, ofDL_exc, e_killS, kK_nx, kK_ret, kK_exc, e_wipeC, e_wipeN, e_backC, e_backN, e_stp, e_lcs, joinC_t, joinC_f, joinC_ok, e_augI, augO_int, e_getE, e_dixE, asD_k, keyD_s, keyD_i, e_bSkK, e_kiY, e_frzS, kF_nx, e_frzO, fO_ow, e_freeP3, e_strX, e_rng3A, o_iterM, e_lckS, kL_nx, e_lckO, lO_k, lO_t, e_iterK, o_iterKk, o_iterKt, e_getA, e_dixA, isDct_k, isDct_t, isDct_fk, isDct_ft, oGetA_k, oGetA_fk, oGetA_t, oGetA_ft, id_eq, e_iterL, e_lookT, lookR_ok, frzA_c, frzA_n, frz_im', frz_ow', frz_mu', frz_no', is_little_ok hT]
theorem getD_mem {s : List Nat} {j : Nat} (h : j < s.length) : s.getD j 0 ∈ s := by
  rw [List.getD_eq_getElem?_getD, List.getElem?_eq_getElem h]
  exact List.getElem_mem h
end Q

/-! CH: helpers over Lit -/
namespace Q
open PL
open PySem (Str)
theorem Lit.mk' {h w : Nat} {T : List (List Nat)} (h0 : 0 < h) (w0 : 0 < w) (hh : h ≤ 1000) (hw : w ≤ 1000) (hl : T.length = h) (hT : ∀ r, r ∈ T → r.length = w ∧ ∀ c, c ∈ r → Sg c) : Lit h w T :=
  ⟨⟨hl, fun r hr => ⟨(hT r hr).1, fun c hc => by have := (hT r hr).2 c hc; unfold Sg at this; omega⟩⟩, h0, w0, hh, hw, fun r hr => (hT r hr).2⟩
theorem set_rows {h w i : Nat} {T : List (List Nat)} {s : List Nat} (hT : T.length = h ∧ ∀ r, r ∈ T → r.length = w ∧ ∀ c, c ∈ r → Sg c) (hs : s.length = w) (hc : ∀ c, c ∈ s → Sg c) : (T.set i s).length = h ∧ ∀ r, r ∈ T.set i s → r.length = w ∧ ∀ c, c ∈ r → Sg c :=
  ⟨by rw [List.length_set]; exact hT.1, fun r hr => by
    rcases List.mem_or_eq_of_mem_set hr with q | q
    · exact hT.2 r q
    · rw [q]
      exact ⟨hs, hc⟩⟩
theorem slT {s : List Nat} {a : Int} (hz : s.length ≤ 16777216) (h0 : 0 ≤ a) (h1 : a ≤ s.length) : oSl (.str s) none (some a) = some (.str (s.take a.toNat)) := by
  obtain ⟨n, rfl⟩ := Int.eq_ofNat_of_zero_le h0
  show (if s.length ≤ 16777216 then some (D.str (cutD s none (some (n : Int)))) else none) = _
  rw [if_pos hz]
  unfold cutD
  rw [show HT.sIx s.length 0 none = 0 from rfl, show HT.sIx s.length s.length (some (n : Int)) = min n s.length from HT.sIx_nat s.length s.length n, Nat.min_eq_left (by omega)]
  simp
theorem slF {s : List Nat} {a : Int} (hz : s.length ≤ 16777216) (h0 : 0 ≤ a) (h1 : a ≤ s.length) : oSl (.str s) (some a) none = some (.str (s.drop a.toNat)) := by
  obtain ⟨n, rfl⟩ := Int.eq_ofNat_of_zero_le h0
  show (if s.length ≤ 16777216 then some (D.str (cutD s (some (n : Int)) none)) else none) = _
  rw [if_pos hz]
  unfold cutD
  rw [show HT.sIx s.length s.length none = s.length from rfl, show HT.sIx s.length 0 (some (n : Int)) = min n s.length from HT.sIx_nat s.length 0 n, Nat.min_eq_left (by omega), List.take_of_length_le (by rw [List.length_drop]; exact Nat.le_refl _)]
  rfl
end Q

/-! TX: writing and reading back: doubled signs, joined and split texts. -/
namespace Q
open PL
open PySem (Str)
open PySem
open PyProof.Rows
theorem repl_dbl (c : Nat) : ∀ r : List Nat, StrLaws.replL [c] [c, c] r = StrLaws.dbl c r
  | [] => StrLaws.replL_nil
  | a :: r => by
    by_cases h : a = c
    · subst h
      rw [StrLaws.replL_hit (by simp) (by simp)]
      show [a, a] ++ StrLaws.replL [a] [a, a] r = _
      rw [repl_dbl a r]
      simp [StrLaws.dbl]
    · rw [StrLaws.replL_miss (by simp [h]), repl_dbl c r]
      simp [StrLaws.dbl, h]
theorem repl_back (c : Nat) : ∀ r : List Nat, StrLaws.replL [c, c] [c] (StrLaws.dbl c r) = r
  | [] => StrLaws.replL_nil
  | a :: r => by
    by_cases h : a = c
    · subst h
      have e : StrLaws.dbl a (a :: r) = a :: a :: StrLaws.dbl a r := by simp [StrLaws.dbl]
      rw [e, StrLaws.replL_hit (by simp) (by simp)]
      show [a] ++ StrLaws.replL [a, a] [a] (StrLaws.dbl a r) = _
      rw [repl_back a r]
      rfl
    · have e : StrLaws.dbl c (a :: r) = a :: StrLaws.dbl c r := by simp [StrLaws.dbl, h]
      rw [e, StrLaws.replL_miss (by simp [h]), repl_back c r]
theorem split_joinD {s : Nat} (hs : s < 256) {ps : List (List Nat)} (hne : ps ≠ []) (hp : ∀ p ∈ ps, s ∉ p) : splitL [s] (joinD [s] ps) = ps := by
  unfold splitL
  rw [← join_S, TL.split_join (s := s) (S := []) rfl (by simp [PL.S, hs]) (by simpa using hne) (fun p h => by
    obtain ⟨q, hq, rfl⟩ := List.mem_map.mp h
    exact hp q hq), List.map_map]
  conv => rhs; rw [← List.map_id ps]
  exact List.map_congr_left fun p _ => rfl
theorem sub_iff {a z : List Nat} (ha : a ≠ []) : (!(Builtin.Str.occurrences (S z) (S a) 0 z.length 1).isEmpty) = true ↔ ∃ i, (z.drop i).take a.length = a := by
  have e := StrLaws.found_iff (S z) (S a)
  rw [S_len] at e
  rw [e]
  have la : (S a).length = a.length := S_len a
  constructor
  · rintro ⟨i, _, h⟩
    rw [StrLaws.subAt_eq, la] at h
    exact ⟨i, eq_of_beq h⟩
  · rintro ⟨i, h⟩
    refine ⟨i, ?_, ?_⟩
    · have := congrArg List.length h
      rw [List.length_take, List.length_drop] at this
      have p : 0 < a.length := List.length_pos_iff.mpr ha
      rw [la]
      omega
    · rw [StrLaws.subAt_eq, la]
      exact beq_iff_eq.mpr h
theorem in_pair {a b : Nat} {z : List Nat} (h : ∃ i, (z.drop i).take 2 = [a, b]) : oIn false (.str [a, b]) (.str z) = some (.bl true) := by
  show some (D.bl (!(Builtin.Str.occurrences (S z) (S [a, b]) 0 z.length 1).isEmpty)) = _
  rw [(sub_iff (a := [a, b]) (by simp)).mpr h]
theorem no_pair {a b : Nat} {z : List Nat} (h : ∀ i, (z.drop i).take 2 ≠ [a, b]) : oIn false (.str [a, b]) (.str z) = some (.bl false) := by
  show some (D.bl (!(Builtin.Str.occurrences (S z) (S [a, b]) 0 z.length 1).isEmpty)) = _
  rw [Bool.eq_false_iff.mpr fun q => (sub_iff (a := [a, b]) (by simp)).mp q |>.elim h]
/-- parts that are not empty, none with the sign a, joined by it: no two of it side by side -/
theorem joinD_cons (s : List Nat) (p q : List Nat) (r : List (List Nat)) : joinD s (p :: q :: r) = p ++ (s ++ joinD s (q :: r)) := by
  have h : ∀ (r : List (List Nat)) (u v : List Nat), r.foldl (fun acc q => acc ++ s ++ q) (u ++ v) = u ++ r.foldl (fun acc q => acc ++ s ++ q) v := by
    intro r
    induction r with
    | nil => intro u v; rfl
    | cons x r ih => intro u v; rw [List.foldl_cons, List.foldl_cons, List.append_assoc, List.append_assoc, ih, List.append_assoc]
  show (q :: r).foldl (fun acc q => acc ++ s ++ q) p = _
  rw [List.foldl_cons, List.append_assoc, h, h]
  rfl
def NoPair (a : Nat) : List Nat → Prop
  | [] => True
  | [_] => True
  | b :: c :: r => ¬ (b = a ∧ c = a) ∧ NoPair a (c :: r)
theorem noPair_drop {a : Nat} : ∀ {z : List Nat}, NoPair a z → ∀ i, (z.drop i).take 2 ≠ [a, a]
  | [], _, i => by simp
  | [b], _, 0 => by simp
  | [b], _, i + 1 => by simp
  | b :: c :: r, h, 0 => fun e => by
    simp at e
    exact h.1 e
  | b :: c :: r, h, i + 1 => by
    rw [List.drop_succ_cons]
    exact noPair_drop h.2 i
theorem noPair_free {a : Nat} : ∀ {p q : List Nat}, a ∉ p → NoPair a q → NoPair a (p ++ q)
  | [], _, _, h => h
  | [b], [], _, _ => trivial
  | [b], c :: r, hp, h => ⟨fun e => hp (by simp [e.1]), h⟩
  | b :: c :: r, q, hp, h => ⟨fun e => hp (by simp [e.1]), noPair_free (p := c :: r) (fun z => hp (List.mem_cons_of_mem _ z)) h⟩
theorem noPair_join {a : Nat} : ∀ {ps : List (List Nat)}, (∀ p ∈ ps, p ≠ [] ∧ a ∉ p) → NoPair a (joinD [a] ps)
  | [], _ => trivial
  | [p], h => by
    have := noPair_free (q := []) (h p (by simp)).2 trivial
    rw [List.append_nil] at this
    exact this
  | p :: q :: r, h => by
    rw [joinD_cons]
    refine noPair_free (h p (by simp)).2 ?_
    have ih := noPair_join (ps := q :: r) fun x hx => h x (List.mem_cons_of_mem _ hx)
    obtain ⟨n, f⟩ := h q (by simp)
    cases q with
    | nil => exact absurd rfl n
    | cons c q =>
      have e : ∃ t, joinD [a] ((c :: q) :: r) = c :: t := by
        cases r with
        | nil => exact ⟨_, rfl⟩
        | cons x r => exact ⟨_, joinD_cons _ _ _ _⟩
      obtain ⟨t, e⟩ := e
      rw [e] at ih ⊢
      exact ⟨fun z => f (by simp [z.2]), ih⟩
end Q

/-! SH: a little table's writing. -/
namespace Q
open PL
open PySem (Str)
open PySem
def slB (r : List Nat) : Bool := decide (47 ∈ r)
/-- what a table is written as -/
def writ (T : List (List Nat)) : List Nat := if T.filter slB = [] then joinD [47] T else joinD [32] (T.map (StrLaws.dbl 47))
theorem dbl_len (c : Nat) : ∀ r : List Nat, r.length ≤ (StrLaws.dbl c r).length ∧ (StrLaws.dbl c r).length ≤ 2 * r.length
  | [] => ⟨by simp, by simp [StrLaws.dbl]⟩
  | a :: r => by
    obtain ⟨h1, h2⟩ := dbl_len c r
    by_cases h : a = c
    · subst h
      simp [StrLaws.dbl]
      omega
    · simp [StrLaws.dbl, h]
      omega
theorem sum_le {α : Type} {f : α → Nat} {b : Nat} : ∀ {xs : List α}, (∀ x, x ∈ xs → f x ≤ b) → (xs.map f).sum ≤ xs.length * b
  | [], _ => by simp
  | x :: xs, h => by
    have ih := sum_le (xs := xs) fun y hy => h y (List.mem_cons_of_mem _ hy)
    have := h x (by simp)
    rw [List.map_cons, List.sum_cons, List.length_cons, Nat.succ_mul]
    omega
theorem o_joinS {sep : List Nat} {ss : List (List Nat)} (h : (ss.map List.length).sum + ss.length * sep.length ≤ 16777216) : oJoin (.str sep) (.lst (ss.map .str)) = some (.str (joinD sep ss)) := by
  unfold oJoin
  simp only [strsOf_str]
  rw [if_pos h]
theorem o_repl1 {r : List Nat} (h : r.length ≤ 1000) : oRepl [47] [47, 47] (.str r) = some (.str (StrLaws.dbl 47 r)) := by
  show (if r.length + (r.length + 1) * [47, 47].length ≤ 16777216 then some (D.str (StrLaws.replL [47] [47, 47] r)) else none) = _
  rw [if_pos (by simp; omega), repl_dbl]
theorem o_repl2 {r : List Nat} (h : r.length ≤ 1000) : oRepl [47, 47] [47] (.str (StrLaws.dbl 47 r)) = some (.str r) := by
  show (if (StrLaws.dbl 47 r).length + ((StrLaws.dbl 47 r).length + 1) * [47].length ≤ 16777216 then some (D.str (StrLaws.replL [47, 47] [47] (StrLaws.dbl 47 r))) else none) = _
  rw [if_pos (by have := (dbl_len 47 r).2; simp; omega), repl_back]
end Q

/-! SI: show_table writes a little table. -/
namespace Q
open PL
open PySem (Str)
open PySem
theorem sl_list {h w : Nat} {T : List (List Nat)} (hT : Lit h w T) : lcL [1] (tgN 1) (tst (op2 (oIn false) (ret (.str [47])) (rd 1))) (rd 1) (T.map .str) [] [.im (.lst (T.map .str)), .no] = .ok (.lst ((T.filter slB).map .str)) [.im (.lst (T.map .str)), .no] :=
  lc_filtL .str .str slB (by have := hT.t.1; have := hT.hh; omega) fun r hr => by
    have e : oIn false (.str [47]) (.str r) = some (.bl (slB r)) := rfl
    refine ⟨_, [.im (.lst (T.map .str)), .im (.str r)], rfl, ?_, fun _ => rfl, fun _ => ⟨_, rfl, rfl⟩⟩
    simp -implicitDefEqProofs only [bM_ok, bM_exc, bR_ok, bR_exc, bS_nx, bS_ret, bS_exc, bO_some, bOM_some, selM_t, selM_f, selS_t, selS_f, rdO_im, rdO_ow, lookO_im, lookO_ow, lookO_mu, moveO_ow, ownO_ow, ownO_mu, putO_ow, putO_mu, ofDR_ret, ofDR_exc, ofDU_ret, ofDU_exc, endF_nx, endF_ret, endF_exc, endU_nx, endU_ret, endU_exc, e_runF, e_runU, e_bind, e_ret, e_lift, e_rd, e_look, e_move, e_ownC, e_putC, e_op2, e_op1, e_tst, e_notM, e_andM, e_orM, e_notE, e_andE, e_orE, e_iteE, e_chn, e_argN, e_argC, e_tupE, e_lstE, e_noP, e_partM, e_sl3, asStr_str, e_strM, e_callF, e_callU, e_useU, e_mutM, e_skip, e_seqS, e_ifS, e_exprS, e_retS, e_setS, e_ownS, e_stIx, e_tgS, e_tgN, e_tgT, e_tgCons, e_tgNil, parK_2, e_parS, e_forS, e_rng1M, e_rng2M, e_iterM, e_enumA, e_zipM, e_lcE, o_subI, o_addI, o_eqI, o_neI, o_eqS, o_neS, o_ltI, o_leI, o_gtI, o_geI, o_maxI, o_minI, o_lenL, o_lenF, o_lenT, o_negI, o_asB, o_isiS, List.map_cons, List.map_nil, List.length_cons, List.length_nil, List.cons_append, List.nil_append, List.append_nil, List.replicate_succ, List.replicate_zero, List.getElem?_cons_succ, List.getElem?_cons_zero, List.set_cons_succ, List.set_cons_zero, Option.map_some, Option.map_none, Option.bind_some, Option.bind_none, if_true, if_false, ite_true, ite_false, decide_true, decide_false, Bool.not_true, Bool.not_false, Nat.zero_add, Nat.reduceAdd, Nat.reduceSub, reduceIte, reduceCtorEq, Nat.reduceLT, Nat.reduceLeDiff, Int.reduceLT, Int.reduceLE, Int.reduceToNat, Int.reduceNeg, Int.reduceEq, Int.reduceSub, Int.reduceAdd, Int.reduceMul, Int.reducePow, tyOk, beq_self_eq_true, e_freeP1, e_freeP2, freeO_no, freeO_im, e_wipe1, e_wipe2, e_back1, e_back2, backO_s, o_iterL, o_iterF, o_iterT, Bool.and_true, sK_nx, sK_ret, tK_nx, tK_ret, e_tryS, e_raiseS, o_isE, o_isEN, o_notNN, o_notNE, o_isNN, o_isNE, e_prN, e_prC, e_dispE, e_zipA, o_zipSS, o_zipSL, o_zipLL, o_asI, e_callL, ofDL_bl, ofDL_int, ofDL_str, ofDL_non, ofDL_exc, e_killS, kK_nx, kK_ret, kK_exc, e_wipeC, e_wipeN, e_backC, e_backN, e_stp, e_lcs, joinC_t, joinC_f, joinC_ok, e_augI, augO_int, e_getE, e_dixE, asD_k, keyD_s, keyD_i, e_bSkK, e_kiY, e_frzS, kF_nx, e_frzO, fO_ow, e_freeP3, e_strX, e_rng3A, o_iterM, e_lckS, kL_nx, e_lckO, lO_k, lO_t, e_iterK, o_iterKk, o_iterKt, e_getA, e_dixA, isDct_k, isDct_t, isDct_fk, isDct_ft, oGetA_k, oGetA_fk, oGetA_t, oGetA_ft, id_eq, e_iterL, e_lookT, lookR_ok, frzA_c, frzA_n, frz_im', frz_ow', frz_mu', frz_no', e]
theorem cps_filt {h w : Nat} {T : List (List Nat)} (hT : Lit h w T) (p : List Nat → Bool) : Cps (T.filter p) := fun r hr => tab_cps hT.t r (List.mem_filter.mp hr).1
theorem show_ok {h w : Nat} {T : List (List Nat)} (hT : Lit h w T) : m_show_table [.lst (T.map .str)] = .ret (.str (writ T)) .non := by
  have hl : T.length ≤ 1000 := by have := hT.t.1; have := hT.hh; omega
  have hr : ∀ r, r ∈ T → r.length ≤ 1000 := fun r h => by have := (hT.t.2 r h).1; have := hT.hw; omega
  have L := sl_list hT
  have E := o_eqNil (cps_filt hT slB)
  have N := need_little_ok hT
  by_cases hf : T.filter slB = []
  · have s1 := sum_le (f := List.length) hr
    have J := o_joinS (sep := [47]) (ss := T) (by simp only [List.length_singleton]; omega)
    have W : writ T = joinD [47] T := if_pos hf
    rw [decide_eq_true hf] at E
    rw [W]
    simp -implicitDefEqProofs only [m_show_table, b_show_table, bM_ok, bM_exc, bR_ok, bR_exc, bS_nx, bS_ret, bS_exc, bO_some, bOM_some, selM_t, selM_f, selS_t, selS_f, rdO_im, rdO_ow, lookO_im, lookO_ow, lookO_mu, moveO_ow, ownO_ow, ownO_mu, putO_ow, putO_mu, ofDR_ret, ofDR_exc, ofDU_ret, ofDU_exc, endF_nx, endF_ret, endF_exc, endU_nx, endU_ret, endU_exc, e_runF, e_runU, e_bind, e_ret, e_lift, e_rd, e_look, e_move, e_ownC, e_putC, e_op2, e_op1, e_tst, e_notM, e_andM, e_orM, e_notE, e_andE, e_orE, e_iteE, e_chn, e_argN, e_argC, e_tupE, e_lstE, e_noP, e_partM, e_sl3, asStr_str, e_strM, e_callF, e_callU, e_useU, e_mutM, e_skip, e_seqS, e_ifS, e_exprS, e_retS, e_setS, e_ownS, e_stIx, e_tgS, e_tgN, e_tgT, e_tgCons, e_tgNil, parK_2, e_parS, e_forS, e_rng1M, e_rng2M, e_iterM, e_enumA, e_zipM, e_lcE, o_subI, o_addI, o_eqI, o_neI, o_eqS, o_neS, o_ltI, o_leI, o_gtI, o_geI, o_maxI, o_minI, o_lenL, o_lenF, o_lenT, o_negI, o_asB, o_isiS, List.map_cons, List.map_nil, List.length_cons, List.length_nil, List.cons_append, List.nil_append, List.append_nil, List.replicate_succ, List.replicate_zero, List.getElem?_cons_succ, List.getElem?_cons_zero, List.set_cons_succ, List.set_cons_zero, Option.map_some, Option.map_none, Option.bind_some, Option.bind_none, if_true, if_false, ite_true, ite_false, decide_true, decide_false, Bool.not_true, Bool.not_false, Nat.zero_add, Nat.reduceAdd, Nat.reduceSub, reduceIte, reduceCtorEq, Nat.reduceLT, Nat.reduceLeDiff, Int.reduceLT, Int.reduceLE, Int.reduceToNat, Int.reduceNeg, Int.reduceEq, Int.reduceSub, Int.reduceAdd, Int.reduceMul, Int.reducePow, tyOk, beq_self_eq_true, e_freeP1, e_freeP2, freeO_no, freeO_im, e_wipe1, e_wipe2, e_back1, e_back2, backO_s, o_iterL, o_iterF, o_iterT, Bool.and_true, sK_nx, sK_ret, tK_nx, tK_ret, e_tryS, e_raiseS, o_isE, o_isEN, o_notNN, o_notNE, o_isNN, o_isNE, e_prN, e_prC, e_dispE, e_zipA, o_zipSS, o_zipSL, o_zipLL, o_asI, e_callL, ofDL_bl, ofDL_int, ofDL_str, ofDL_non, ofDL_exc, e_killS, kK_nx, kK_ret, kK_exc, e_wipeC, e_wipeN, e_backC, e_backN, e_stp, e_lcs, joinC_t, joinC_f, joinC_ok, e_augI, augO_int, e_getE, e_dixE, asD_k, keyD_s, keyD_i, e_bSkK, e_kiY, e_frzS, kF_nx, e_frzO, fO_ow, e_freeP3, e_strX, e_rng3A, o_iterM, e_lckS, kL_nx, e_lckO, lO_k, lO_t, e_iterK, o_iterKk, o_iterKt, e_getA, e_dixA, isDct_k, isDct_t, isDct_fk, isDct_ft, oGetA_k, oGetA_fk, oGetA_t, oGetA_ft, id_eq, e_iterL, e_lookT, lookR_ok, frzA_c, frzA_n, frz_im', frz_ow', frz_mu', frz_no', N, L, E, J]
  · have s1 := sum_le (f := fun r => (StrLaws.dbl 47 r).length) (b := 2000) (xs := T) fun r h => by have := (dbl_len 47 r).2; have := hr r h; omega
    have J := o_joinS (sep := [32]) (ss := T.map (StrLaws.dbl 47)) (by simp only [List.length_singleton, List.length_map, List.map_map]; show (T.map fun r => (StrLaws.dbl 47 r).length).sum + _ ≤ _; omega)
    have W : writ T = joinD [32] (T.map (StrLaws.dbl 47)) := if_neg hf
    have M := lc_mp (vs := [1]) (h := tgN 1) (t := ret true) (el := e_show_table_1) (τ := [.im (.lst (T.map .str)), .no]) (k := .str) (A := T) (fun r => .str (StrLaws.dbl 47 r)) (by omega) fun r h => by simp -implicitDefEqProofs only [bM_ok, bM_exc, bR_ok, bR_exc, bS_nx, bS_ret, bS_exc, bO_some, bOM_some, selM_t, selM_f, selS_t, selS_f, rdO_im, rdO_ow, lookO_im, lookO_ow, lookO_mu, moveO_ow, ownO_ow, ownO_mu, putO_ow, putO_mu, ofDR_ret, ofDR_exc, ofDU_ret, ofDU_exc, endF_nx, endF_ret, endF_exc, endU_nx, endU_ret, endU_exc, e_runF, e_runU, e_bind, e_ret, e_lift, e_rd, e_look, e_move, e_ownC, e_putC, e_op2, e_op1, e_tst, e_notM, e_andM, e_orM, e_notE, e_andE, e_orE, e_iteE, e_chn, e_argN, e_argC, e_tupE, e_lstE, e_noP, e_partM, e_sl3, asStr_str, e_strM, e_callF, e_callU, e_useU, e_mutM, e_skip, e_seqS, e_ifS, e_exprS, e_retS, e_setS, e_ownS, e_stIx, e_tgS, e_tgN, e_tgT, e_tgCons, e_tgNil, parK_2, e_parS, e_forS, e_rng1M, e_rng2M, e_iterM, e_enumA, e_zipM, e_lcE, o_subI, o_addI, o_eqI, o_neI, o_eqS, o_neS, o_ltI, o_leI, o_gtI, o_geI, o_maxI, o_minI, o_lenL, o_lenF, o_lenT, o_negI, o_asB, o_isiS, List.map_cons, List.map_nil, List.length_cons, List.length_nil, List.cons_append, List.nil_append, List.append_nil, List.replicate_succ, List.replicate_zero, List.getElem?_cons_succ, List.getElem?_cons_zero, List.set_cons_succ, List.set_cons_zero, Option.map_some, Option.map_none, Option.bind_some, Option.bind_none, if_true, if_false, ite_true, ite_false, decide_true, decide_false, Bool.not_true, Bool.not_false, Nat.zero_add, Nat.reduceAdd, Nat.reduceSub, reduceIte, reduceCtorEq, Nat.reduceLT, Nat.reduceLeDiff, Int.reduceLT, Int.reduceLE, Int.reduceToNat, Int.reduceNeg, Int.reduceEq, Int.reduceSub, Int.reduceAdd, Int.reduceMul, Int.reducePow, tyOk, beq_self_eq_true, e_freeP1, e_freeP2, freeO_no, freeO_im, e_wipe1, e_wipe2, e_back1, e_back2, backO_s, o_iterL, o_iterF, o_iterT, Bool.and_true, sK_nx, sK_ret, tK_nx, tK_ret, e_tryS, e_raiseS, o_isE, o_isEN, o_notNN, o_notNE, o_isNN, o_isNE, e_prN, e_prC, e_dispE, e_zipA, o_zipSS, o_zipSL, o_zipLL, o_asI, e_callL, ofDL_bl, ofDL_int, ofDL_str, ofDL_non, ofDL_exc, e_killS, kK_nx, kK_ret, kK_exc, e_wipeC, e_wipeN, e_backC, e_backN, e_stp, e_lcs, joinC_t, joinC_f, joinC_ok, e_augI, augO_int, e_getE, e_dixE, asD_k, keyD_s, keyD_i, e_bSkK, e_kiY, e_frzS, kF_nx, e_frzO, fO_ow, e_freeP3, e_strX, e_rng3A, o_iterM, e_lckS, kL_nx, e_lckO, lO_k, lO_t, e_iterK, o_iterKk, o_iterKt, e_getA, e_dixA, isDct_k, isDct_t, isDct_fk, isDct_ft, oGetA_k, oGetA_fk, oGetA_t, oGetA_ft, id_eq, e_iterL, e_lookT, lookR_ok, frzA_c, frzA_n, frz_im', frz_ow', frz_mu', frz_no', one_eq, ix0, ix1, ix2, tx0, tx1, tx2, o_intB, isi_lst, isi_tup, isi_bi, isi_bb, isi_ii, isi_ss, o_listL, o_iterS', o_enumL', o_enumS', e_show_table_1, o_repl1 (hr r h)]
    rw [decide_eq_false hf] at E
    rw [W]
    rw [List.map_map] at J
    have J2 : oJoin (.str [32]) (.lst (T.map fun r => .str (StrLaws.dbl 47 r))) = some (.str (joinD [32] (T.map (StrLaws.dbl 47)))) := J
    simp -implicitDefEqProofs only [m_show_table, b_show_table, bM_ok, bM_exc, bR_ok, bR_exc, bS_nx, bS_ret, bS_exc, bO_some, bOM_some, selM_t, selM_f, selS_t, selS_f, rdO_im, rdO_ow, lookO_im, lookO_ow, lookO_mu, moveO_ow, ownO_ow, ownO_mu, putO_ow, putO_mu, ofDR_ret, ofDR_exc, ofDU_ret, ofDU_exc, endF_nx, endF_ret, endF_exc, endU_nx, endU_ret, endU_exc, e_runF, e_runU, e_bind, e_ret, e_lift, e_rd, e_look, e_move, e_ownC, e_putC, e_op2, e_op1, e_tst, e_notM, e_andM, e_orM, e_notE, e_andE, e_orE, e_iteE, e_chn, e_argN, e_argC, e_tupE, e_lstE, e_noP, e_partM, e_sl3, asStr_str, e_strM, e_callF, e_callU, e_useU, e_mutM, e_skip, e_seqS, e_ifS, e_exprS, e_retS, e_setS, e_ownS, e_stIx, e_tgS, e_tgN, e_tgT, e_tgCons, e_tgNil, parK_2, e_parS, e_forS, e_rng1M, e_rng2M, e_iterM, e_enumA, e_zipM, e_lcE, o_subI, o_addI, o_eqI, o_neI, o_eqS, o_neS, o_ltI, o_leI, o_gtI, o_geI, o_maxI, o_minI, o_lenL, o_lenF, o_lenT, o_negI, o_asB, o_isiS, List.map_cons, List.map_nil, List.length_cons, List.length_nil, List.cons_append, List.nil_append, List.append_nil, List.replicate_succ, List.replicate_zero, List.getElem?_cons_succ, List.getElem?_cons_zero, List.set_cons_succ, List.set_cons_zero, Option.map_some, Option.map_none, Option.bind_some, Option.bind_none, if_true, if_false, ite_true, ite_false, decide_true, decide_false, Bool.not_true, Bool.not_false, Nat.zero_add, Nat.reduceAdd, Nat.reduceSub, reduceIte, reduceCtorEq, Nat.reduceLT, Nat.reduceLeDiff, Int.reduceLT, Int.reduceLE, Int.reduceToNat, Int.reduceNeg, Int.reduceEq, Int.reduceSub, Int.reduceAdd, Int.reduceMul, Int.reducePow, tyOk, beq_self_eq_true, e_freeP1, e_freeP2, freeO_no, freeO_im, e_wipe1, e_wipe2, e_back1, e_back2, backO_s, o_iterL, o_iterF, o_iterT, Bool.and_true, sK_nx, sK_ret, tK_nx, tK_ret, e_tryS, e_raiseS, o_isE, o_isEN, o_notNN, o_notNE, o_isNN, o_isNE, e_prN, e_prC, e_dispE, e_zipA, o_zipSS, o_zipSL, o_zipLL, o_asI, e_callL, ofDL_bl, ofDL_int, ofDL_str, ofDL_non, ofDL_exc, e_killS, kK_nx, kK_ret, kK_exc, e_wipeC, e_wipeN, e_backC, e_backN, e_stp, e_lcs, joinC_t, joinC_f, joinC_ok, e_augI, augO_int, e_getE, e_dixE, asD_k, keyD_s, keyD_i, e_bSkK, e_kiY, e_frzS, kF_nx, e_frzO, fO_ow, e_freeP3, e_strX, e_rng3A, o_iterM, e_lckS, kL_nx, e_lckO, lO_k, lO_t, e_iterK, o_iterKk, o_iterKt, e_getA, e_dixA, isDct_k, isDct_t, isDct_fk, isDct_ft, oGetA_k, oGetA_fk, oGetA_t, oGetA_ft, id_eq, e_iterL, e_lookT, lookR_ok, frzA_c, frzA_n, frz_im', frz_ow', frz_mu', frz_no', N, L, E, M, J2]
theorem written_ok {h w : Nat} {T : List (List Nat)} (hT : Lit h w T) : m__law_written [.lst (T.map .str)] = .ret (.str (writ T)) .non := by
  have hl : T.length ≤ 1000 := by have := hT.t.1; have := hT.hh; omega
  have hr : ∀ r, r ∈ T → r.length ≤ 1000 := fun r h => by have := (hT.t.2 r h).1; have := hT.hw; omega
  have L := sl_list hT
  have E := o_eqNil (cps_filt hT slB)
  by_cases hf : T.filter slB = []
  · have s1 := sum_le (f := List.length) hr
    have J := o_joinS (sep := [47]) (ss := T) (by simp only [List.length_singleton]; omega)
    have W : writ T = joinD [47] T := if_pos hf
    rw [decide_eq_true hf] at E
    rw [W]
    simp -implicitDefEqProofs only [m__law_written, b__law_written, bM_ok, bM_exc, bR_ok, bR_exc, bS_nx, bS_ret, bS_exc, bO_some, bOM_some, selM_t, selM_f, selS_t, selS_f, rdO_im, rdO_ow, lookO_im, lookO_ow, lookO_mu, moveO_ow, ownO_ow, ownO_mu, putO_ow, putO_mu, ofDR_ret, ofDR_exc, ofDU_ret, ofDU_exc, endF_nx, endF_ret, endF_exc, endU_nx, endU_ret, endU_exc, e_runF, e_runU, e_bind, e_ret, e_lift, e_rd, e_look, e_move, e_ownC, e_putC, e_op2, e_op1, e_tst, e_notM, e_andM, e_orM, e_notE, e_andE, e_orE, e_iteE, e_chn, e_argN, e_argC, e_tupE, e_lstE, e_noP, e_partM, e_sl3, asStr_str, e_strM, e_callF, e_callU, e_useU, e_mutM, e_skip, e_seqS, e_ifS, e_exprS, e_retS, e_setS, e_ownS, e_stIx, e_tgS, e_tgN, e_tgT, e_tgCons, e_tgNil, parK_2, e_parS, e_forS, e_rng1M, e_rng2M, e_iterM, e_enumA, e_zipM, e_lcE, o_subI, o_addI, o_eqI, o_neI, o_eqS, o_neS, o_ltI, o_leI, o_gtI, o_geI, o_maxI, o_minI, o_lenL, o_lenF, o_lenT, o_negI, o_asB, o_isiS, List.map_cons, List.map_nil, List.length_cons, List.length_nil, List.cons_append, List.nil_append, List.append_nil, List.replicate_succ, List.replicate_zero, List.getElem?_cons_succ, List.getElem?_cons_zero, List.set_cons_succ, List.set_cons_zero, Option.map_some, Option.map_none, Option.bind_some, Option.bind_none, if_true, if_false, ite_true, ite_false, decide_true, decide_false, Bool.not_true, Bool.not_false, Nat.zero_add, Nat.reduceAdd, Nat.reduceSub, reduceIte, reduceCtorEq, Nat.reduceLT, Nat.reduceLeDiff, Int.reduceLT, Int.reduceLE, Int.reduceToNat, Int.reduceNeg, Int.reduceEq, Int.reduceSub, Int.reduceAdd, Int.reduceMul, Int.reducePow, tyOk, beq_self_eq_true, e_freeP1, e_freeP2, freeO_no, freeO_im, e_wipe1, e_wipe2, e_back1, e_back2, backO_s, o_iterL, o_iterF, o_iterT, Bool.and_true, sK_nx, sK_ret, tK_nx, tK_ret, e_tryS, e_raiseS, o_isE, o_isEN, o_notNN, o_notNE, o_isNN, o_isNE, e_prN, e_prC, e_dispE, e_zipA, o_zipSS, o_zipSL, o_zipLL, o_asI, e_callL, ofDL_bl, ofDL_int, ofDL_str, ofDL_non, ofDL_exc, e_killS, kK_nx, kK_ret, kK_exc, e_wipeC, e_wipeN, e_backC, e_backN, e_stp, e_lcs, joinC_t, joinC_f, joinC_ok, e_augI, augO_int, e_getE, e_dixE, asD_k, keyD_s, keyD_i, e_bSkK, e_kiY, e_frzS, kF_nx, e_frzO, fO_ow, e_freeP3, e_strX, e_rng3A, o_iterM, e_lckS, kL_nx, e_lckO, lO_k, lO_t, e_iterK, o_iterKk, o_iterKt, e_getA, e_dixA, isDct_k, isDct_t, isDct_fk, isDct_ft, oGetA_k, oGetA_fk, oGetA_t, oGetA_ft, id_eq, e_iterL, e_lookT, lookR_ok, frzA_c, frzA_n, frz_im', frz_ow', frz_mu', frz_no', L, E, J]
  · have s1 := sum_le (f := fun r => (StrLaws.dbl 47 r).length) (b := 2000) (xs := T) fun r h => by have := (dbl_len 47 r).2; have := hr r h; omega
    have J := o_joinS (sep := [32]) (ss := T.map (StrLaws.dbl 47)) (by simp only [List.length_singleton, List.length_map, List.map_map]; show (T.map fun r => (StrLaws.dbl 47 r).length).sum + _ ≤ _; omega)
    have W : writ T = joinD [32] (T.map (StrLaws.dbl 47)) := if_neg hf
    have M := lc_mp (vs := [1]) (h := tgN 1) (t := ret true) (el := e__law_written_1) (τ := [.im (.lst (T.map .str)), .no]) (k := .str) (A := T) (fun r => .str (StrLaws.dbl 47 r)) (by omega) fun r h => by simp -implicitDefEqProofs only [bM_ok, bM_exc, bR_ok, bR_exc, bS_nx, bS_ret, bS_exc, bO_some, bOM_some, selM_t, selM_f, selS_t, selS_f, rdO_im, rdO_ow, lookO_im, lookO_ow, lookO_mu, moveO_ow, ownO_ow, ownO_mu, putO_ow, putO_mu, ofDR_ret, ofDR_exc, ofDU_ret, ofDU_exc, endF_nx, endF_ret, endF_exc, endU_nx, endU_ret, endU_exc, e_runF, e_runU, e_bind, e_ret, e_lift, e_rd, e_look, e_move, e_ownC, e_putC, e_op2, e_op1, e_tst, e_notM, e_andM, e_orM, e_notE, e_andE, e_orE, e_iteE, e_chn, e_argN, e_argC, e_tupE, e_lstE, e_noP, e_partM, e_sl3, asStr_str, e_strM, e_callF, e_callU, e_useU, e_mutM, e_skip, e_seqS, e_ifS, e_exprS, e_retS, e_setS, e_ownS, e_stIx, e_tgS, e_tgN, e_tgT, e_tgCons, e_tgNil, parK_2, e_parS, e_forS, e_rng1M, e_rng2M, e_iterM, e_enumA, e_zipM, e_lcE, o_subI, o_addI, o_eqI, o_neI, o_eqS, o_neS, o_ltI, o_leI, o_gtI, o_geI, o_maxI, o_minI, o_lenL, o_lenF, o_lenT, o_negI, o_asB, o_isiS, List.map_cons, List.map_nil, List.length_cons, List.length_nil, List.cons_append, List.nil_append, List.append_nil, List.replicate_succ, List.replicate_zero, List.getElem?_cons_succ, List.getElem?_cons_zero, List.set_cons_succ, List.set_cons_zero, Option.map_some, Option.map_none, Option.bind_some, Option.bind_none, if_true, if_false, ite_true, ite_false, decide_true, decide_false, Bool.not_true, Bool.not_false, Nat.zero_add, Nat.reduceAdd, Nat.reduceSub, reduceIte, reduceCtorEq, Nat.reduceLT, Nat.reduceLeDiff, Int.reduceLT, Int.reduceLE, Int.reduceToNat, Int.reduceNeg, Int.reduceEq, Int.reduceSub, Int.reduceAdd, Int.reduceMul, Int.reducePow, tyOk, beq_self_eq_true, e_freeP1, e_freeP2, freeO_no, freeO_im, e_wipe1, e_wipe2, e_back1, e_back2, backO_s, o_iterL, o_iterF, o_iterT, Bool.and_true, sK_nx, sK_ret, tK_nx, tK_ret, e_tryS, e_raiseS, o_isE, o_isEN, o_notNN, o_notNE, o_isNN, o_isNE, e_prN, e_prC, e_dispE, e_zipA, o_zipSS, o_zipSL, o_zipLL, o_asI, e_callL, ofDL_bl, ofDL_int, ofDL_str, ofDL_non, ofDL_exc, e_killS, kK_nx, kK_ret, kK_exc, e_wipeC, e_wipeN, e_backC, e_backN, e_stp, e_lcs, joinC_t, joinC_f, joinC_ok, e_augI, augO_int, e_getE, e_dixE, asD_k, keyD_s, keyD_i, e_bSkK, e_kiY, e_frzS, kF_nx, e_frzO, fO_ow, e_freeP3, e_strX, e_rng3A, o_iterM, e_lckS, kL_nx, e_lckO, lO_k, lO_t, e_iterK, o_iterKk, o_iterKt, e_getA, e_dixA, isDct_k, isDct_t, isDct_fk, isDct_ft, oGetA_k, oGetA_fk, oGetA_t, oGetA_ft, id_eq, e_iterL, e_lookT, lookR_ok, frzA_c, frzA_n, frz_im', frz_ow', frz_mu', frz_no', one_eq, ix0, ix1, ix2, tx0, tx1, tx2, o_intB, isi_lst, isi_tup, isi_bi, isi_bb, isi_ii, isi_ss, o_listL, o_iterS', o_enumL', o_enumS', e__law_written_1, o_repl1 (hr r h)]
    rw [decide_eq_false hf] at E
    rw [W]
    rw [List.map_map] at J
    have J2 : oJoin (.str [32]) (.lst (T.map fun r => .str (StrLaws.dbl 47 r))) = some (.str (joinD [32] (T.map (StrLaws.dbl 47)))) := J
    simp -implicitDefEqProofs only [m__law_written, b__law_written, bM_ok, bM_exc, bR_ok, bR_exc, bS_nx, bS_ret, bS_exc, bO_some, bOM_some, selM_t, selM_f, selS_t, selS_f, rdO_im, rdO_ow, lookO_im, lookO_ow, lookO_mu, moveO_ow, ownO_ow, ownO_mu, putO_ow, putO_mu, ofDR_ret, ofDR_exc, ofDU_ret, ofDU_exc, endF_nx, endF_ret, endF_exc, endU_nx, endU_ret, endU_exc, e_runF, e_runU, e_bind, e_ret, e_lift, e_rd, e_look, e_move, e_ownC, e_putC, e_op2, e_op1, e_tst, e_notM, e_andM, e_orM, e_notE, e_andE, e_orE, e_iteE, e_chn, e_argN, e_argC, e_tupE, e_lstE, e_noP, e_partM, e_sl3, asStr_str, e_strM, e_callF, e_callU, e_useU, e_mutM, e_skip, e_seqS, e_ifS, e_exprS, e_retS, e_setS, e_ownS, e_stIx, e_tgS, e_tgN, e_tgT, e_tgCons, e_tgNil, parK_2, e_parS, e_forS, e_rng1M, e_rng2M, e_iterM, e_enumA, e_zipM, e_lcE, o_subI, o_addI, o_eqI, o_neI, o_eqS, o_neS, o_ltI, o_leI, o_gtI, o_geI, o_maxI, o_minI, o_lenL, o_lenF, o_lenT, o_negI, o_asB, o_isiS, List.map_cons, List.map_nil, List.length_cons, List.length_nil, List.cons_append, List.nil_append, List.append_nil, List.replicate_succ, List.replicate_zero, List.getElem?_cons_succ, List.getElem?_cons_zero, List.set_cons_succ, List.set_cons_zero, Option.map_some, Option.map_none, Option.bind_some, Option.bind_none, if_true, if_false, ite_true, ite_false, decide_true, decide_false, Bool.not_true, Bool.not_false, Nat.zero_add, Nat.reduceAdd, Nat.reduceSub, reduceIte, reduceCtorEq, Nat.reduceLT, Nat.reduceLeDiff, Int.reduceLT, Int.reduceLE, Int.reduceToNat, Int.reduceNeg, Int.reduceEq, Int.reduceSub, Int.reduceAdd, Int.reduceMul, Int.reducePow, tyOk, beq_self_eq_true, e_freeP1, e_freeP2, freeO_no, freeO_im, e_wipe1, e_wipe2, e_back1, e_back2, backO_s, o_iterL, o_iterF, o_iterT, Bool.and_true, sK_nx, sK_ret, tK_nx, tK_ret, e_tryS, e_raiseS, o_isE, o_isEN, o_notNN, o_notNE, o_isNN, o_isNE, e_prN, e_prC, e_dispE, e_zipA, o_zipSS, o_zipSL, o_zipLL, o_asI, e_callL, ofDL_bl, ofDL_int, ofDL_str, ofDL_non, ofDL_exc, e_killS, kK_nx, kK_ret, kK_exc, e_wipeC, e_wipeN, e_backC, e_backN, e_stp, e_lcs, joinC_t, joinC_f, joinC_ok, e_augI, augO_int, e_getE, e_dixE, asD_k, keyD_s, keyD_i, e_bSkK, e_kiY, e_frzS, kF_nx, e_frzO, fO_ow, e_freeP3, e_strX, e_rng3A, o_iterM, e_lckS, kL_nx, e_lckO, lO_k, lO_t, e_iterK, o_iterKk, o_iterKt, e_getA, e_dixA, isDct_k, isDct_t, isDct_fk, isDct_ft, oGetA_k, oGetA_fk, oGetA_t, oGetA_ft, id_eq, e_iterL, e_lookT, lookR_ok, frzA_c, frzA_n, frz_im', frz_ow', frz_mu', frz_no', L, E, M, J2]
end Q

/-! RD: read_table reads what show_table writes. -/
namespace Q
open PL
open PySem (Str)
open PySem
theorem mem_joinD {s : List Nat} {c : Nat} : ∀ {ps : List (List Nat)}, c ∈ joinD s ps → c ∈ s ∨ ∃ p, p ∈ ps ∧ c ∈ p
  | [], h => nomatch h
  | [p], h => .inr ⟨p, by simp, h⟩
  | p :: q :: r, h => by
    rw [joinD_cons] at h
    rcases List.mem_append.mp h with h | h
    · exact .inr ⟨p, by simp, h⟩
    · rcases List.mem_append.mp h with h | h
      · exact .inl h
      · rcases mem_joinD h with h | ⟨x, hx, hc⟩
        · exact .inl h
        · exact .inr ⟨x, List.mem_cons_of_mem _ hx, hc⟩
theorem len_joinD {s : List Nat} : ∀ {ps : List (List Nat)}, (joinD s ps).length ≤ (ps.map List.length).sum + ps.length * s.length
  | [] => by simp [joinD]
  | [p] => by
    show p.length ≤ _
    simp
  | p :: q :: r => by
    have ih := len_joinD (s := s) (ps := q :: r)
    rw [joinD_cons, List.length_append, List.length_append, List.map_cons, List.sum_cons, List.length_cons, Nat.succ_mul]
    omega
theorem pair_dbl (c : Nat) : ∀ {r : List Nat}, c ∈ r → ∃ i, ((StrLaws.dbl c r).drop i).take 2 = [c, c]
  | a :: r, h => by
    by_cases e : a = c
    · subst e
      exact ⟨0, by simp [StrLaws.dbl]⟩
    · obtain ⟨i, hi⟩ := pair_dbl c (r := r) ((List.mem_cons.mp h).resolve_left (Ne.symm e))
      refine ⟨i + 1, ?_⟩
      have d : StrLaws.dbl c (a :: r) = a :: StrLaws.dbl c r := by simp [StrLaws.dbl, e]
      rw [d, List.drop_succ_cons]
      exact hi
theorem mem_dbl {c a : Nat} : ∀ {r : List Nat}, a ∈ StrLaws.dbl c r → a ∈ r
  | b :: r, h => by
    by_cases e : b = c
    · have d : StrLaws.dbl c (b :: r) = b :: b :: StrLaws.dbl c r := by simp [StrLaws.dbl, e]
      rw [d] at h
      rcases List.mem_cons.mp h with h | h
      · simp [h]
      · rcases List.mem_cons.mp h with h | h
        · simp [h]
        · exact List.mem_cons_of_mem _ (mem_dbl h)
    · have d : StrLaws.dbl c (b :: r) = b :: StrLaws.dbl c r := by simp [StrLaws.dbl, e]
      rw [d] at h
      rcases List.mem_cons.mp h with h | h
      · simp [h]
      · exact List.mem_cons_of_mem _ (mem_dbl h)
section
variable {h w : Nat} {T : List (List Nat)}
theorem writ_len (hT : Lit h w T) (hh : h ≤ 40) (hw : w ≤ 40) : (writ T).length ≤ 10000 := by
  have e := hT.t.1
  have hl : ∀ r, r ∈ T → r.length ≤ 40 := fun r hr => by have := (hT.t.2 r hr).1; omega
  have s1 := sum_le (f := List.length) hl
  have s2 := sum_le (f := fun r => (StrLaws.dbl 47 r).length) (b := 80) (xs := T) fun r hr => by have := (dbl_len 47 r).2; have := hl r hr; omega
  unfold writ
  split
  · have q := len_joinD (s := [47]) (ps := T)
    simp only [List.length_singleton] at q
    omega
  · have q := len_joinD (s := [32]) (ps := T.map (StrLaws.dbl 47))
    rw [List.map_map, List.length_map] at q
    simp only [List.length_singleton] at q
    have q2 : (T.map (List.length ∘ StrLaws.dbl 47)).sum = (T.map fun r => (StrLaws.dbl 47 r).length).sum := rfl
    omega
theorem lit_ne (hT : Lit h w T) : T ≠ [] := fun e => by have := hT.t.1; rw [e] at this; have := hT.h0; simp at *; omega
theorem no32 (hT : Lit h w T) {r : List Nat} (hr : r ∈ T) : 32 ∉ r := fun q => by have := (hT.sg r hr 32 q).1; omega
theorem free47 (hf : T.filter slB = []) {r : List Nat} (hr : r ∈ T) : 47 ∉ r := fun q => by
  have := List.filter_eq_nil_iff.mp hf r hr
  exact this (decide_eq_true q)
theorem row_ne (hT : Lit h w T) {r : List Nat} (hr : r ∈ T) : r ≠ [] := fun e => by have := (hT.t.2 r hr).1; rw [e] at this; have := hT.w0; simp at *; omega
/-- how a writing looks: without the sign, or with it -/
theorem writA (hT : Lit h w T) (hf : T.filter slB = []) : oIn false (.str [32]) (.str (writ T)) = some (.bl false) ∧ oIn false (.str [47, 47]) (.str (writ T)) = some (.bl false) ∧ splitL [47] (writ T) = T := by
  have W : writ T = joinD [47] T := if_pos hf
  rw [W]
  refine ⟨?_, no_pair (noPair_drop (noPair_join fun p hp => ⟨row_ne hT hp, free47 hf hp⟩)), split_joinD (by decide) (lit_ne hT) fun p hp => free47 hf hp⟩
  show some (D.bl (decide (32 ∈ joinD [47] T))) = _
  rw [decide_eq_false fun q => ?_]
  rcases mem_joinD q with q | ⟨p, hp, q⟩
  · simp at q
  · exact no32 hT hp q
theorem writB (hT : Lit h w T) (hf : ¬ T.filter slB = []) : (∃ b, oIn false (.str [32]) (.str (writ T)) = some (.bl b) ∧ (b = false → oIn false (.str [47, 47]) (.str (writ T)) = some (.bl true))) ∧ splitL [32] (writ T) = T.map (StrLaws.dbl 47) := by
  have W : writ T = joinD [32] (T.map (StrLaws.dbl 47)) := if_neg hf
  rw [W]
  refine ⟨⟨_, rfl, fun hb => in_pair ?_⟩, split_joinD (by decide) (by simpa using lit_ne hT) fun p hp => ?_⟩
  · cases T with
    | nil => exact absurd rfl hf
    | cons p r =>
      cases r with
      | nil =>
        show ∃ i, ((StrLaws.dbl 47 p).drop i).take 2 = [47, 47]
        refine pair_dbl 47 ?_
        cases q : slB p with
        | true => exact of_decide_eq_true q
        | false => exact absurd (by simp [q]) hf
      | cons q r =>
        have e : joinD [32] ((p :: q :: r).map (StrLaws.dbl 47)) = StrLaws.dbl 47 p ++ ([32] ++ joinD [32] ((q :: r).map (StrLaws.dbl 47))) := joinD_cons _ _ _ _
        rw [e] at hb
        simp at hb
  · obtain ⟨r, hr, rfl⟩ := List.mem_map.mp hp
    exact fun q => no32 hT hr (mem_dbl q)
end
end Q

/-! RE: read_table reads what show_table writes. -/
namespace Q
open PL
open PySem (Str)
open PySem
section
variable {h w : Nat} {T : List (List Nat)}
theorem o_splitS {x : List Nat} {c : Nat} (hx : x.length ≤ 10000) : oSplit (.str x) (.str [c]) = some (.lst ((splitL [c] x).map .str)) := by
  show (if 0 < [c].length ∧ x.length + 2 ≤ 16777216 then some (D.lst ((splitL [c] x).map .str)) else none) = _
  rw [if_pos ⟨by simp, by omega⟩]
theorem read_ok (hT : Lit h w T) (hh : h ≤ 40) (hw : w ≤ 40) : m_read_table [.str (writ T)] = .ret (.lst (T.map .str)) .non := by
  have hl := writ_len hT hh hw
  have e1 := hT.t.1
  have S1 := o_splitS (c := 47) hl
  have S2 := o_splitS (c := 32) hl
  have I := is_little_ok hT
  have SH := show_ok hT
  have R := row_at (i := 0) hT.t (by omega) (by have := hT.h0; omega)
  have R1 := R.1
  have R2 := R.2
  have NE : oNe (.str (writ T)) (.str (writ T)) = some (.bl false) := by simp -implicitDefEqProofs (disch := (first | assumption | omega | ((try simp only [List.length_map, List.length_range, List.length_append, List.length_cons, List.length_nil, List.length_reverse, List.length_take, List.length_drop, List.length_set]); omega))) only [bM_ok, bM_exc, bR_ok, bR_exc, bS_nx, bS_ret, bS_exc, bO_some, bOM_some, selM_t, selM_f, selS_t, selS_f, rdO_im, rdO_ow, lookO_im, lookO_ow, lookO_mu, moveO_ow, ownO_ow, ownO_mu, putO_ow, putO_mu, ofDR_ret, ofDR_exc, ofDU_ret, ofDU_exc, endF_nx, endF_ret, endF_exc, endU_nx, endU_ret, endU_exc, e_runF, e_runU, e_bind, e_ret, e_lift, e_rd, e_look, e_move, e_ownC, e_putC, e_op2, e_op1, e_tst, e_notM, e_andM, e_orM, e_notE, e_andE, e_orE, e_iteE, e_chn, e_argN, e_argC, e_tupE, e_lstE, e_noP, e_partM, e_sl3, asStr_str, e_strM, e_callF, e_callU, e_useU, e_mutM, e_skip, e_seqS, e_ifS, e_exprS, e_retS, e_setS, e_ownS, e_stIx, e_tgS, e_tgN, e_tgT, e_tgCons, e_tgNil, parK_2, e_parS, e_forS, e_rng1M, e_rng2M, e_iterM, e_enumA, e_zipM, e_lcE, o_subI, o_addI, o_eqI, o_neI, o_eqS, o_neS, o_ltI, o_leI, o_gtI, o_geI, o_maxI, o_minI, o_lenL, o_lenF, o_lenT, o_negI, o_asB, o_isiS, List.map_cons, List.map_nil, List.length_cons, List.length_nil, List.cons_append, List.nil_append, List.append_nil, List.replicate_succ, List.replicate_zero, List.getElem?_cons_succ, List.getElem?_cons_zero, List.set_cons_succ, List.set_cons_zero, Option.map_some, Option.map_none, Option.bind_some, Option.bind_none, if_true, if_false, ite_true, ite_false, decide_true, decide_false, Bool.not_true, Bool.not_false, Nat.zero_add, Nat.reduceAdd, Nat.reduceSub, reduceIte, reduceCtorEq, Nat.reduceLT, Nat.reduceLeDiff, Int.reduceLT, Int.reduceLE, Int.reduceToNat, Int.reduceNeg, Int.reduceEq, Int.reduceSub, Int.reduceAdd, Int.reduceMul, Int.reducePow, tyOk, beq_self_eq_true, e_freeP1, e_freeP2, freeO_no, freeO_im, e_wipe1, e_wipe2, e_back1, e_back2, backO_s, o_iterL, o_iterF, o_iterT, Bool.and_true, sK_nx, sK_ret, tK_nx, tK_ret, e_tryS, e_raiseS, o_isE, o_isEN, o_notNN, o_notNE, o_isNN, o_isNE, e_prN, e_prC, e_dispE, e_zipA, o_zipSS, o_zipSL, o_zipLL, o_asI, e_callL, ofDL_bl, ofDL_int, ofDL_str, ofDL_non, ofDL_exc, e_killS, kK_nx, kK_ret, kK_exc, e_wipeC, e_wipeN, e_backC, e_backN, e_stp, e_lcs, joinC_t, joinC_f, joinC_ok, e_augI, augO_int, e_getE, e_dixE, asD_k, keyD_s, keyD_i, e_bSkK, e_kiY, e_frzS, kF_nx, e_frzO, fO_ow, e_freeP3, e_strX, e_rng3A, o_iterM, e_lckS, kL_nx, e_lckO, lO_k, lO_t, e_iterK, o_iterKk, o_iterKt, e_getA, e_dixA, isDct_k, isDct_t, isDct_fk, isDct_ft, oGetA_k, oGetA_fk, oGetA_t, oGetA_ft, id_eq, e_iterL, e_lookT, lookR_ok, frzA_c, frzA_n, frz_im', frz_ow', frz_mu', frz_no']
  have Z : oLen (.str (T.getD 0 [])) = some (.int w) := by
    rw [o_lenS (by have : (T.getD 0 []).length = w := R2
                   omega)]
    rw [show (T.getD 0 []).length = w from R2]
  have X1 : oMax (.int h) (.int w) = some (.int (max (h : Int) w)) := by
    show some (D.int _) = _
    congr 2
    omega
  have IT : ∀ xs, oIterL (.lst xs) = some xs := fun _ => rfl
  have G1 : decide ((40 : Int) < max (h : Int) w) = false := decide_eq_false (by omega)
  have lT := List.length_map (as := T) (f := D.str)
  by_cases hf : T.filter slB = []
  · obtain ⟨a1, a2, a3⟩ := writA hT hf
    rw [a3] at S1
    simp -implicitDefEqProofs (disch := (first | assumption | omega | ((try simp only [List.length_map, List.length_range, List.length_append, List.length_cons, List.length_nil, List.length_reverse, List.length_take, List.length_drop, List.length_set]); omega))) only [m_read_table, b_read_table, bM_ok, bM_exc, bR_ok, bR_exc, bS_nx, bS_ret, bS_exc, bO_some, bOM_some, selM_t, selM_f, selS_t, selS_f, rdO_im, rdO_ow, lookO_im, lookO_ow, lookO_mu, moveO_ow, ownO_ow, ownO_mu, putO_ow, putO_mu, ofDR_ret, ofDR_exc, ofDU_ret, ofDU_exc, endF_nx, endF_ret, endF_exc, endU_nx, endU_ret, endU_exc, e_runF, e_runU, e_bind, e_ret, e_lift, e_rd, e_look, e_move, e_ownC, e_putC, e_op2, e_op1, e_tst, e_notM, e_andM, e_orM, e_notE, e_andE, e_orE, e_iteE, e_chn, e_argN, e_argC, e_tupE, e_lstE, e_noP, e_partM, e_sl3, asStr_str, e_strM, e_callF, e_callU, e_useU, e_mutM, e_skip, e_seqS, e_ifS, e_exprS, e_retS, e_setS, e_ownS, e_stIx, e_tgS, e_tgN, e_tgT, e_tgCons, e_tgNil, parK_2, e_parS, e_forS, e_rng1M, e_rng2M, e_iterM, e_enumA, e_zipM, e_lcE, o_subI, o_addI, o_eqI, o_neI, o_eqS, o_neS, o_ltI, o_leI, o_gtI, o_geI, o_maxI, o_minI, o_lenL, o_lenF, o_lenT, o_negI, o_asB, o_isiS, List.map_cons, List.map_nil, List.length_cons, List.length_nil, List.cons_append, List.nil_append, List.append_nil, List.replicate_succ, List.replicate_zero, List.getElem?_cons_succ, List.getElem?_cons_zero, List.set_cons_succ, List.set_cons_zero, Option.map_some, Option.map_none, Option.bind_some, Option.bind_none, if_true, if_false, ite_true, ite_false, decide_true, decide_false, Bool.not_true, Bool.not_false, Nat.zero_add, Nat.reduceAdd, Nat.reduceSub, reduceIte, reduceCtorEq, Nat.reduceLT, Nat.reduceLeDiff, Int.reduceLT, Int.reduceLE, Int.reduceToNat, Int.reduceNeg, Int.reduceEq, Int.reduceSub, Int.reduceAdd, Int.reduceMul, Int.reducePow, tyOk, beq_self_eq_true, e_freeP1, e_freeP2, freeO_no, freeO_im, e_wipe1, e_wipe2, e_back1, e_back2, backO_s, o_iterL, o_iterF, o_iterT, Bool.and_true, sK_nx, sK_ret, tK_nx, tK_ret, e_tryS, e_raiseS, o_isE, o_isEN, o_notNN, o_notNE, o_isNN, o_isNE, e_prN, e_prC, e_dispE, e_zipA, o_zipSS, o_zipSL, o_zipLL, o_asI, e_callL, ofDL_bl, ofDL_int, ofDL_str, ofDL_non, ofDL_exc, e_killS, kK_nx, kK_ret, kK_exc, e_wipeC, e_wipeN, e_backC, e_backN, e_stp, e_lcs, joinC_t, joinC_f, joinC_ok, e_augI, augO_int, e_getE, e_dixE, asD_k, keyD_s, keyD_i, e_bSkK, e_kiY, e_frzS, kF_nx, e_frzO, fO_ow, e_freeP3, e_strX, e_rng3A, o_iterM, e_lckS, kL_nx, e_lckO, lO_k, lO_t, e_iterK, o_iterKk, o_iterKt, e_getA, e_dixA, isDct_k, isDct_t, isDct_fk, isDct_ft, oGetA_k, oGetA_fk, oGetA_t, oGetA_ft, id_eq, e_iterL, e_lookT, lookR_ok, frzA_c, frzA_n, frz_im', frz_ow', frz_mu', frz_no', S1, a1, a2, I, SH, R1, R2, NE, lT, e1, Z, X1, IT, G1]
  · obtain ⟨⟨b, b1, b2⟩, b3⟩ := writB hT hf
    rw [b3] at S2
    have M := lc_mp (vs := [2]) (h := tgN 2) (t := ret true) (el := e_read_table_1) (τ := [.im (.str (writ T)), .ow (.lst ((splitL [47] (writ T)).map .str)), .no]) (k := fun r => .str (StrLaws.dbl 47 r)) (A := T) (fun r => .str r) (by have := hT.hh; omega) fun r hr => by simp -implicitDefEqProofs only [bM_ok, bM_exc, bR_ok, bR_exc, bS_nx, bS_ret, bS_exc, bO_some, bOM_some, selM_t, selM_f, selS_t, selS_f, rdO_im, rdO_ow, lookO_im, lookO_ow, lookO_mu, moveO_ow, ownO_ow, ownO_mu, putO_ow, putO_mu, ofDR_ret, ofDR_exc, ofDU_ret, ofDU_exc, endF_nx, endF_ret, endF_exc, endU_nx, endU_ret, endU_exc, e_runF, e_runU, e_bind, e_ret, e_lift, e_rd, e_look, e_move, e_ownC, e_putC, e_op2, e_op1, e_tst, e_notM, e_andM, e_orM, e_notE, e_andE, e_orE, e_iteE, e_chn, e_argN, e_argC, e_tupE, e_lstE, e_noP, e_partM, e_sl3, asStr_str, e_strM, e_callF, e_callU, e_useU, e_mutM, e_skip, e_seqS, e_ifS, e_exprS, e_retS, e_setS, e_ownS, e_stIx, e_tgS, e_tgN, e_tgT, e_tgCons, e_tgNil, parK_2, e_parS, e_forS, e_rng1M, e_rng2M, e_iterM, e_enumA, e_zipM, e_lcE, o_subI, o_addI, o_eqI, o_neI, o_eqS, o_neS, o_ltI, o_leI, o_gtI, o_geI, o_maxI, o_minI, o_lenL, o_lenF, o_lenT, o_negI, o_asB, o_isiS, List.map_cons, List.map_nil, List.length_cons, List.length_nil, List.cons_append, List.nil_append, List.append_nil, List.replicate_succ, List.replicate_zero, List.getElem?_cons_succ, List.getElem?_cons_zero, List.set_cons_succ, List.set_cons_zero, Option.map_some, Option.map_none, Option.bind_some, Option.bind_none, if_true, if_false, ite_true, ite_false, decide_true, decide_false, Bool.not_true, Bool.not_false, Nat.zero_add, Nat.reduceAdd, Nat.reduceSub, reduceIte, reduceCtorEq, Nat.reduceLT, Nat.reduceLeDiff, Int.reduceLT, Int.reduceLE, Int.reduceToNat, Int.reduceNeg, Int.reduceEq, Int.reduceSub, Int.reduceAdd, Int.reduceMul, Int.reducePow, tyOk, beq_self_eq_true, e_freeP1, e_freeP2, freeO_no, freeO_im, e_wipe1, e_wipe2, e_back1, e_back2, backO_s, o_iterL, o_iterF, o_iterT, Bool.and_true, sK_nx, sK_ret, tK_nx, tK_ret, e_tryS, e_raiseS, o_isE, o_isEN, o_notNN, o_notNE, o_isNN, o_isNE, e_prN, e_prC, e_dispE, e_zipA, o_zipSS, o_zipSL, o_zipLL, o_asI, e_callL, ofDL_bl, ofDL_int, ofDL_str, ofDL_non, ofDL_exc, e_killS, kK_nx, kK_ret, kK_exc, e_wipeC, e_wipeN, e_backC, e_backN, e_stp, e_lcs, joinC_t, joinC_f, joinC_ok, e_augI, augO_int, e_getE, e_dixE, asD_k, keyD_s, keyD_i, e_bSkK, e_kiY, e_frzS, kF_nx, e_frzO, fO_ow, e_freeP3, e_strX, e_rng3A, o_iterM, e_lckS, kL_nx, e_lckO, lO_k, lO_t, e_iterK, o_iterKk, o_iterKt, e_getA, e_dixA, isDct_k, isDct_t, isDct_fk, isDct_ft, oGetA_k, oGetA_fk, oGetA_t, oGetA_ft, id_eq, e_iterL, e_lookT, lookR_ok, frzA_c, frzA_n, frz_im', frz_ow', frz_mu', frz_no', one_eq, ix0, ix1, ix2, tx0, tx1, tx2, o_intB, isi_lst, isi_tup, isi_bi, isi_bb, isi_ii, isi_ss, o_listL, o_iterS', o_enumL', o_enumS', e_read_table_1, o_repl2 (r := r) (by have := (hT.t.2 r hr).1; omega)]
    rw [List.map_map] at S2
    have S2 : oSplit (.str (writ T)) (.str [32]) = some (.lst (T.map fun r => .str (StrLaws.dbl 47 r))) := S2
    cases b with
    | true => simp -implicitDefEqProofs (disch := (first | assumption | omega | ((try simp only [List.length_map, List.length_range, List.length_append, List.length_cons, List.length_nil, List.length_reverse, List.length_take, List.length_drop, List.length_set]); omega))) only [m_read_table, b_read_table, bM_ok, bM_exc, bR_ok, bR_exc, bS_nx, bS_ret, bS_exc, bO_some, bOM_some, selM_t, selM_f, selS_t, selS_f, rdO_im, rdO_ow, lookO_im, lookO_ow, lookO_mu, moveO_ow, ownO_ow, ownO_mu, putO_ow, putO_mu, ofDR_ret, ofDR_exc, ofDU_ret, ofDU_exc, endF_nx, endF_ret, endF_exc, endU_nx, endU_ret, endU_exc, e_runF, e_runU, e_bind, e_ret, e_lift, e_rd, e_look, e_move, e_ownC, e_putC, e_op2, e_op1, e_tst, e_notM, e_andM, e_orM, e_notE, e_andE, e_orE, e_iteE, e_chn, e_argN, e_argC, e_tupE, e_lstE, e_noP, e_partM, e_sl3, asStr_str, e_strM, e_callF, e_callU, e_useU, e_mutM, e_skip, e_seqS, e_ifS, e_exprS, e_retS, e_setS, e_ownS, e_stIx, e_tgS, e_tgN, e_tgT, e_tgCons, e_tgNil, parK_2, e_parS, e_forS, e_rng1M, e_rng2M, e_iterM, e_enumA, e_zipM, e_lcE, o_subI, o_addI, o_eqI, o_neI, o_eqS, o_neS, o_ltI, o_leI, o_gtI, o_geI, o_maxI, o_minI, o_lenL, o_lenF, o_lenT, o_negI, o_asB, o_isiS, List.map_cons, List.map_nil, List.length_cons, List.length_nil, List.cons_append, List.nil_append, List.append_nil, List.replicate_succ, List.replicate_zero, List.getElem?_cons_succ, List.getElem?_cons_zero, List.set_cons_succ, List.set_cons_zero, Option.map_some, Option.map_none, Option.bind_some, Option.bind_none, if_true, if_false, ite_true, ite_false, decide_true, decide_false, Bool.not_true, Bool.not_false, Nat.zero_add, Nat.reduceAdd, Nat.reduceSub, reduceIte, reduceCtorEq, Nat.reduceLT, Nat.reduceLeDiff, Int.reduceLT, Int.reduceLE, Int.reduceToNat, Int.reduceNeg, Int.reduceEq, Int.reduceSub, Int.reduceAdd, Int.reduceMul, Int.reducePow, tyOk, beq_self_eq_true, e_freeP1, e_freeP2, freeO_no, freeO_im, e_wipe1, e_wipe2, e_back1, e_back2, backO_s, o_iterL, o_iterF, o_iterT, Bool.and_true, sK_nx, sK_ret, tK_nx, tK_ret, e_tryS, e_raiseS, o_isE, o_isEN, o_notNN, o_notNE, o_isNN, o_isNE, e_prN, e_prC, e_dispE, e_zipA, o_zipSS, o_zipSL, o_zipLL, o_asI, e_callL, ofDL_bl, ofDL_int, ofDL_str, ofDL_non, ofDL_exc, e_killS, kK_nx, kK_ret, kK_exc, e_wipeC, e_wipeN, e_backC, e_backN, e_stp, e_lcs, joinC_t, joinC_f, joinC_ok, e_augI, augO_int, e_getE, e_dixE, asD_k, keyD_s, keyD_i, e_bSkK, e_kiY, e_frzS, kF_nx, e_frzO, fO_ow, e_freeP3, e_strX, e_rng3A, o_iterM, e_lckS, kL_nx, e_lckO, lO_k, lO_t, e_iterK, o_iterKk, o_iterKt, e_getA, e_dixA, isDct_k, isDct_t, isDct_fk, isDct_ft, oGetA_k, oGetA_fk, oGetA_t, oGetA_ft, id_eq, e_iterL, e_lookT, lookR_ok, frzA_c, frzA_n, frz_im', frz_ow', frz_mu', frz_no', S1, S2, b1, M, I, SH, R1, R2, NE, lT, e1, Z, X1, IT, G1]
    | false => simp -implicitDefEqProofs (disch := (first | assumption | omega | ((try simp only [List.length_map, List.length_range, List.length_append, List.length_cons, List.length_nil, List.length_reverse, List.length_take, List.length_drop, List.length_set]); omega))) only [m_read_table, b_read_table, bM_ok, bM_exc, bR_ok, bR_exc, bS_nx, bS_ret, bS_exc, bO_some, bOM_some, selM_t, selM_f, selS_t, selS_f, rdO_im, rdO_ow, lookO_im, lookO_ow, lookO_mu, moveO_ow, ownO_ow, ownO_mu, putO_ow, putO_mu, ofDR_ret, ofDR_exc, ofDU_ret, ofDU_exc, endF_nx, endF_ret, endF_exc, endU_nx, endU_ret, endU_exc, e_runF, e_runU, e_bind, e_ret, e_lift, e_rd, e_look, e_move, e_ownC, e_putC, e_op2, e_op1, e_tst, e_notM, e_andM, e_orM, e_notE, e_andE, e_orE, e_iteE, e_chn, e_argN, e_argC, e_tupE, e_lstE, e_noP, e_partM, e_sl3, asStr_str, e_strM, e_callF, e_callU, e_useU, e_mutM, e_skip, e_seqS, e_ifS, e_exprS, e_retS, e_setS, e_ownS, e_stIx, e_tgS, e_tgN, e_tgT, e_tgCons, e_tgNil, parK_2, e_parS, e_forS, e_rng1M, e_rng2M, e_iterM, e_enumA, e_zipM, e_lcE, o_subI, o_addI, o_eqI, o_neI, o_eqS, o_neS, o_ltI, o_leI, o_gtI, o_geI, o_maxI, o_minI, o_lenL, o_lenF, o_lenT, o_negI, o_asB, o_isiS, List.map_cons, List.map_nil, List.length_cons, List.length_nil, List.cons_append, List.nil_append, List.append_nil, List.replicate_succ, List.replicate_zero, List.getElem?_cons_succ, List.getElem?_cons_zero, List.set_cons_succ, List.set_cons_zero, Option.map_some, Option.map_none, Option.bind_some, Option.bind_none, if_true, if_false, ite_true, ite_false, decide_true, decide_false, Bool.not_true, Bool.not_false, Nat.zero_add, Nat.reduceAdd, Nat.reduceSub, reduceIte, reduceCtorEq, Nat.reduceLT, Nat.reduceLeDiff, Int.reduceLT, Int.reduceLE, Int.reduceToNat, Int.reduceNeg, Int.reduceEq, Int.reduceSub, Int.reduceAdd, Int.reduceMul, Int.reducePow, tyOk, beq_self_eq_true, e_freeP1, e_freeP2, freeO_no, freeO_im, e_wipe1, e_wipe2, e_back1, e_back2, backO_s, o_iterL, o_iterF, o_iterT, Bool.and_true, sK_nx, sK_ret, tK_nx, tK_ret, e_tryS, e_raiseS, o_isE, o_isEN, o_notNN, o_notNE, o_isNN, o_isNE, e_prN, e_prC, e_dispE, e_zipA, o_zipSS, o_zipSL, o_zipLL, o_asI, e_callL, ofDL_bl, ofDL_int, ofDL_str, ofDL_non, ofDL_exc, e_killS, kK_nx, kK_ret, kK_exc, e_wipeC, e_wipeN, e_backC, e_backN, e_stp, e_lcs, joinC_t, joinC_f, joinC_ok, e_augI, augO_int, e_getE, e_dixE, asD_k, keyD_s, keyD_i, e_bSkK, e_kiY, e_frzS, kF_nx, e_frzO, fO_ow, e_freeP3, e_strX, e_rng3A, o_iterM, e_lckS, kL_nx, e_lckO, lO_k, lO_t, e_iterK, o_iterKk, o_iterKt, e_getA, e_dixA, isDct_k, isDct_t, isDct_fk, isDct_ft, oGetA_k, oGetA_fk, oGetA_t, oGetA_ft, id_eq, e_iterL, e_lookT, lookR_ok, frzA_c, frzA_n, frz_im', frz_ow', frz_mu', frz_no', S1, S2, b1, b2 rfl, M, I, SH, R1, R2, NE, lT, e1, Z, X1, IT, G1]
end
end Q

/-! DP: the pool's signs, rows and tables (k43, k46, ..). -/
namespace Q
open PL
open PySem (Str)
abbrev ones (S : List Nat) : List D := S.map fun c => .str [c]
theorem ones_erase : ∀ (L : List Nat) (i : Nat), (ones L).eraseIdx i = ones (L.eraseIdx i)
  | [], _ => rfl
  | _ :: _, 0 => rfl
  | c :: L, i + 1 => by
    show D.str [c] :: (ones L).eraseIdx i = D.str [c] :: ones (L.eraseIdx i)
    rw [ones_erase L i]
theorem SG_len : T_b8bce6.length = 91 := rfl
theorem SG_all : (T_b8bce6.all fun c => decide (33 ≤ c) && decide (c ≤ 126) && decide (c ≠ 37)) = true := rfl
theorem SG_sg {c : Nat} (h : c ∈ T_b8bce6) : Sg c := by
  have := List.all_eq_true.mp SG_all c h
  simp only [Bool.and_eq_true, decide_eq_true_eq] at this
  exact ⟨this.1.1, this.1.2, this.2⟩
theorem ints_at {L : List Int} {i : Int} (h0 : 0 ≤ i) (h1 : i < L.length) : ∃ x, oIx (.lst (L.map .int)) (.int i) = some (.int x) ∧ x ∈ L :=
  ⟨_, o_ixM (z := 0) h0 h1, getD_in (by omega)⟩
theorem pick_ok {d : D} {L : List Nat} {n m k : Nat} {s2 : Slot} (h : Pool (k + n) d) (hL : L.length = m + n) (hm : 0 < m) (hz : L.length ≤ 92) (hs : ∀ c, c ∈ L → Sg c) :
    ∃ (S : List Nat) (d' : D) (L' : List Nat), lcL [3] (tgN 3) (ret true) e__law_some_signs_1 (rangeD 0 n) [] [.mu d, .ow (.lst (ones L)), s2, .no] = .ok (.lst (ones S)) [.mu d', .ow (.lst (ones L')), s2, .no] ∧ Pool k d' ∧ S.length = n ∧ ∀ c, c ∈ S → Sg c := by
  obtain ⟨ys, τ', e, S, d', L', rfl, rfl, hD, hl, hL', hs', hS⟩ := lc_list (vs := [3]) (h := tgN 3) (t := ret true) (el := e__law_some_signs_1) (ds := rangeD 0 n) (acc := []) (τ := [.mu d, .ow (.lst (ones L)), s2, .no])
    (fun j acc τ => ∃ (S : List Nat) (d' : D) (L' : List Nat), acc = ones S ∧ τ = [.mu d', .ow (.lst (ones L')), s2, .no] ∧ Pool (k + (n - j)) d' ∧ S.length = j ∧ L'.length = m + (n - j) ∧ (∀ c, c ∈ L' → Sg c) ∧ ∀ c, c ∈ S → Sg c)
    ⟨[], d, L, rfl, rfl, h, rfl, by omega, hs, fun _ h => nomatch h⟩ (by rw [rangeD_len]; simp; omega) fun j x acc τ hd hI => by
      obtain ⟨S, d', L', rfl, rfl, hD, hl, hL', hs', hS⟩ := hI
      have hj : j < n := by
        have := (List.getElem?_eq_some_iff.mp hd).1
        rwa [rangeD_len] at this
      obtain ⟨w, d2, en, w0, w1, hD2⟩ := draw_ok (n := k + (n - (j + 1))) (many := L'.length) (hD.less (by omega)) (by omega) (by omega)
      have hw : w.toNat < L'.length := by omega
      have hg : (ones L')[w.toNat]? = some (.str [L'[w.toNat]]) := by
        unfold ones
        rw [List.getElem?_map, List.getElem?_eq_getElem hw]
        rfl
      have P := o_popAt w0 (by omega) hg
      have ll : ((ones L').length : Int) = (L'.length : Int) := by rw [List.length_map]
      refine ⟨_, _, rfl, .inr ⟨rfl, .str [L'[w.toNat]], [.mu d2, .ow (.lst ((ones L').eraseIdx w.toNat)), s2, .im x], ?_, S ++ [L'[w.toNat]], d2, L'.eraseIdx w.toNat, ?_, ?_, hD2, by rw [List.length_append, hl]; rfl, ?_, fun c hc => hs' c (List.mem_of_mem_eraseIdx hc), fun c hc => ?_⟩⟩
      · simp -implicitDefEqProofs only [e__law_some_signs_1, bM_ok, bM_exc, bR_ok, bR_exc, bS_nx, bS_ret, bS_exc, bO_some, bOM_some, selM_t, selM_f, selS_t, selS_f, rdO_im, rdO_ow, lookO_im, lookO_ow, lookO_mu, moveO_ow, ownO_ow, ownO_mu, putO_ow, putO_mu, ofDR_ret, ofDR_exc, ofDU_ret, ofDU_exc, endF_nx, endF_ret, endF_exc, endU_nx, endU_ret, endU_exc, e_runF, e_runU, e_bind, e_ret, e_lift, e_rd, e_look, e_move, e_ownC, e_putC, e_op2, e_op1, e_tst, e_notM, e_andM, e_orM, e_notE, e_andE, e_orE, e_iteE, e_chn, e_argN, e_argC, e_tupE, e_lstE, e_noP, e_partM, e_sl3, asStr_str, e_strM, e_callF, e_callU, e_useU, e_mutM, e_skip, e_seqS, e_ifS, e_exprS, e_retS, e_setS, e_ownS, e_stIx, e_tgS, e_tgN, e_tgT, e_tgCons, e_tgNil, parK_2, e_parS, e_forS, e_rng1M, e_rng2M, e_iterM, e_enumA, e_zipM, e_lcE, o_subI, o_addI, o_eqI, o_neI, o_eqS, o_neS, o_ltI, o_leI, o_gtI, o_geI, o_maxI, o_minI, o_lenL, o_lenF, o_lenT, o_negI, o_asB, o_isiS, List.map_cons, List.map_nil, List.length_cons, List.length_nil, List.cons_append, List.nil_append, List.append_nil, List.replicate_succ, List.replicate_zero, List.getElem?_cons_succ, List.getElem?_cons_zero, List.set_cons_succ, List.set_cons_zero, Option.map_some, Option.map_none, Option.bind_some, Option.bind_none, if_true, if_false, ite_true, ite_false, decide_true, decide_false, Bool.not_true, Bool.not_false, Nat.zero_add, Nat.reduceAdd, Nat.reduceSub, reduceIte, reduceCtorEq, Nat.reduceLT, Nat.reduceLeDiff, Int.reduceLT, Int.reduceLE, Int.reduceToNat, Int.reduceNeg, Int.reduceEq, Int.reduceSub, Int.reduceAdd, Int.reduceMul, Int.reducePow, tyOk, beq_self_eq_true, e_freeP1, e_freeP2, freeO_no, freeO_im, e_wipe1, e_wipe2, e_back1, e_back2, backO_s, o_iterL, o_iterF, o_iterT, Bool.and_true, sK_nx, sK_ret, tK_nx, tK_ret, e_tryS, e_raiseS, o_isE, o_isEN, o_notNN, o_notNE, o_isNN, o_isNE, e_prN, e_prC, e_dispE, e_zipA, o_zipSS, o_zipSL, o_zipLL, o_asI, e_callL, ofDL_bl, ofDL_int, ofDL_str, ofDL_non, ofDL_exc, e_killS, kK_nx, kK_ret, kK_exc, e_wipeC, e_wipeN, e_backC, e_backN, e_stp, e_lcs, joinC_t, joinC_f, joinC_ok, e_augI, augO_int, e_getE, e_dixE, asD_k, keyD_s, keyD_i, e_bSkK, e_kiY, e_frzS, kF_nx, e_frzO, fO_ow, e_freeP3, e_strX, e_rng3A, o_iterM, e_lckS, kL_nx, e_lckO, lO_k, lO_t, e_iterK, o_iterKk, o_iterKt, e_getA, e_dixA, isDct_k, isDct_t, isDct_fk, isDct_ft, oGetA_k, oGetA_fk, oGetA_t, oGetA_ft, id_eq, e_iterL, e_lookT, lookR_ok, frzA_c, frzA_n, frz_im', frz_ow', frz_mu', frz_no', ll, en, P]
      · unfold ones; rw [List.map_append]; rfl
      · show [Slot.mu d2, Slot.ow (.lst ((ones L').eraseIdx w.toNat)), s2, Slot.no] = _
        rw [ones_erase]
      · rw [List.length_eraseIdx_of_lt hw]; omega
      · rcases List.mem_append.mp hc with q | q
        · exact hS c q
        · rw [List.mem_singleton.mp q]; exact hs' _ (List.getElem_mem hw)
  rw [rangeD_len] at hl hD
  exact ⟨S, d', L', e, hD.less (by omega), hl, hS⟩
theorem signs_ok {n : Nat} {d : D} (h : Pool (n + 20) d) : ∃ S d', m__law_some_signs [d] = .ret (.lst (ones S)) d' ∧ Pool n d' ∧ 0 < S.length ∧ S.length ≤ 13 ∧ ∀ c, c ∈ S → Sg c := by
  obtain ⟨v, d1, e1, v0, v1, h1⟩ := draw_ok (n := n + 19) (many := 5) h (by decide) (by decide)
  obtain ⟨x, ix, hx⟩ := ints_at (L := [1, 2, 2, 3, 12]) v0 v1
  have ix : oIx (.lst [.int 1, .int 2, .int 2, .int 3, .int 12]) (.int v) = some (.int x) := ix
  obtain ⟨m, rfl, m0, m1⟩ : ∃ m : Nat, x = m ∧ 0 < m ∧ m ≤ 12 := by
    simp only [List.mem_cons, List.not_mem_nil, or_false] at hx
    exact ⟨x.toNat, by omega, by omega, by omega⟩
  have hl := SG_len
  have hs := @SG_sg
  unfold m__law_some_signs b__law_some_signs
  generalize T_b8bce6 = ds at *
  obtain ⟨S, d2, L', e2, h2, sl, hS⟩ := pick_ok (L := ds) (n := m) (m := 91 - m) (k := n + 7) (s2 := .no) (h1.less (by omega)) (by omega) (by omega) (by omega) (fun c hc => hs hc)
  have rm := o_range m (by omega)
  obtain ⟨u, d3, e3, u0, u1, h3⟩ := draw_ok (n := n + 6) (many := 3) h2 (by decide) (by decide)
  have L2 : oListA (.str ds) = some (.lst (ones ds)) := o_listS (s := ds) (by omega)
  by_cases q : u = 0
  · refine ⟨S ++ [47], d3, ?_, h3.less (by omega), by simp, by simp; omega, fun c hc => ?_⟩
    · have A : oAdd (.lst (ones S)) (.lst (repD 1 [.str [47]])) = some (.lst (ones (S ++ [47]))) := by
        rw [show repD 1 [D.str [47]] = ones [47] from rfl, o_addL (by simp; omega)]
        simp
      have M : oMulA (.lst [.str [47]]) (.int 1) = some (.lst (repD 1 [.str [47]])) := rfl
      simp -implicitDefEqProofs only [bM_ok, bM_exc, bR_ok, bR_exc, bS_nx, bS_ret, bS_exc, bO_some, bOM_some, selM_t, selM_f, selS_t, selS_f, rdO_im, rdO_ow, lookO_im, lookO_ow, lookO_mu, moveO_ow, ownO_ow, ownO_mu, putO_ow, putO_mu, ofDR_ret, ofDR_exc, ofDU_ret, ofDU_exc, endF_nx, endF_ret, endF_exc, endU_nx, endU_ret, endU_exc, e_runF, e_runU, e_bind, e_ret, e_lift, e_rd, e_look, e_move, e_ownC, e_putC, e_op2, e_op1, e_tst, e_notM, e_andM, e_orM, e_notE, e_andE, e_orE, e_iteE, e_chn, e_argN, e_argC, e_tupE, e_lstE, e_noP, e_partM, e_sl3, asStr_str, e_strM, e_callF, e_callU, e_useU, e_mutM, e_skip, e_seqS, e_ifS, e_exprS, e_retS, e_setS, e_ownS, e_stIx, e_tgS, e_tgN, e_tgT, e_tgCons, e_tgNil, parK_2, e_parS, e_forS, e_rng1M, e_rng2M, e_iterM, e_enumA, e_zipM, e_lcE, o_subI, o_addI, o_eqI, o_neI, o_eqS, o_neS, o_ltI, o_leI, o_gtI, o_geI, o_maxI, o_minI, o_lenL, o_lenF, o_lenT, o_negI, o_asB, o_isiS, List.map_cons, List.map_nil, List.length_cons, List.length_nil, List.cons_append, List.nil_append, List.append_nil, List.replicate_succ, List.replicate_zero, List.getElem?_cons_succ, List.getElem?_cons_zero, List.set_cons_succ, List.set_cons_zero, Option.map_some, Option.map_none, Option.bind_some, Option.bind_none, if_true, if_false, ite_true, ite_false, decide_true, decide_false, Bool.not_true, Bool.not_false, Nat.zero_add, Nat.reduceAdd, Nat.reduceSub, reduceIte, reduceCtorEq, Nat.reduceLT, Nat.reduceLeDiff, Int.reduceLT, Int.reduceLE, Int.reduceToNat, Int.reduceNeg, Int.reduceEq, Int.reduceSub, Int.reduceAdd, Int.reduceMul, Int.reducePow, tyOk, beq_self_eq_true, e_freeP1, e_freeP2, freeO_no, freeO_im, e_wipe1, e_wipe2, e_back1, e_back2, backO_s, o_iterL, o_iterF, o_iterT, Bool.and_true, sK_nx, sK_ret, tK_nx, tK_ret, e_tryS, e_raiseS, o_isE, o_isEN, o_notNN, o_notNE, o_isNN, o_isNE, e_prN, e_prC, e_dispE, e_zipA, o_zipSS, o_zipSL, o_zipLL, o_asI, e_callL, ofDL_bl, ofDL_int, ofDL_str, ofDL_non, ofDL_exc, e_killS, kK_nx, kK_ret, kK_exc, e_wipeC, e_wipeN, e_backC, e_backN, e_stp, e_lcs, joinC_t, joinC_f, joinC_ok, e_augI, augO_int, e_getE, e_dixE, asD_k, keyD_s, keyD_i, e_bSkK, e_kiY, e_frzS, kF_nx, e_frzO, fO_ow, e_freeP3, e_strX, e_rng3A, o_iterM, e_lckS, kL_nx, e_lckO, lO_k, lO_t, e_iterK, o_iterKk, o_iterKt, e_getA, e_dixA, isDct_k, isDct_t, isDct_fk, isDct_ft, oGetA_k, oGetA_fk, oGetA_t, oGetA_ft, id_eq, e_iterL, e_lookT, lookR_ok, frzA_c, frzA_n, frz_im', frz_ow', frz_mu', frz_no', one_eq, ix0, ix1, ix2, tx0, tx1, tx2, o_intB, isi_lst, isi_tup, isi_bi, isi_bb, isi_ii, isi_ss, o_listL, o_iterS', o_enumL', o_enumS', L2, e1, ix, rm, e2, e3, q, M, A]
    · rcases List.mem_append.mp hc with z | z
      · exact hS c z
      · rw [List.mem_singleton.mp z]
        exact ⟨by decide, by decide, by decide⟩
  · refine ⟨S, d3, ?_, h3.less (by omega), by omega, by omega, hS⟩
    have A : oAdd (.lst (ones S)) (.lst []) = some (.lst (ones S)) := by
      rw [o_addL (by simp; omega), List.append_nil]
    have M : oMulA (.lst [.str [47]]) (.int 0) = some (.lst []) := rfl
    simp -implicitDefEqProofs only [bM_ok, bM_exc, bR_ok, bR_exc, bS_nx, bS_ret, bS_exc, bO_some, bOM_some, selM_t, selM_f, selS_t, selS_f, rdO_im, rdO_ow, lookO_im, lookO_ow, lookO_mu, moveO_ow, ownO_ow, ownO_mu, putO_ow, putO_mu, ofDR_ret, ofDR_exc, ofDU_ret, ofDU_exc, endF_nx, endF_ret, endF_exc, endU_nx, endU_ret, endU_exc, e_runF, e_runU, e_bind, e_ret, e_lift, e_rd, e_look, e_move, e_ownC, e_putC, e_op2, e_op1, e_tst, e_notM, e_andM, e_orM, e_notE, e_andE, e_orE, e_iteE, e_chn, e_argN, e_argC, e_tupE, e_lstE, e_noP, e_partM, e_sl3, asStr_str, e_strM, e_callF, e_callU, e_useU, e_mutM, e_skip, e_seqS, e_ifS, e_exprS, e_retS, e_setS, e_ownS, e_stIx, e_tgS, e_tgN, e_tgT, e_tgCons, e_tgNil, parK_2, e_parS, e_forS, e_rng1M, e_rng2M, e_iterM, e_enumA, e_zipM, e_lcE, o_subI, o_addI, o_eqI, o_neI, o_eqS, o_neS, o_ltI, o_leI, o_gtI, o_geI, o_maxI, o_minI, o_lenL, o_lenF, o_lenT, o_negI, o_asB, o_isiS, List.map_cons, List.map_nil, List.length_cons, List.length_nil, List.cons_append, List.nil_append, List.append_nil, List.replicate_succ, List.replicate_zero, List.getElem?_cons_succ, List.getElem?_cons_zero, List.set_cons_succ, List.set_cons_zero, Option.map_some, Option.map_none, Option.bind_some, Option.bind_none, if_true, if_false, ite_true, ite_false, decide_true, decide_false, Bool.not_true, Bool.not_false, Nat.zero_add, Nat.reduceAdd, Nat.reduceSub, reduceIte, reduceCtorEq, Nat.reduceLT, Nat.reduceLeDiff, Int.reduceLT, Int.reduceLE, Int.reduceToNat, Int.reduceNeg, Int.reduceEq, Int.reduceSub, Int.reduceAdd, Int.reduceMul, Int.reducePow, tyOk, beq_self_eq_true, e_freeP1, e_freeP2, freeO_no, freeO_im, e_wipe1, e_wipe2, e_back1, e_back2, backO_s, o_iterL, o_iterF, o_iterT, Bool.and_true, sK_nx, sK_ret, tK_nx, tK_ret, e_tryS, e_raiseS, o_isE, o_isEN, o_notNN, o_notNE, o_isNN, o_isNE, e_prN, e_prC, e_dispE, e_zipA, o_zipSS, o_zipSL, o_zipLL, o_asI, e_callL, ofDL_bl, ofDL_int, ofDL_str, ofDL_non, ofDL_exc, e_killS, kK_nx, kK_ret, kK_exc, e_wipeC, e_wipeN, e_backC, e_backN, e_stp, e_lcs, joinC_t, joinC_f, joinC_ok, e_augI, augO_int, e_getE, e_dixE, asD_k, keyD_s, keyD_i, e_bSkK, e_kiY, e_frzS, kF_nx, e_frzO, fO_ow, e_freeP3, e_strX, e_rng3A, o_iterM, e_lckS, kL_nx, e_lckO, lO_k, lO_t, e_iterK, o_iterKk, o_iterKt, e_getA, e_dixA, isDct_k, isDct_t, isDct_fk, isDct_ft, oGetA_k, oGetA_fk, oGetA_t, oGetA_ft, id_eq, e_iterL, e_lookT, lookR_ok, frzA_c, frzA_n, frz_im', frz_ow', frz_mu', frz_no', one_eq, ix0, ix1, ix2, tx0, tx1, tx2, o_intB, isi_lst, isi_tup, isi_bi, isi_bb, isi_ii, isi_ss, o_listL, o_iterS', o_enumL', o_enumS', L2, e1, ix, rm, e2, e3, q, M, A]
theorem row_ok {n w o : Nat} {d : D} {S : List Nat} (h : Pool (n + 2 * w) d) (hw : w ≤ 100) (s0 : 0 < S.length) (s1 : S.length ≤ 100) (ho : o ≤ 100) (hS : ∀ c, c ∈ S → Sg c) : ∃ R d', m__law_row [d, .lst (ones S), .int w, .int o] = .ret (.str R) d' ∧ Pool n d' ∧ R.length = w ∧ ∀ c, c ∈ R → Sg c := by
  have r1 := o_range w (by omega)
  have hSl := List.length_map (as := S) (f := fun c => D.str [c])
  obtain ⟨s', u', el, R, d', rfl, rfl, hl, hR, hP⟩ := for_rel2D (h := tgN 5) (body := b__law_row_1) (ds := rangeD 0 w) (τ := [.mu d, .im (.lst (ones S)), .im (.int w), .im (.int o), .im (.str []), .no, .no]) (s := .mu d) (u := .im (.str [])) 0 4
    (fun k s u => ∃ (R : List Nat) (d : D), s = .mu d ∧ u = .im (.str R) ∧ R.length = k ∧ (∀ c, c ∈ R → Sg c) ∧ Pool (n + 2 * (w - k)) d) ⟨[], d, rfl, rfl, rfl, fun _ z => (nomatch z), h⟩ fun k x s u hx hI => by
      obtain ⟨R, d, rfl, rfl, hl, hR, hP⟩ := hI
      have hk : k < w := by
        have := (List.getElem?_eq_some_iff.mp hx).1
        rwa [rangeD_len] at this
      obtain ⟨v, d1, e1, v0, v1, h1⟩ := draw_ok (n := n + 2 * (w - (k + 1)) + 1) (many := S.length) (hP.less (by omega)) (by omega) (by omega)
      have I := o_ixM (f := fun c => D.str [c]) (A := S) (z := 0) v0 v1
      have hg : Sg (S.getD v.toNat 0) := hS _ (getD_in (by omega))
      by_cases q : 0 < o
      · obtain ⟨u, d2, e2, u0, u1, h2⟩ := draw_ok (n := n + 2 * (w - (k + 1))) (many := o) h1 (by omega) (by omega)
        by_cases qu : u = 0
        · refine ⟨_, _, ?_, R ++ [63], d2, rfl, rfl, by simp [hl], fun c hc => ?_, h2⟩
          · simp -implicitDefEqProofs (disch := (first | assumption | omega | ((try simp only [List.length_map, List.length_range, List.length_append, List.length_cons, List.length_nil, List.length_reverse, List.length_take, List.length_drop, List.length_set]); omega))) only [b__law_row_1, bM_ok, bM_exc, bR_ok, bR_exc, bS_nx, bS_ret, bS_exc, bO_some, bOM_some, selM_t, selM_f, selS_t, selS_f, rdO_im, rdO_ow, lookO_im, lookO_ow, lookO_mu, moveO_ow, ownO_ow, ownO_mu, putO_ow, putO_mu, ofDR_ret, ofDR_exc, ofDU_ret, ofDU_exc, endF_nx, endF_ret, endF_exc, endU_nx, endU_ret, endU_exc, e_runF, e_runU, e_bind, e_ret, e_lift, e_rd, e_look, e_move, e_ownC, e_putC, e_op2, e_op1, e_tst, e_notM, e_andM, e_orM, e_notE, e_andE, e_orE, e_iteE, e_chn, e_argN, e_argC, e_tupE, e_lstE, e_noP, e_partM, e_sl3, asStr_str, e_strM, e_callF, e_callU, e_useU, e_mutM, e_skip, e_seqS, e_ifS, e_exprS, e_retS, e_setS, e_ownS, e_stIx, e_tgS, e_tgN, e_tgT, e_tgCons, e_tgNil, parK_2, e_parS, e_forS, e_rng1M, e_rng2M, e_iterM, e_enumA, e_zipM, e_lcE, o_subI, o_addI, o_eqI, o_neI, o_eqS, o_neS, o_ltI, o_leI, o_gtI, o_geI, o_maxI, o_minI, o_lenL, o_lenF, o_lenT, o_negI, o_asB, o_isiS, List.map_cons, List.map_nil, List.length_cons, List.length_nil, List.cons_append, List.nil_append, List.append_nil, List.replicate_succ, List.replicate_zero, List.getElem?_cons_succ, List.getElem?_cons_zero, List.set_cons_succ, List.set_cons_zero, Option.map_some, Option.map_none, Option.bind_some, Option.bind_none, if_true, if_false, ite_true, ite_false, decide_true, decide_false, Bool.not_true, Bool.not_false, Nat.zero_add, Nat.reduceAdd, Nat.reduceSub, reduceIte, reduceCtorEq, Nat.reduceLT, Nat.reduceLeDiff, Int.reduceLT, Int.reduceLE, Int.reduceToNat, Int.reduceNeg, Int.reduceEq, Int.reduceSub, Int.reduceAdd, Int.reduceMul, Int.reducePow, tyOk, beq_self_eq_true, e_freeP1, e_freeP2, freeO_no, freeO_im, e_wipe1, e_wipe2, e_back1, e_back2, backO_s, o_iterL, o_iterF, o_iterT, Bool.and_true, sK_nx, sK_ret, tK_nx, tK_ret, e_tryS, e_raiseS, o_isE, o_isEN, o_notNN, o_notNE, o_isNN, o_isNE, e_prN, e_prC, e_dispE, e_zipA, o_zipSS, o_zipSL, o_zipLL, o_asI, e_callL, ofDL_bl, ofDL_int, ofDL_str, ofDL_non, ofDL_exc, e_killS, kK_nx, kK_ret, kK_exc, e_wipeC, e_wipeN, e_backC, e_backN, e_stp, e_lcs, joinC_t, joinC_f, joinC_ok, e_augI, augO_int, e_getE, e_dixE, asD_k, keyD_s, keyD_i, e_bSkK, e_kiY, e_frzS, kF_nx, e_frzO, fO_ow, e_freeP3, e_strX, e_rng3A, o_iterM, e_lckS, kL_nx, e_lckO, lO_k, lO_t, e_iterK, o_iterKk, o_iterKt, e_getA, e_dixA, isDct_k, isDct_t, isDct_fk, isDct_ft, oGetA_k, oGetA_fk, oGetA_t, oGetA_ft, id_eq, e_iterL, e_lookT, lookR_ok, frzA_c, frzA_n, frz_im', frz_ow', frz_mu', frz_no', one_eq, ix0, ix1, ix2, tx0, tx1, tx2, o_intB, isi_lst, isi_tup, isi_bi, isi_bb, isi_ii, isi_ss, o_listL, o_iterS', o_enumL', o_enumS', hSl, e1, I, show ((0 : Int) < (o : Int)) = True from eq_true (by omega), e2, qu, o_addS]
          · rcases List.mem_append.mp hc with z | z
            · exact hR c z
            · rw [List.mem_singleton.mp z]
              exact ⟨by decide, by decide, by decide⟩
        · refine ⟨_, _, ?_, R ++ [S.getD v.toNat 0], d2, rfl, rfl, by simp [hl], fun c hc => ?_, h2⟩
          · simp -implicitDefEqProofs (disch := (first | assumption | omega | ((try simp only [List.length_map, List.length_range, List.length_append, List.length_cons, List.length_nil, List.length_reverse, List.length_take, List.length_drop, List.length_set]); omega))) only [b__law_row_1, bM_ok, bM_exc, bR_ok, bR_exc, bS_nx, bS_ret, bS_exc, bO_some, bOM_some, selM_t, selM_f, selS_t, selS_f, rdO_im, rdO_ow, lookO_im, lookO_ow, lookO_mu, moveO_ow, ownO_ow, ownO_mu, putO_ow, putO_mu, ofDR_ret, ofDR_exc, ofDU_ret, ofDU_exc, endF_nx, endF_ret, endF_exc, endU_nx, endU_ret, endU_exc, e_runF, e_runU, e_bind, e_ret, e_lift, e_rd, e_look, e_move, e_ownC, e_putC, e_op2, e_op1, e_tst, e_notM, e_andM, e_orM, e_notE, e_andE, e_orE, e_iteE, e_chn, e_argN, e_argC, e_tupE, e_lstE, e_noP, e_partM, e_sl3, asStr_str, e_strM, e_callF, e_callU, e_useU, e_mutM, e_skip, e_seqS, e_ifS, e_exprS, e_retS, e_setS, e_ownS, e_stIx, e_tgS, e_tgN, e_tgT, e_tgCons, e_tgNil, parK_2, e_parS, e_forS, e_rng1M, e_rng2M, e_iterM, e_enumA, e_zipM, e_lcE, o_subI, o_addI, o_eqI, o_neI, o_eqS, o_neS, o_ltI, o_leI, o_gtI, o_geI, o_maxI, o_minI, o_lenL, o_lenF, o_lenT, o_negI, o_asB, o_isiS, List.map_cons, List.map_nil, List.length_cons, List.length_nil, List.cons_append, List.nil_append, List.append_nil, List.replicate_succ, List.replicate_zero, List.getElem?_cons_succ, List.getElem?_cons_zero, List.set_cons_succ, List.set_cons_zero, Option.map_some, Option.map_none, Option.bind_some, Option.bind_none, if_true, if_false, ite_true, ite_false, decide_true, decide_false, Bool.not_true, Bool.not_false, Nat.zero_add, Nat.reduceAdd, Nat.reduceSub, reduceIte, reduceCtorEq, Nat.reduceLT, Nat.reduceLeDiff, Int.reduceLT, Int.reduceLE, Int.reduceToNat, Int.reduceNeg, Int.reduceEq, Int.reduceSub, Int.reduceAdd, Int.reduceMul, Int.reducePow, tyOk, beq_self_eq_true, e_freeP1, e_freeP2, freeO_no, freeO_im, e_wipe1, e_wipe2, e_back1, e_back2, backO_s, o_iterL, o_iterF, o_iterT, Bool.and_true, sK_nx, sK_ret, tK_nx, tK_ret, e_tryS, e_raiseS, o_isE, o_isEN, o_notNN, o_notNE, o_isNN, o_isNE, e_prN, e_prC, e_dispE, e_zipA, o_zipSS, o_zipSL, o_zipLL, o_asI, e_callL, ofDL_bl, ofDL_int, ofDL_str, ofDL_non, ofDL_exc, e_killS, kK_nx, kK_ret, kK_exc, e_wipeC, e_wipeN, e_backC, e_backN, e_stp, e_lcs, joinC_t, joinC_f, joinC_ok, e_augI, augO_int, e_getE, e_dixE, asD_k, keyD_s, keyD_i, e_bSkK, e_kiY, e_frzS, kF_nx, e_frzO, fO_ow, e_freeP3, e_strX, e_rng3A, o_iterM, e_lckS, kL_nx, e_lckO, lO_k, lO_t, e_iterK, o_iterKk, o_iterKt, e_getA, e_dixA, isDct_k, isDct_t, isDct_fk, isDct_ft, oGetA_k, oGetA_fk, oGetA_t, oGetA_ft, id_eq, e_iterL, e_lookT, lookR_ok, frzA_c, frzA_n, frz_im', frz_ow', frz_mu', frz_no', one_eq, ix0, ix1, ix2, tx0, tx1, tx2, o_intB, isi_lst, isi_tup, isi_bi, isi_bb, isi_ii, isi_ss, o_listL, o_iterS', o_enumL', o_enumS', hSl, e1, I, show ((0 : Int) < (o : Int)) = True from eq_true (by omega), e2, qu, o_addS]
          · rcases List.mem_append.mp hc with z | z
            · exact hR c z
            · rw [List.mem_singleton.mp z]
              exact hg
      · refine ⟨_, _, ?_, R ++ [S.getD v.toNat 0], d1, rfl, rfl, by simp [hl], fun c hc => ?_, h1.less (by omega)⟩
        · simp -implicitDefEqProofs (disch := (first | assumption | omega | ((try simp only [List.length_map, List.length_range, List.length_append, List.length_cons, List.length_nil, List.length_reverse, List.length_take, List.length_drop, List.length_set]); omega))) only [b__law_row_1, bM_ok, bM_exc, bR_ok, bR_exc, bS_nx, bS_ret, bS_exc, bO_some, bOM_some, selM_t, selM_f, selS_t, selS_f, rdO_im, rdO_ow, lookO_im, lookO_ow, lookO_mu, moveO_ow, ownO_ow, ownO_mu, putO_ow, putO_mu, ofDR_ret, ofDR_exc, ofDU_ret, ofDU_exc, endF_nx, endF_ret, endF_exc, endU_nx, endU_ret, endU_exc, e_runF, e_runU, e_bind, e_ret, e_lift, e_rd, e_look, e_move, e_ownC, e_putC, e_op2, e_op1, e_tst, e_notM, e_andM, e_orM, e_notE, e_andE, e_orE, e_iteE, e_chn, e_argN, e_argC, e_tupE, e_lstE, e_noP, e_partM, e_sl3, asStr_str, e_strM, e_callF, e_callU, e_useU, e_mutM, e_skip, e_seqS, e_ifS, e_exprS, e_retS, e_setS, e_ownS, e_stIx, e_tgS, e_tgN, e_tgT, e_tgCons, e_tgNil, parK_2, e_parS, e_forS, e_rng1M, e_rng2M, e_iterM, e_enumA, e_zipM, e_lcE, o_subI, o_addI, o_eqI, o_neI, o_eqS, o_neS, o_ltI, o_leI, o_gtI, o_geI, o_maxI, o_minI, o_lenL, o_lenF, o_lenT, o_negI, o_asB, o_isiS, List.map_cons, List.map_nil, List.length_cons, List.length_nil, List.cons_append, List.nil_append, List.append_nil, List.replicate_succ, List.replicate_zero, List.getElem?_cons_succ, List.getElem?_cons_zero, List.set_cons_succ, List.set_cons_zero, Option.map_some, Option.map_none, Option.bind_some, Option.bind_none, if_true, if_false, ite_true, ite_false, decide_true, decide_false, Bool.not_true, Bool.not_false, Nat.zero_add, Nat.reduceAdd, Nat.reduceSub, reduceIte, reduceCtorEq, Nat.reduceLT, Nat.reduceLeDiff, Int.reduceLT, Int.reduceLE, Int.reduceToNat, Int.reduceNeg, Int.reduceEq, Int.reduceSub, Int.reduceAdd, Int.reduceMul, Int.reducePow, tyOk, beq_self_eq_true, e_freeP1, e_freeP2, freeO_no, freeO_im, e_wipe1, e_wipe2, e_back1, e_back2, backO_s, o_iterL, o_iterF, o_iterT, Bool.and_true, sK_nx, sK_ret, tK_nx, tK_ret, e_tryS, e_raiseS, o_isE, o_isEN, o_notNN, o_notNE, o_isNN, o_isNE, e_prN, e_prC, e_dispE, e_zipA, o_zipSS, o_zipSL, o_zipLL, o_asI, e_callL, ofDL_bl, ofDL_int, ofDL_str, ofDL_non, ofDL_exc, e_killS, kK_nx, kK_ret, kK_exc, e_wipeC, e_wipeN, e_backC, e_backN, e_stp, e_lcs, joinC_t, joinC_f, joinC_ok, e_augI, augO_int, e_getE, e_dixE, asD_k, keyD_s, keyD_i, e_bSkK, e_kiY, e_frzS, kF_nx, e_frzO, fO_ow, e_freeP3, e_strX, e_rng3A, o_iterM, e_lckS, kL_nx, e_lckO, lO_k, lO_t, e_iterK, o_iterKk, o_iterKt, e_getA, e_dixA, isDct_k, isDct_t, isDct_fk, isDct_ft, oGetA_k, oGetA_fk, oGetA_t, oGetA_ft, id_eq, e_iterL, e_lookT, lookR_ok, frzA_c, frzA_n, frz_im', frz_ow', frz_mu', frz_no', one_eq, ix0, ix1, ix2, tx0, tx1, tx2, o_intB, isi_lst, isi_tup, isi_bi, isi_bb, isi_ii, isi_ss, o_listL, o_iterS', o_enumL', o_enumS', hSl, e1, I, show ((0 : Int) < (o : Int)) = False from eq_false (by omega), o_addS]
        · rcases List.mem_append.mp hc with z | z
          · exact hR c z
          · rw [List.mem_singleton.mp z]
            exact hg
  rw [rangeD_len] at hl hP
  simp -implicitDefEqProofs only [bM_ok, bM_exc, bR_ok, bR_exc, bS_nx, bS_ret, bS_exc, bO_some, bOM_some, selM_t, selM_f, selS_t, selS_f, rdO_im, rdO_ow, lookO_im, lookO_ow, lookO_mu, moveO_ow, ownO_ow, ownO_mu, putO_ow, putO_mu, ofDR_ret, ofDR_exc, ofDU_ret, ofDU_exc, endF_nx, endF_ret, endF_exc, endU_nx, endU_ret, endU_exc, e_runF, e_runU, e_bind, e_ret, e_lift, e_rd, e_look, e_move, e_ownC, e_putC, e_op2, e_op1, e_tst, e_notM, e_andM, e_orM, e_notE, e_andE, e_orE, e_iteE, e_chn, e_argN, e_argC, e_tupE, e_lstE, e_noP, e_partM, e_sl3, asStr_str, e_strM, e_callF, e_callU, e_useU, e_mutM, e_skip, e_seqS, e_ifS, e_exprS, e_retS, e_setS, e_ownS, e_stIx, e_tgS, e_tgN, e_tgT, e_tgCons, e_tgNil, parK_2, e_parS, e_forS, e_rng1M, e_rng2M, e_iterM, e_enumA, e_zipM, e_lcE, o_subI, o_addI, o_eqI, o_neI, o_eqS, o_neS, o_ltI, o_leI, o_gtI, o_geI, o_maxI, o_minI, o_lenL, o_lenF, o_lenT, o_negI, o_asB, o_isiS, List.map_cons, List.map_nil, List.length_cons, List.length_nil, List.cons_append, List.nil_append, List.append_nil, List.replicate_succ, List.replicate_zero, List.getElem?_cons_succ, List.getElem?_cons_zero, List.set_cons_succ, List.set_cons_zero, Option.map_some, Option.map_none, Option.bind_some, Option.bind_none, if_true, if_false, ite_true, ite_false, decide_true, decide_false, Bool.not_true, Bool.not_false, Nat.zero_add, Nat.reduceAdd, Nat.reduceSub, reduceIte, reduceCtorEq, Nat.reduceLT, Nat.reduceLeDiff, Int.reduceLT, Int.reduceLE, Int.reduceToNat, Int.reduceNeg, Int.reduceEq, Int.reduceSub, Int.reduceAdd, Int.reduceMul, Int.reducePow, tyOk, beq_self_eq_true, e_freeP1, e_freeP2, freeO_no, freeO_im, e_wipe1, e_wipe2, e_back1, e_back2, backO_s, o_iterL, o_iterF, o_iterT, Bool.and_true, sK_nx, sK_ret, tK_nx, tK_ret, e_tryS, e_raiseS, o_isE, o_isEN, o_notNN, o_notNE, o_isNN, o_isNE, e_prN, e_prC, e_dispE, e_zipA, o_zipSS, o_zipSL, o_zipLL, o_asI, e_callL, ofDL_bl, ofDL_int, ofDL_str, ofDL_non, ofDL_exc, e_killS, kK_nx, kK_ret, kK_exc, e_wipeC, e_wipeN, e_backC, e_backN, e_stp, e_lcs, joinC_t, joinC_f, joinC_ok, e_augI, augO_int, e_getE, e_dixE, asD_k, keyD_s, keyD_i, e_bSkK, e_kiY, e_frzS, kF_nx, e_frzO, fO_ow, e_freeP3, e_strX, e_rng3A, o_iterM, e_lckS, kL_nx, e_lckO, lO_k, lO_t, e_iterK, o_iterKk, o_iterKt, e_getA, e_dixA, isDct_k, isDct_t, isDct_fk, isDct_ft, oGetA_k, oGetA_fk, oGetA_t, oGetA_ft, id_eq, e_iterL, e_lookT, lookR_ok, frzA_c, frzA_n, frz_im', frz_ow', frz_mu', frz_no', one_eq, ix0, ix1, ix2, tx0, tx1, tx2, o_intB, isi_lst, isi_tup, isi_bi, isi_bb, isi_ii, isi_ss, o_listL, o_iterS', o_enumL', o_enumS'] at el
  refine ⟨R, d', ?_, hP.less (by omega), hl, hR⟩
  simp -implicitDefEqProofs only [m__law_row, b__law_row, bM_ok, bM_exc, bR_ok, bR_exc, bS_nx, bS_ret, bS_exc, bO_some, bOM_some, selM_t, selM_f, selS_t, selS_f, rdO_im, rdO_ow, lookO_im, lookO_ow, lookO_mu, moveO_ow, ownO_ow, ownO_mu, putO_ow, putO_mu, ofDR_ret, ofDR_exc, ofDU_ret, ofDU_exc, endF_nx, endF_ret, endF_exc, endU_nx, endU_ret, endU_exc, e_runF, e_runU, e_bind, e_ret, e_lift, e_rd, e_look, e_move, e_ownC, e_putC, e_op2, e_op1, e_tst, e_notM, e_andM, e_orM, e_notE, e_andE, e_orE, e_iteE, e_chn, e_argN, e_argC, e_tupE, e_lstE, e_noP, e_partM, e_sl3, asStr_str, e_strM, e_callF, e_callU, e_useU, e_mutM, e_skip, e_seqS, e_ifS, e_exprS, e_retS, e_setS, e_ownS, e_stIx, e_tgS, e_tgN, e_tgT, e_tgCons, e_tgNil, parK_2, e_parS, e_forS, e_rng1M, e_rng2M, e_iterM, e_enumA, e_zipM, e_lcE, o_subI, o_addI, o_eqI, o_neI, o_eqS, o_neS, o_ltI, o_leI, o_gtI, o_geI, o_maxI, o_minI, o_lenL, o_lenF, o_lenT, o_negI, o_asB, o_isiS, List.map_cons, List.map_nil, List.length_cons, List.length_nil, List.cons_append, List.nil_append, List.append_nil, List.replicate_succ, List.replicate_zero, List.getElem?_cons_succ, List.getElem?_cons_zero, List.set_cons_succ, List.set_cons_zero, Option.map_some, Option.map_none, Option.bind_some, Option.bind_none, if_true, if_false, ite_true, ite_false, decide_true, decide_false, Bool.not_true, Bool.not_false, Nat.zero_add, Nat.reduceAdd, Nat.reduceSub, reduceIte, reduceCtorEq, Nat.reduceLT, Nat.reduceLeDiff, Int.reduceLT, Int.reduceLE, Int.reduceToNat, Int.reduceNeg, Int.reduceEq, Int.reduceSub, Int.reduceAdd, Int.reduceMul, Int.reducePow, tyOk, beq_self_eq_true, e_freeP1, e_freeP2, freeO_no, freeO_im, e_wipe1, e_wipe2, e_back1, e_back2, backO_s, o_iterL, o_iterF, o_iterT, Bool.and_true, sK_nx, sK_ret, tK_nx, tK_ret, e_tryS, e_raiseS, o_isE, o_isEN, o_notNN, o_notNE, o_isNN, o_isNE, e_prN, e_prC, e_dispE, e_zipA, o_zipSS, o_zipSL, o_zipLL, o_asI, e_callL, ofDL_bl, ofDL_int, ofDL_str, ofDL_non, ofDL_exc, e_killS, kK_nx, kK_ret, kK_exc, e_wipeC, e_wipeN, e_backC, e_backN, e_stp, e_lcs, joinC_t, joinC_f, joinC_ok, e_augI, augO_int, e_getE, e_dixE, asD_k, keyD_s, keyD_i, e_bSkK, e_kiY, e_frzS, kF_nx, e_frzO, fO_ow, e_freeP3, e_strX, e_rng3A, o_iterM, e_lckS, kL_nx, e_lckO, lO_k, lO_t, e_iterK, o_iterKk, o_iterKt, e_getA, e_dixA, isDct_k, isDct_t, isDct_fk, isDct_ft, oGetA_k, oGetA_fk, oGetA_t, oGetA_ft, id_eq, e_iterL, e_lookT, lookR_ok, frzA_c, frzA_n, frz_im', frz_ow', frz_mu', frz_no', one_eq, ix0, ix1, ix2, tx0, tx1, tx2, o_intB, isi_lst, isi_tup, isi_bi, isi_bb, isi_ii, isi_ss, o_listL, o_iterS', o_enumL', o_enumS', r1, el]
theorem table_ok {n h w o : Nat} {d : D} {S : List Nat} (hP : Pool (n + h * (2 * w)) d) (h0 : 0 < h) (h1 : h ≤ 100) (w0 : 0 < w) (hw : w ≤ 100) (s0 : 0 < S.length) (s1 : S.length ≤ 100) (ho : o ≤ 100) (hS : ∀ c, c ∈ S → Sg c) :
    ∃ T d', m__law_table [d, .lst (ones S), .int h, .int w, .int o] = .ret (.lst (T.map .str)) d' ∧ Pool n d' ∧ Lit h w T := by
  have r1 := o_range h (by omega)
  obtain ⟨ys, s', e, T, d', rfl, rfl, hl, hT, hP⟩ := lc_relD (vs := [5]) (h := tgN 5) (t := ret true) (el := e__law_table_1) (ds := rangeD 0 h) (acc := []) (τ := [.mu d, .im (.lst (ones S)), .im (.int h), .im (.int w), .im (.int o), .no]) (s := .mu d) 0
    (fun k acc s => ∃ (T : List (List Nat)) (d : D), acc = T.map .str ∧ s = .mu d ∧ T.length = k ∧ (∀ r, r ∈ T → r.length = w ∧ ∀ c, c ∈ r → Sg c) ∧ Pool (n + (h - k) * (2 * w)) d) ⟨[], d, rfl, rfl, rfl, fun _ z => (nomatch z), hP⟩ (by simp [rangeD_len]; omega) fun k x acc s hx hI => by
      obtain ⟨T, d, rfl, rfl, hl, hT, hP⟩ := hI
      have hk : k < h := by
        have := (List.getElem?_eq_some_iff.mp hx).1
        rwa [rangeD_len] at this
      rw [rangeD_get hk] at hx
      cases hx
      have e0 : n + (h - k) * (2 * w) = n + (h - (k + 1)) * (2 * w) + 2 * w := by
        rw [show h - k = (h - (k + 1)) + 1 by omega, Nat.succ_mul, Nat.add_assoc]
      obtain ⟨R, d1, e1, h1, l1, c1⟩ := row_ok (n := n + (h - (k + 1)) * (2 * w)) (w := w) (o := o) (e0 ▸ hP) hw s0 s1 ho hS
      refine ⟨.str R, .mu d1, ?_, T ++ [R], d1, by simp, rfl, by simp [hl], fun r hr => ?_, h1⟩
      · simp -implicitDefEqProofs only [e__law_table_1, bM_ok, bM_exc, bR_ok, bR_exc, bS_nx, bS_ret, bS_exc, bO_some, bOM_some, selM_t, selM_f, selS_t, selS_f, rdO_im, rdO_ow, lookO_im, lookO_ow, lookO_mu, moveO_ow, ownO_ow, ownO_mu, putO_ow, putO_mu, ofDR_ret, ofDR_exc, ofDU_ret, ofDU_exc, endF_nx, endF_ret, endF_exc, endU_nx, endU_ret, endU_exc, e_runF, e_runU, e_bind, e_ret, e_lift, e_rd, e_look, e_move, e_ownC, e_putC, e_op2, e_op1, e_tst, e_notM, e_andM, e_orM, e_notE, e_andE, e_orE, e_iteE, e_chn, e_argN, e_argC, e_tupE, e_lstE, e_noP, e_partM, e_sl3, asStr_str, e_strM, e_callF, e_callU, e_useU, e_mutM, e_skip, e_seqS, e_ifS, e_exprS, e_retS, e_setS, e_ownS, e_stIx, e_tgS, e_tgN, e_tgT, e_tgCons, e_tgNil, parK_2, e_parS, e_forS, e_rng1M, e_rng2M, e_iterM, e_enumA, e_zipM, e_lcE, o_subI, o_addI, o_eqI, o_neI, o_eqS, o_neS, o_ltI, o_leI, o_gtI, o_geI, o_maxI, o_minI, o_lenL, o_lenF, o_lenT, o_negI, o_asB, o_isiS, List.map_cons, List.map_nil, List.length_cons, List.length_nil, List.cons_append, List.nil_append, List.append_nil, List.replicate_succ, List.replicate_zero, List.getElem?_cons_succ, List.getElem?_cons_zero, List.set_cons_succ, List.set_cons_zero, Option.map_some, Option.map_none, Option.bind_some, Option.bind_none, if_true, if_false, ite_true, ite_false, decide_true, decide_false, Bool.not_true, Bool.not_false, Nat.zero_add, Nat.reduceAdd, Nat.reduceSub, reduceIte, reduceCtorEq, Nat.reduceLT, Nat.reduceLeDiff, Int.reduceLT, Int.reduceLE, Int.reduceToNat, Int.reduceNeg, Int.reduceEq, Int.reduceSub, Int.reduceAdd, Int.reduceMul, Int.reducePow, tyOk, beq_self_eq_true, e_freeP1, e_freeP2, freeO_no, freeO_im, e_wipe1, e_wipe2, e_back1, e_back2, backO_s, o_iterL, o_iterF, o_iterT, Bool.and_true, sK_nx, sK_ret, tK_nx, tK_ret, e_tryS, e_raiseS, o_isE, o_isEN, o_notNN, o_notNE, o_isNN, o_isNE, e_prN, e_prC, e_dispE, e_zipA, o_zipSS, o_zipSL, o_zipLL, o_asI, e_callL, ofDL_bl, ofDL_int, ofDL_str, ofDL_non, ofDL_exc, e_killS, kK_nx, kK_ret, kK_exc, e_wipeC, e_wipeN, e_backC, e_backN, e_stp, e_lcs, joinC_t, joinC_f, joinC_ok, e_augI, augO_int, e_getE, e_dixE, asD_k, keyD_s, keyD_i, e_bSkK, e_kiY, e_frzS, kF_nx, e_frzO, fO_ow, e_freeP3, e_strX, e_rng3A, o_iterM, e_lckS, kL_nx, e_lckO, lO_k, lO_t, e_iterK, o_iterKk, o_iterKt, e_getA, e_dixA, isDct_k, isDct_t, isDct_fk, isDct_ft, oGetA_k, oGetA_fk, oGetA_t, oGetA_ft, id_eq, e_iterL, e_lookT, lookR_ok, frzA_c, frzA_n, frz_im', frz_ow', frz_mu', frz_no', one_eq, ix0, ix1, ix2, tx0, tx1, tx2, o_intB, isi_lst, isi_tup, isi_bi, isi_bb, isi_ii, isi_ss, o_listL, o_iterS', o_enumL', o_enumS', e1]
      · rcases List.mem_append.mp hr with q | q
        · exact hT r q
        · rw [List.mem_singleton.mp q]
          exact ⟨l1, c1⟩
  rw [rangeD_len] at hl hP
  simp -implicitDefEqProofs only [bM_ok, bM_exc, bR_ok, bR_exc, bS_nx, bS_ret, bS_exc, bO_some, bOM_some, selM_t, selM_f, selS_t, selS_f, rdO_im, rdO_ow, lookO_im, lookO_ow, lookO_mu, moveO_ow, ownO_ow, ownO_mu, putO_ow, putO_mu, ofDR_ret, ofDR_exc, ofDU_ret, ofDU_exc, endF_nx, endF_ret, endF_exc, endU_nx, endU_ret, endU_exc, e_runF, e_runU, e_bind, e_ret, e_lift, e_rd, e_look, e_move, e_ownC, e_putC, e_op2, e_op1, e_tst, e_notM, e_andM, e_orM, e_notE, e_andE, e_orE, e_iteE, e_chn, e_argN, e_argC, e_tupE, e_lstE, e_noP, e_partM, e_sl3, asStr_str, e_strM, e_callF, e_callU, e_useU, e_mutM, e_skip, e_seqS, e_ifS, e_exprS, e_retS, e_setS, e_ownS, e_stIx, e_tgS, e_tgN, e_tgT, e_tgCons, e_tgNil, parK_2, e_parS, e_forS, e_rng1M, e_rng2M, e_iterM, e_enumA, e_zipM, e_lcE, o_subI, o_addI, o_eqI, o_neI, o_eqS, o_neS, o_ltI, o_leI, o_gtI, o_geI, o_maxI, o_minI, o_lenL, o_lenF, o_lenT, o_negI, o_asB, o_isiS, List.map_cons, List.map_nil, List.length_cons, List.length_nil, List.cons_append, List.nil_append, List.append_nil, List.replicate_succ, List.replicate_zero, List.getElem?_cons_succ, List.getElem?_cons_zero, List.set_cons_succ, List.set_cons_zero, Option.map_some, Option.map_none, Option.bind_some, Option.bind_none, if_true, if_false, ite_true, ite_false, decide_true, decide_false, Bool.not_true, Bool.not_false, Nat.zero_add, Nat.reduceAdd, Nat.reduceSub, reduceIte, reduceCtorEq, Nat.reduceLT, Nat.reduceLeDiff, Int.reduceLT, Int.reduceLE, Int.reduceToNat, Int.reduceNeg, Int.reduceEq, Int.reduceSub, Int.reduceAdd, Int.reduceMul, Int.reducePow, tyOk, beq_self_eq_true, e_freeP1, e_freeP2, freeO_no, freeO_im, e_wipe1, e_wipe2, e_back1, e_back2, backO_s, o_iterL, o_iterF, o_iterT, Bool.and_true, sK_nx, sK_ret, tK_nx, tK_ret, e_tryS, e_raiseS, o_isE, o_isEN, o_notNN, o_notNE, o_isNN, o_isNE, e_prN, e_prC, e_dispE, e_zipA, o_zipSS, o_zipSL, o_zipLL, o_asI, e_callL, ofDL_bl, ofDL_int, ofDL_str, ofDL_non, ofDL_exc, e_killS, kK_nx, kK_ret, kK_exc, e_wipeC, e_wipeN, e_backC, e_backN, e_stp, e_lcs, joinC_t, joinC_f, joinC_ok, e_augI, augO_int, e_getE, e_dixE, asD_k, keyD_s, keyD_i, e_bSkK, e_kiY, e_frzS, kF_nx, e_frzO, fO_ow, e_freeP3, e_strX, e_rng3A, o_iterM, e_lckS, kL_nx, e_lckO, lO_k, lO_t, e_iterK, o_iterKk, o_iterKt, e_getA, e_dixA, isDct_k, isDct_t, isDct_fk, isDct_ft, oGetA_k, oGetA_fk, oGetA_t, oGetA_ft, id_eq, e_iterL, e_lookT, lookR_ok, frzA_c, frzA_n, frz_im', frz_ow', frz_mu', frz_no', one_eq, ix0, ix1, ix2, tx0, tx1, tx2, o_intB, isi_lst, isi_tup, isi_bi, isi_bb, isi_ii, isi_ss, o_listL, o_iterS', o_enumL', o_enumS'] at e
  refine ⟨T, d', ?_, hP.less (by omega), Lit.mk' h0 w0 (by omega) (by omega) hl hT⟩
  simp -implicitDefEqProofs only [m__law_table, b__law_table, bM_ok, bM_exc, bR_ok, bR_exc, bS_nx, bS_ret, bS_exc, bO_some, bOM_some, selM_t, selM_f, selS_t, selS_f, rdO_im, rdO_ow, lookO_im, lookO_ow, lookO_mu, moveO_ow, ownO_ow, ownO_mu, putO_ow, putO_mu, ofDR_ret, ofDR_exc, ofDU_ret, ofDU_exc, endF_nx, endF_ret, endF_exc, endU_nx, endU_ret, endU_exc, e_runF, e_runU, e_bind, e_ret, e_lift, e_rd, e_look, e_move, e_ownC, e_putC, e_op2, e_op1, e_tst, e_notM, e_andM, e_orM, e_notE, e_andE, e_orE, e_iteE, e_chn, e_argN, e_argC, e_tupE, e_lstE, e_noP, e_partM, e_sl3, asStr_str, e_strM, e_callF, e_callU, e_useU, e_mutM, e_skip, e_seqS, e_ifS, e_exprS, e_retS, e_setS, e_ownS, e_stIx, e_tgS, e_tgN, e_tgT, e_tgCons, e_tgNil, parK_2, e_parS, e_forS, e_rng1M, e_rng2M, e_iterM, e_enumA, e_zipM, e_lcE, o_subI, o_addI, o_eqI, o_neI, o_eqS, o_neS, o_ltI, o_leI, o_gtI, o_geI, o_maxI, o_minI, o_lenL, o_lenF, o_lenT, o_negI, o_asB, o_isiS, List.map_cons, List.map_nil, List.length_cons, List.length_nil, List.cons_append, List.nil_append, List.append_nil, List.replicate_succ, List.replicate_zero, List.getElem?_cons_succ, List.getElem?_cons_zero, List.set_cons_succ, List.set_cons_zero, Option.map_some, Option.map_none, Option.bind_some, Option.bind_none, if_true, if_false, ite_true, ite_false, decide_true, decide_false, Bool.not_true, Bool.not_false, Nat.zero_add, Nat.reduceAdd, Nat.reduceSub, reduceIte, reduceCtorEq, Nat.reduceLT, Nat.reduceLeDiff, Int.reduceLT, Int.reduceLE, Int.reduceToNat, Int.reduceNeg, Int.reduceEq, Int.reduceSub, Int.reduceAdd, Int.reduceMul, Int.reducePow, tyOk, beq_self_eq_true, e_freeP1, e_freeP2, freeO_no, freeO_im, e_wipe1, e_wipe2, e_back1, e_back2, backO_s, o_iterL, o_iterF, o_iterT, Bool.and_true, sK_nx, sK_ret, tK_nx, tK_ret, e_tryS, e_raiseS, o_isE, o_isEN, o_notNN, o_notNE, o_isNN, o_isNE, e_prN, e_prC, e_dispE, e_zipA, o_zipSS, o_zipSL, o_zipLL, o_asI, e_callL, ofDL_bl, ofDL_int, ofDL_str, ofDL_non, ofDL_exc, e_killS, kK_nx, kK_ret, kK_exc, e_wipeC, e_wipeN, e_backC, e_backN, e_stp, e_lcs, joinC_t, joinC_f, joinC_ok, e_augI, augO_int, e_getE, e_dixE, asD_k, keyD_s, keyD_i, e_bSkK, e_kiY, e_frzS, kF_nx, e_frzO, fO_ow, e_freeP3, e_strX, e_rng3A, o_iterM, e_lckS, kL_nx, e_lckO, lO_k, lO_t, e_iterK, o_iterKk, o_iterKt, e_getA, e_dixA, isDct_k, isDct_t, isDct_fk, isDct_ft, oGetA_k, oGetA_fk, oGetA_t, oGetA_ft, id_eq, e_iterL, e_lookT, lookR_ok, frzA_c, frzA_n, frz_im', frz_ow', frz_mu', frz_no', one_eq, ix0, ix1, ix2, tx0, tx1, tx2, o_intB, isi_lst, isi_tup, isi_bi, isi_bb, isi_ii, isi_ss, o_listL, o_iterS', o_enumL', o_enumS', r1, e]
end Q

/-! DT: any table of k43. -/
namespace Q
open PL
open PySem (Str)
theorem SG2_all : ((T_ba0001 ++ T_3e6ac1).all fun c => decide (33 ≤ c) && decide (c ≤ 126) && decide (c ≠ 37)) = true := rfl
theorem SG2_len : (T_ba0001 ++ T_3e6ac1).length = 92 := rfl
theorem SG2_sg {c : Nat} (h : c ∈ T_ba0001 ++ T_3e6ac1) : Sg c := by
  have := List.all_eq_true.mp SG2_all c h
  simp only [Bool.and_eq_true, decide_eq_true_eq] at this
  exact ⟨this.1.1, this.1.2, this.2⟩
/-- the last two drawings -/
def sgA (S : List Nat) (u : Int) : List Nat := if u = 1 then T_ba0001 ++ T_3e6ac1 else S
def sgB (S : List Nat) (u : Int) : List Nat := if u = 0 then [47] else S
theorem any_ok {n : Nat} {d : D} (h : Pool (n + 4000) d) : ∃ h w T d', m__law_any_table [d] = .ret (.lst (T.map .str)) d' ∧ Pool n d' ∧ Lit h w T ∧ h ≤ 40 ∧ w ≤ 40 := by
  obtain ⟨v1, d1, e1, a1, b1, h1⟩ := draw_ok (n := n + 3999) (many := 6) h (by decide) (by decide)
  obtain ⟨x, ix, hx⟩ := ints_at (L := [6, 6, 6, 12, 40, 6]) a1 b1
  have ix : oIx (.lst [.int 6, .int 6, .int 6, .int 12, .int 40, .int 6]) (.int v1) = some (.int x) := ix
  have x0 : 0 < x ∧ x ≤ 40 := by
    simp only [List.mem_cons, List.not_mem_nil, or_false] at hx
    omega
  obtain ⟨v2, d2, e2, a2, b2, h2⟩ := draw_ok (n := n + 3998) (many := x) h1 (by omega) (by omega)
  obtain ⟨v3, d3, e3, a3, b3, h3⟩ := draw_ok (n := n + 3997) (many := x) h2 (by omega) (by omega)
  obtain ⟨r, er, r0, r1⟩ : ∃ r : Nat, 1 + v2 = r ∧ 0 < r ∧ r ≤ 40 := ⟨(1 + v2).toNat, by omega, by omega, by omega⟩
  obtain ⟨c, ec, c0, c1⟩ : ∃ r : Nat, 1 + v3 = r ∧ 0 < r ∧ r ≤ 40 := ⟨(1 + v3).toNat, by omega, by omega, by omega⟩
  -- the rest, for whatever rows and columns
  have rest : ∀ (n' : Nat) (d' : D) (r c : Nat) (X : SM), Pool (n' + 3900) d' → 0 < r → r ≤ 40 → 0 < c → c ≤ 40 → n ≤ n' →
      (∃ h w T d2, endU .im ((seqS (setS 4 (useU 0 m__law_some_signs argN)) (seqS (ifS (tst (op2 oEq (useU 0 m__law_draw (argC (ret (.int 8)) argN)) (ret (.int 1)))) (seqS (setS 4 (op1 oListA (ret (.str T_ba0001)))) (setS 4 (op2 oAdd (rd 4) (op1 oListA (ret (.str T_3e6ac1)))))) skip) (seqS (ifS (tst (op2 oEq (useU 0 m__law_draw (argC (ret (.int 5)) argN)) (ret (.int 0)))) (setS 4 (lstE (argC (ret (.str [47])) argN))) skip) (retS (useU 0 m__law_table (argC (rd 4) (argC (rd 2) (argC (rd 3) (argC (op2 oIx (lstE (argC (ret (.int 0)) (argC (ret (.int 0)) (argC (ret (.int 5)) (argC (ret (.int 2)) argN))))) (useU 0 m__law_draw (argC (ret (.int 4)) argN))) argN)))))))))
        [.mu d', .no, .im (.int r), .im (.int c), .no]) = .ret (.lst (T.map .str)) d2 ∧ Pool n d2 ∧ Lit h w T ∧ h ≤ 40 ∧ w ≤ 40) := fun n' d' r c X hP r0 r1 c0 c1 hn => by
    obtain ⟨S, d4, e4, h4, sl0, sl1, hS⟩ := signs_ok (n := n' + 3880) hP
    obtain ⟨u5, d5, e5, a5, b5, h5⟩ := draw_ok (n := n' + 3879) (many := 8) h4 (by decide) (by decide)
    obtain ⟨u6, d6, e6, a6, b6, h6⟩ := draw_ok (n := n' + 3878) (many := 5) h5 (by decide) (by decide)
    obtain ⟨u7, d7, e7, a7, b7, h7⟩ := draw_ok (n := n' + 3877) (many := 4) h6 (by decide) (by decide)
    obtain ⟨o, io, ho⟩ := ints_at (L := [0, 0, 5, 2]) a7 b7
    have io : oIx (.lst [.int 0, .int 0, .int 5, .int 2]) (.int u7) = some (.int o) := io
    obtain ⟨o, rfl, o1⟩ : ∃ m : Nat, o = m ∧ m ≤ 5 := by
      simp only [List.mem_cons, List.not_mem_nil, or_false] at ho
      exact ⟨o.toNat, by omega, by omega⟩
    have L1 : oListA (.str T_ba0001) = some (.lst (ones T_ba0001)) := rfl
    have L2 : oListA (.str T_3e6ac1) = some (.lst (ones T_3e6ac1)) := rfl
    have A : oAdd (.lst (ones T_ba0001)) (.lst (ones T_3e6ac1)) = some (.lst (ones (T_ba0001 ++ T_3e6ac1))) := by
      rw [o_addL (by decide)]
      unfold ones
      rw [List.map_append]
    have HS : ∀ c, c ∈ sgB (sgA S u5) u6 → Sg c := fun c hc => by
      unfold sgB at hc
      split at hc
      · rw [List.mem_singleton.mp hc]
        exact ⟨by decide, by decide, by decide⟩
      · unfold sgA at hc
        split at hc
        · exact SG2_sg hc
        · exact hS c hc
    have LS : 0 < (sgB (sgA S u5) u6).length ∧ (sgB (sgA S u5) u6).length ≤ 100 := by
      unfold sgB
      split
      · exact ⟨by decide, by decide⟩
      · unfold sgA
        split
        · rw [SG2_len]
          exact ⟨by decide, by decide⟩
        · omega
    have hmul : r * (2 * c) ≤ 40 * 80 := Nat.mul_le_mul r1 (by omega)
    obtain ⟨T, d8, e8, h8, hT⟩ := table_ok (n := n) (h := r) (w := c) (o := o) (h7.less (by omega)) r0 (by omega) c0 (by omega) LS.1 LS.2 (by omega) HS
    refine ⟨r, c, T, d8, ?_, h8, hT, r1, c1⟩
    revert e8
    unfold sgB sgA
    generalize T_ba0001 ++ T_3e6ac1 = G at *
    generalize T_ba0001 = G1 at *
    generalize T_3e6ac1 = G2 at *
    intro e8
    by_cases q5 : u5 = 1
    · by_cases q6 : u6 = 0
      · simp only [if_pos q5, if_pos q6] at e8
        have e8' : m__law_table [d7, D.lst [D.str [47]], D.int r, D.int c, D.int o] = _ := e8
        simp -implicitDefEqProofs only [bM_ok, bM_exc, bR_ok, bR_exc, bS_nx, bS_ret, bS_exc, bO_some, bOM_some, selM_t, selM_f, selS_t, selS_f, rdO_im, rdO_ow, lookO_im, lookO_ow, lookO_mu, moveO_ow, ownO_ow, ownO_mu, putO_ow, putO_mu, ofDR_ret, ofDR_exc, ofDU_ret, ofDU_exc, endF_nx, endF_ret, endF_exc, endU_nx, endU_ret, endU_exc, e_runF, e_runU, e_bind, e_ret, e_lift, e_rd, e_look, e_move, e_ownC, e_putC, e_op2, e_op1, e_tst, e_notM, e_andM, e_orM, e_notE, e_andE, e_orE, e_iteE, e_chn, e_argN, e_argC, e_tupE, e_lstE, e_noP, e_partM, e_sl3, asStr_str, e_strM, e_callF, e_callU, e_useU, e_mutM, e_skip, e_seqS, e_ifS, e_exprS, e_retS, e_setS, e_ownS, e_stIx, e_tgS, e_tgN, e_tgT, e_tgCons, e_tgNil, parK_2, e_parS, e_forS, e_rng1M, e_rng2M, e_iterM, e_enumA, e_zipM, e_lcE, o_subI, o_addI, o_eqI, o_neI, o_eqS, o_neS, o_ltI, o_leI, o_gtI, o_geI, o_maxI, o_minI, o_lenL, o_lenF, o_lenT, o_negI, o_asB, o_isiS, List.map_cons, List.map_nil, List.length_cons, List.length_nil, List.cons_append, List.nil_append, List.append_nil, List.replicate_succ, List.replicate_zero, List.getElem?_cons_succ, List.getElem?_cons_zero, List.set_cons_succ, List.set_cons_zero, Option.map_some, Option.map_none, Option.bind_some, Option.bind_none, if_true, if_false, ite_true, ite_false, decide_true, decide_false, Bool.not_true, Bool.not_false, Nat.zero_add, Nat.reduceAdd, Nat.reduceSub, reduceIte, reduceCtorEq, Nat.reduceLT, Nat.reduceLeDiff, Int.reduceLT, Int.reduceLE, Int.reduceToNat, Int.reduceNeg, Int.reduceEq, Int.reduceSub, Int.reduceAdd, Int.reduceMul, Int.reducePow, tyOk, beq_self_eq_true, e_freeP1, e_freeP2, freeO_no, freeO_im, e_wipe1, e_wipe2, e_back1, e_back2, backO_s, o_iterL, o_iterF, o_iterT, Bool.and_true, sK_nx, sK_ret, tK_nx, tK_ret, e_tryS, e_raiseS, o_isE, o_isEN, o_notNN, o_notNE, o_isNN, o_isNE, e_prN, e_prC, e_dispE, e_zipA, o_zipSS, o_zipSL, o_zipLL, o_asI, e_callL, ofDL_bl, ofDL_int, ofDL_str, ofDL_non, ofDL_exc, e_killS, kK_nx, kK_ret, kK_exc, e_wipeC, e_wipeN, e_backC, e_backN, e_stp, e_lcs, joinC_t, joinC_f, joinC_ok, e_augI, augO_int, e_getE, e_dixE, asD_k, keyD_s, keyD_i, e_bSkK, e_kiY, e_frzS, kF_nx, e_frzO, fO_ow, e_freeP3, e_strX, e_rng3A, o_iterM, e_lckS, kL_nx, e_lckO, lO_k, lO_t, e_iterK, o_iterKk, o_iterKt, e_getA, e_dixA, isDct_k, isDct_t, isDct_fk, isDct_ft, oGetA_k, oGetA_fk, oGetA_t, oGetA_ft, id_eq, e_iterL, e_lookT, lookR_ok, frzA_c, frzA_n, frz_im', frz_ow', frz_mu', frz_no', one_eq, ix0, ix1, ix2, tx0, tx1, tx2, o_intB, isi_lst, isi_tup, isi_bi, isi_bb, isi_ii, isi_ss, o_listL, o_iterS', o_enumL', o_enumS', e4, e5, q5, L1, L2, A, e6, q6, e7, io, e8']
      · simp only [if_pos q5, if_neg q6] at e8
        simp -implicitDefEqProofs only [bM_ok, bM_exc, bR_ok, bR_exc, bS_nx, bS_ret, bS_exc, bO_some, bOM_some, selM_t, selM_f, selS_t, selS_f, rdO_im, rdO_ow, lookO_im, lookO_ow, lookO_mu, moveO_ow, ownO_ow, ownO_mu, putO_ow, putO_mu, ofDR_ret, ofDR_exc, ofDU_ret, ofDU_exc, endF_nx, endF_ret, endF_exc, endU_nx, endU_ret, endU_exc, e_runF, e_runU, e_bind, e_ret, e_lift, e_rd, e_look, e_move, e_ownC, e_putC, e_op2, e_op1, e_tst, e_notM, e_andM, e_orM, e_notE, e_andE, e_orE, e_iteE, e_chn, e_argN, e_argC, e_tupE, e_lstE, e_noP, e_partM, e_sl3, asStr_str, e_strM, e_callF, e_callU, e_useU, e_mutM, e_skip, e_seqS, e_ifS, e_exprS, e_retS, e_setS, e_ownS, e_stIx, e_tgS, e_tgN, e_tgT, e_tgCons, e_tgNil, parK_2, e_parS, e_forS, e_rng1M, e_rng2M, e_iterM, e_enumA, e_zipM, e_lcE, o_subI, o_addI, o_eqI, o_neI, o_eqS, o_neS, o_ltI, o_leI, o_gtI, o_geI, o_maxI, o_minI, o_lenL, o_lenF, o_lenT, o_negI, o_asB, o_isiS, List.map_cons, List.map_nil, List.length_cons, List.length_nil, List.cons_append, List.nil_append, List.append_nil, List.replicate_succ, List.replicate_zero, List.getElem?_cons_succ, List.getElem?_cons_zero, List.set_cons_succ, List.set_cons_zero, Option.map_some, Option.map_none, Option.bind_some, Option.bind_none, if_true, if_false, ite_true, ite_false, decide_true, decide_false, Bool.not_true, Bool.not_false, Nat.zero_add, Nat.reduceAdd, Nat.reduceSub, reduceIte, reduceCtorEq, Nat.reduceLT, Nat.reduceLeDiff, Int.reduceLT, Int.reduceLE, Int.reduceToNat, Int.reduceNeg, Int.reduceEq, Int.reduceSub, Int.reduceAdd, Int.reduceMul, Int.reducePow, tyOk, beq_self_eq_true, e_freeP1, e_freeP2, freeO_no, freeO_im, e_wipe1, e_wipe2, e_back1, e_back2, backO_s, o_iterL, o_iterF, o_iterT, Bool.and_true, sK_nx, sK_ret, tK_nx, tK_ret, e_tryS, e_raiseS, o_isE, o_isEN, o_notNN, o_notNE, o_isNN, o_isNE, e_prN, e_prC, e_dispE, e_zipA, o_zipSS, o_zipSL, o_zipLL, o_asI, e_callL, ofDL_bl, ofDL_int, ofDL_str, ofDL_non, ofDL_exc, e_killS, kK_nx, kK_ret, kK_exc, e_wipeC, e_wipeN, e_backC, e_backN, e_stp, e_lcs, joinC_t, joinC_f, joinC_ok, e_augI, augO_int, e_getE, e_dixE, asD_k, keyD_s, keyD_i, e_bSkK, e_kiY, e_frzS, kF_nx, e_frzO, fO_ow, e_freeP3, e_strX, e_rng3A, o_iterM, e_lckS, kL_nx, e_lckO, lO_k, lO_t, e_iterK, o_iterKk, o_iterKt, e_getA, e_dixA, isDct_k, isDct_t, isDct_fk, isDct_ft, oGetA_k, oGetA_fk, oGetA_t, oGetA_ft, id_eq, e_iterL, e_lookT, lookR_ok, frzA_c, frzA_n, frz_im', frz_ow', frz_mu', frz_no', one_eq, ix0, ix1, ix2, tx0, tx1, tx2, o_intB, isi_lst, isi_tup, isi_bi, isi_bb, isi_ii, isi_ss, o_listL, o_iterS', o_enumL', o_enumS', e4, e5, q5, L1, L2, A, e6, q6, e7, io, e8]
    · by_cases q6 : u6 = 0
      · simp only [if_neg q5, if_pos q6] at e8
        have e8' : m__law_table [d7, D.lst [D.str [47]], D.int r, D.int c, D.int o] = _ := e8
        simp -implicitDefEqProofs only [bM_ok, bM_exc, bR_ok, bR_exc, bS_nx, bS_ret, bS_exc, bO_some, bOM_some, selM_t, selM_f, selS_t, selS_f, rdO_im, rdO_ow, lookO_im, lookO_ow, lookO_mu, moveO_ow, ownO_ow, ownO_mu, putO_ow, putO_mu, ofDR_ret, ofDR_exc, ofDU_ret, ofDU_exc, endF_nx, endF_ret, endF_exc, endU_nx, endU_ret, endU_exc, e_runF, e_runU, e_bind, e_ret, e_lift, e_rd, e_look, e_move, e_ownC, e_putC, e_op2, e_op1, e_tst, e_notM, e_andM, e_orM, e_notE, e_andE, e_orE, e_iteE, e_chn, e_argN, e_argC, e_tupE, e_lstE, e_noP, e_partM, e_sl3, asStr_str, e_strM, e_callF, e_callU, e_useU, e_mutM, e_skip, e_seqS, e_ifS, e_exprS, e_retS, e_setS, e_ownS, e_stIx, e_tgS, e_tgN, e_tgT, e_tgCons, e_tgNil, parK_2, e_parS, e_forS, e_rng1M, e_rng2M, e_iterM, e_enumA, e_zipM, e_lcE, o_subI, o_addI, o_eqI, o_neI, o_eqS, o_neS, o_ltI, o_leI, o_gtI, o_geI, o_maxI, o_minI, o_lenL, o_lenF, o_lenT, o_negI, o_asB, o_isiS, List.map_cons, List.map_nil, List.length_cons, List.length_nil, List.cons_append, List.nil_append, List.append_nil, List.replicate_succ, List.replicate_zero, List.getElem?_cons_succ, List.getElem?_cons_zero, List.set_cons_succ, List.set_cons_zero, Option.map_some, Option.map_none, Option.bind_some, Option.bind_none, if_true, if_false, ite_true, ite_false, decide_true, decide_false, Bool.not_true, Bool.not_false, Nat.zero_add, Nat.reduceAdd, Nat.reduceSub, reduceIte, reduceCtorEq, Nat.reduceLT, Nat.reduceLeDiff, Int.reduceLT, Int.reduceLE, Int.reduceToNat, Int.reduceNeg, Int.reduceEq, Int.reduceSub, Int.reduceAdd, Int.reduceMul, Int.reducePow, tyOk, beq_self_eq_true, e_freeP1, e_freeP2, freeO_no, freeO_im, e_wipe1, e_wipe2, e_back1, e_back2, backO_s, o_iterL, o_iterF, o_iterT, Bool.and_true, sK_nx, sK_ret, tK_nx, tK_ret, e_tryS, e_raiseS, o_isE, o_isEN, o_notNN, o_notNE, o_isNN, o_isNE, e_prN, e_prC, e_dispE, e_zipA, o_zipSS, o_zipSL, o_zipLL, o_asI, e_callL, ofDL_bl, ofDL_int, ofDL_str, ofDL_non, ofDL_exc, e_killS, kK_nx, kK_ret, kK_exc, e_wipeC, e_wipeN, e_backC, e_backN, e_stp, e_lcs, joinC_t, joinC_f, joinC_ok, e_augI, augO_int, e_getE, e_dixE, asD_k, keyD_s, keyD_i, e_bSkK, e_kiY, e_frzS, kF_nx, e_frzO, fO_ow, e_freeP3, e_strX, e_rng3A, o_iterM, e_lckS, kL_nx, e_lckO, lO_k, lO_t, e_iterK, o_iterKk, o_iterKt, e_getA, e_dixA, isDct_k, isDct_t, isDct_fk, isDct_ft, oGetA_k, oGetA_fk, oGetA_t, oGetA_ft, id_eq, e_iterL, e_lookT, lookR_ok, frzA_c, frzA_n, frz_im', frz_ow', frz_mu', frz_no', one_eq, ix0, ix1, ix2, tx0, tx1, tx2, o_intB, isi_lst, isi_tup, isi_bi, isi_bb, isi_ii, isi_ss, o_listL, o_iterS', o_enumL', o_enumS', e4, e5, q5, L1, L2, A, e6, q6, e7, io, e8']
      · simp only [if_neg q5, if_neg q6] at e8
        simp -implicitDefEqProofs only [bM_ok, bM_exc, bR_ok, bR_exc, bS_nx, bS_ret, bS_exc, bO_some, bOM_some, selM_t, selM_f, selS_t, selS_f, rdO_im, rdO_ow, lookO_im, lookO_ow, lookO_mu, moveO_ow, ownO_ow, ownO_mu, putO_ow, putO_mu, ofDR_ret, ofDR_exc, ofDU_ret, ofDU_exc, endF_nx, endF_ret, endF_exc, endU_nx, endU_ret, endU_exc, e_runF, e_runU, e_bind, e_ret, e_lift, e_rd, e_look, e_move, e_ownC, e_putC, e_op2, e_op1, e_tst, e_notM, e_andM, e_orM, e_notE, e_andE, e_orE, e_iteE, e_chn, e_argN, e_argC, e_tupE, e_lstE, e_noP, e_partM, e_sl3, asStr_str, e_strM, e_callF, e_callU, e_useU, e_mutM, e_skip, e_seqS, e_ifS, e_exprS, e_retS, e_setS, e_ownS, e_stIx, e_tgS, e_tgN, e_tgT, e_tgCons, e_tgNil, parK_2, e_parS, e_forS, e_rng1M, e_rng2M, e_iterM, e_enumA, e_zipM, e_lcE, o_subI, o_addI, o_eqI, o_neI, o_eqS, o_neS, o_ltI, o_leI, o_gtI, o_geI, o_maxI, o_minI, o_lenL, o_lenF, o_lenT, o_negI, o_asB, o_isiS, List.map_cons, List.map_nil, List.length_cons, List.length_nil, List.cons_append, List.nil_append, List.append_nil, List.replicate_succ, List.replicate_zero, List.getElem?_cons_succ, List.getElem?_cons_zero, List.set_cons_succ, List.set_cons_zero, Option.map_some, Option.map_none, Option.bind_some, Option.bind_none, if_true, if_false, ite_true, ite_false, decide_true, decide_false, Bool.not_true, Bool.not_false, Nat.zero_add, Nat.reduceAdd, Nat.reduceSub, reduceIte, reduceCtorEq, Nat.reduceLT, Nat.reduceLeDiff, Int.reduceLT, Int.reduceLE, Int.reduceToNat, Int.reduceNeg, Int.reduceEq, Int.reduceSub, Int.reduceAdd, Int.reduceMul, Int.reducePow, tyOk, beq_self_eq_true, e_freeP1, e_freeP2, freeO_no, freeO_im, e_wipe1, e_wipe2, e_back1, e_back2, backO_s, o_iterL, o_iterF, o_iterT, Bool.and_true, sK_nx, sK_ret, tK_nx, tK_ret, e_tryS, e_raiseS, o_isE, o_isEN, o_notNN, o_notNE, o_isNN, o_isNE, e_prN, e_prC, e_dispE, e_zipA, o_zipSS, o_zipSL, o_zipLL, o_asI, e_callL, ofDL_bl, ofDL_int, ofDL_str, ofDL_non, ofDL_exc, e_killS, kK_nx, kK_ret, kK_exc, e_wipeC, e_wipeN, e_backC, e_backN, e_stp, e_lcs, joinC_t, joinC_f, joinC_ok, e_augI, augO_int, e_getE, e_dixE, asD_k, keyD_s, keyD_i, e_bSkK, e_kiY, e_frzS, kF_nx, e_frzO, fO_ow, e_freeP3, e_strX, e_rng3A, o_iterM, e_lckS, kL_nx, e_lckO, lO_k, lO_t, e_iterK, o_iterKk, o_iterKt, e_getA, e_dixA, isDct_k, isDct_t, isDct_fk, isDct_ft, oGetA_k, oGetA_fk, oGetA_t, oGetA_ft, id_eq, e_iterL, e_lookT, lookR_ok, frzA_c, frzA_n, frz_im', frz_ow', frz_mu', frz_no', one_eq, ix0, ix1, ix2, tx0, tx1, tx2, o_intB, isi_lst, isi_tup, isi_bi, isi_bb, isi_ii, isi_ss, o_listL, o_iterS', o_enumL', o_enumS', e4, e5, q5, L1, L2, A, e6, q6, e7, io, e8]
  by_cases qx : x = 40
  · subst qx
    obtain ⟨u, dA, eA, aA, bA, hA⟩ := draw_ok (n := n + 3996) (many := 2) h3 (by decide) (by decide)
    by_cases qu : u = 0
    · obtain ⟨h, w, T, dE, eE, r⟩ := rest (n + 96) dA 40 40 skip hA (by decide) (by decide) (by decide) (by decide) (by omega)
      refine ⟨h, w, T, dE, ?_, r⟩
      simp -implicitDefEqProofs only [bM_ok, bM_exc, bR_ok, bR_exc, bS_nx, bS_ret, bS_exc, bO_some, bOM_some, selM_t, selM_f, selS_t, selS_f, rdO_im, rdO_ow, lookO_im, lookO_ow, lookO_mu, moveO_ow, ownO_ow, ownO_mu, putO_ow, putO_mu, ofDR_ret, ofDR_exc, ofDU_ret, ofDU_exc, endF_nx, endF_ret, endF_exc, endU_nx, endU_ret, endU_exc, e_runF, e_runU, e_bind, e_ret, e_lift, e_rd, e_look, e_move, e_ownC, e_putC, e_op2, e_op1, e_tst, e_notM, e_andM, e_orM, e_notE, e_andE, e_orE, e_iteE, e_chn, e_argN, e_argC, e_tupE, e_lstE, e_noP, e_partM, e_sl3, asStr_str, e_strM, e_callF, e_callU, e_useU, e_mutM, e_skip, e_seqS, e_ifS, e_exprS, e_retS, e_setS, e_ownS, e_stIx, e_tgS, e_tgN, e_tgT, e_tgCons, e_tgNil, parK_2, e_parS, e_forS, e_rng1M, e_rng2M, e_iterM, e_enumA, e_zipM, e_lcE, o_subI, o_addI, o_eqI, o_neI, o_eqS, o_neS, o_ltI, o_leI, o_gtI, o_geI, o_maxI, o_minI, o_lenL, o_lenF, o_lenT, o_negI, o_asB, o_isiS, List.map_cons, List.map_nil, List.length_cons, List.length_nil, List.cons_append, List.nil_append, List.append_nil, List.replicate_succ, List.replicate_zero, List.getElem?_cons_succ, List.getElem?_cons_zero, List.set_cons_succ, List.set_cons_zero, Option.map_some, Option.map_none, Option.bind_some, Option.bind_none, if_true, if_false, ite_true, ite_false, decide_true, decide_false, Bool.not_true, Bool.not_false, Nat.zero_add, Nat.reduceAdd, Nat.reduceSub, reduceIte, reduceCtorEq, Nat.reduceLT, Nat.reduceLeDiff, Int.reduceLT, Int.reduceLE, Int.reduceToNat, Int.reduceNeg, Int.reduceEq, Int.reduceSub, Int.reduceAdd, Int.reduceMul, Int.reducePow, tyOk, beq_self_eq_true, e_freeP1, e_freeP2, freeO_no, freeO_im, e_wipe1, e_wipe2, e_back1, e_back2, backO_s, o_iterL, o_iterF, o_iterT, Bool.and_true, sK_nx, sK_ret, tK_nx, tK_ret, e_tryS, e_raiseS, o_isE, o_isEN, o_notNN, o_notNE, o_isNN, o_isNE, e_prN, e_prC, e_dispE, e_zipA, o_zipSS, o_zipSL, o_zipLL, o_asI, e_callL, ofDL_bl, ofDL_int, ofDL_str, ofDL_non, ofDL_exc, e_killS, kK_nx, kK_ret, kK_exc, e_wipeC, e_wipeN, e_backC, e_backN, e_stp, e_lcs, joinC_t, joinC_f, joinC_ok, e_augI, augO_int, e_getE, e_dixE, asD_k, keyD_s, keyD_i, e_bSkK, e_kiY, e_frzS, kF_nx, e_frzO, fO_ow, e_freeP3, e_strX, e_rng3A, o_iterM, e_lckS, kL_nx, e_lckO, lO_k, lO_t, e_iterK, o_iterKk, o_iterKt, e_getA, e_dixA, isDct_k, isDct_t, isDct_fk, isDct_ft, oGetA_k, oGetA_fk, oGetA_t, oGetA_ft, id_eq, e_iterL, e_lookT, lookR_ok, frzA_c, frzA_n, frz_im', frz_ow', frz_mu', frz_no', one_eq, ix0, ix1, ix2, tx0, tx1, tx2, o_intB, isi_lst, isi_tup, isi_bi, isi_bb, isi_ii, isi_ss, o_listL, o_iterS', o_enumL', o_enumS'] at eE
      simp -implicitDefEqProofs only [m__law_any_table, b__law_any_table, bM_ok, bM_exc, bR_ok, bR_exc, bS_nx, bS_ret, bS_exc, bO_some, bOM_some, selM_t, selM_f, selS_t, selS_f, rdO_im, rdO_ow, lookO_im, lookO_ow, lookO_mu, moveO_ow, ownO_ow, ownO_mu, putO_ow, putO_mu, ofDR_ret, ofDR_exc, ofDU_ret, ofDU_exc, endF_nx, endF_ret, endF_exc, endU_nx, endU_ret, endU_exc, e_runF, e_runU, e_bind, e_ret, e_lift, e_rd, e_look, e_move, e_ownC, e_putC, e_op2, e_op1, e_tst, e_notM, e_andM, e_orM, e_notE, e_andE, e_orE, e_iteE, e_chn, e_argN, e_argC, e_tupE, e_lstE, e_noP, e_partM, e_sl3, asStr_str, e_strM, e_callF, e_callU, e_useU, e_mutM, e_skip, e_seqS, e_ifS, e_exprS, e_retS, e_setS, e_ownS, e_stIx, e_tgS, e_tgN, e_tgT, e_tgCons, e_tgNil, parK_2, e_parS, e_forS, e_rng1M, e_rng2M, e_iterM, e_enumA, e_zipM, e_lcE, o_subI, o_addI, o_eqI, o_neI, o_eqS, o_neS, o_ltI, o_leI, o_gtI, o_geI, o_maxI, o_minI, o_lenL, o_lenF, o_lenT, o_negI, o_asB, o_isiS, List.map_cons, List.map_nil, List.length_cons, List.length_nil, List.cons_append, List.nil_append, List.append_nil, List.replicate_succ, List.replicate_zero, List.getElem?_cons_succ, List.getElem?_cons_zero, List.set_cons_succ, List.set_cons_zero, Option.map_some, Option.map_none, Option.bind_some, Option.bind_none, if_true, if_false, ite_true, ite_false, decide_true, decide_false, Bool.not_true, Bool.not_false, Nat.zero_add, Nat.reduceAdd, Nat.reduceSub, reduceIte, reduceCtorEq, Nat.reduceLT, Nat.reduceLeDiff, Int.reduceLT, Int.reduceLE, Int.reduceToNat, Int.reduceNeg, Int.reduceEq, Int.reduceSub, Int.reduceAdd, Int.reduceMul, Int.reducePow, tyOk, beq_self_eq_true, e_freeP1, e_freeP2, freeO_no, freeO_im, e_wipe1, e_wipe2, e_back1, e_back2, backO_s, o_iterL, o_iterF, o_iterT, Bool.and_true, sK_nx, sK_ret, tK_nx, tK_ret, e_tryS, e_raiseS, o_isE, o_isEN, o_notNN, o_notNE, o_isNN, o_isNE, e_prN, e_prC, e_dispE, e_zipA, o_zipSS, o_zipSL, o_zipLL, o_asI, e_callL, ofDL_bl, ofDL_int, ofDL_str, ofDL_non, ofDL_exc, e_killS, kK_nx, kK_ret, kK_exc, e_wipeC, e_wipeN, e_backC, e_backN, e_stp, e_lcs, joinC_t, joinC_f, joinC_ok, e_augI, augO_int, e_getE, e_dixE, asD_k, keyD_s, keyD_i, e_bSkK, e_kiY, e_frzS, kF_nx, e_frzO, fO_ow, e_freeP3, e_strX, e_rng3A, o_iterM, e_lckS, kL_nx, e_lckO, lO_k, lO_t, e_iterK, o_iterKk, o_iterKt, e_getA, e_dixA, isDct_k, isDct_t, isDct_fk, isDct_ft, oGetA_k, oGetA_fk, oGetA_t, oGetA_ft, id_eq, e_iterL, e_lookT, lookR_ok, frzA_c, frzA_n, frz_im', frz_ow', frz_mu', frz_no', one_eq, ix0, ix1, ix2, tx0, tx1, tx2, o_intB, isi_lst, isi_tup, isi_bi, isi_bb, isi_ii, isi_ss, o_listL, o_iterS', o_enumL', o_enumS', e1, ix, e2, er, e3, ec, eA, qu]
      exact eE
    · obtain ⟨h, w, T, dE, eE, r⟩ := rest (n + 96) dA r c skip hA r0 r1 c0 c1 (by omega)
      refine ⟨h, w, T, dE, ?_, r⟩
      simp -implicitDefEqProofs only [bM_ok, bM_exc, bR_ok, bR_exc, bS_nx, bS_ret, bS_exc, bO_some, bOM_some, selM_t, selM_f, selS_t, selS_f, rdO_im, rdO_ow, lookO_im, lookO_ow, lookO_mu, moveO_ow, ownO_ow, ownO_mu, putO_ow, putO_mu, ofDR_ret, ofDR_exc, ofDU_ret, ofDU_exc, endF_nx, endF_ret, endF_exc, endU_nx, endU_ret, endU_exc, e_runF, e_runU, e_bind, e_ret, e_lift, e_rd, e_look, e_move, e_ownC, e_putC, e_op2, e_op1, e_tst, e_notM, e_andM, e_orM, e_notE, e_andE, e_orE, e_iteE, e_chn, e_argN, e_argC, e_tupE, e_lstE, e_noP, e_partM, e_sl3, asStr_str, e_strM, e_callF, e_callU, e_useU, e_mutM, e_skip, e_seqS, e_ifS, e_exprS, e_retS, e_setS, e_ownS, e_stIx, e_tgS, e_tgN, e_tgT, e_tgCons, e_tgNil, parK_2, e_parS, e_forS, e_rng1M, e_rng2M, e_iterM, e_enumA, e_zipM, e_lcE, o_subI, o_addI, o_eqI, o_neI, o_eqS, o_neS, o_ltI, o_leI, o_gtI, o_geI, o_maxI, o_minI, o_lenL, o_lenF, o_lenT, o_negI, o_asB, o_isiS, List.map_cons, List.map_nil, List.length_cons, List.length_nil, List.cons_append, List.nil_append, List.append_nil, List.replicate_succ, List.replicate_zero, List.getElem?_cons_succ, List.getElem?_cons_zero, List.set_cons_succ, List.set_cons_zero, Option.map_some, Option.map_none, Option.bind_some, Option.bind_none, if_true, if_false, ite_true, ite_false, decide_true, decide_false, Bool.not_true, Bool.not_false, Nat.zero_add, Nat.reduceAdd, Nat.reduceSub, reduceIte, reduceCtorEq, Nat.reduceLT, Nat.reduceLeDiff, Int.reduceLT, Int.reduceLE, Int.reduceToNat, Int.reduceNeg, Int.reduceEq, Int.reduceSub, Int.reduceAdd, Int.reduceMul, Int.reducePow, tyOk, beq_self_eq_true, e_freeP1, e_freeP2, freeO_no, freeO_im, e_wipe1, e_wipe2, e_back1, e_back2, backO_s, o_iterL, o_iterF, o_iterT, Bool.and_true, sK_nx, sK_ret, tK_nx, tK_ret, e_tryS, e_raiseS, o_isE, o_isEN, o_notNN, o_notNE, o_isNN, o_isNE, e_prN, e_prC, e_dispE, e_zipA, o_zipSS, o_zipSL, o_zipLL, o_asI, e_callL, ofDL_bl, ofDL_int, ofDL_str, ofDL_non, ofDL_exc, e_killS, kK_nx, kK_ret, kK_exc, e_wipeC, e_wipeN, e_backC, e_backN, e_stp, e_lcs, joinC_t, joinC_f, joinC_ok, e_augI, augO_int, e_getE, e_dixE, asD_k, keyD_s, keyD_i, e_bSkK, e_kiY, e_frzS, kF_nx, e_frzO, fO_ow, e_freeP3, e_strX, e_rng3A, o_iterM, e_lckS, kL_nx, e_lckO, lO_k, lO_t, e_iterK, o_iterKk, o_iterKt, e_getA, e_dixA, isDct_k, isDct_t, isDct_fk, isDct_ft, oGetA_k, oGetA_fk, oGetA_t, oGetA_ft, id_eq, e_iterL, e_lookT, lookR_ok, frzA_c, frzA_n, frz_im', frz_ow', frz_mu', frz_no', one_eq, ix0, ix1, ix2, tx0, tx1, tx2, o_intB, isi_lst, isi_tup, isi_bi, isi_bb, isi_ii, isi_ss, o_listL, o_iterS', o_enumL', o_enumS'] at eE
      simp -implicitDefEqProofs only [m__law_any_table, b__law_any_table, bM_ok, bM_exc, bR_ok, bR_exc, bS_nx, bS_ret, bS_exc, bO_some, bOM_some, selM_t, selM_f, selS_t, selS_f, rdO_im, rdO_ow, lookO_im, lookO_ow, lookO_mu, moveO_ow, ownO_ow, ownO_mu, putO_ow, putO_mu, ofDR_ret, ofDR_exc, ofDU_ret, ofDU_exc, endF_nx, endF_ret, endF_exc, endU_nx, endU_ret, endU_exc, e_runF, e_runU, e_bind, e_ret, e_lift, e_rd, e_look, e_move, e_ownC, e_putC, e_op2, e_op1, e_tst, e_notM, e_andM, e_orM, e_notE, e_andE, e_orE, e_iteE, e_chn, e_argN, e_argC, e_tupE, e_lstE, e_noP, e_partM, e_sl3, asStr_str, e_strM, e_callF, e_callU, e_useU, e_mutM, e_skip, e_seqS, e_ifS, e_exprS, e_retS, e_setS, e_ownS, e_stIx, e_tgS, e_tgN, e_tgT, e_tgCons, e_tgNil, parK_2, e_parS, e_forS, e_rng1M, e_rng2M, e_iterM, e_enumA, e_zipM, e_lcE, o_subI, o_addI, o_eqI, o_neI, o_eqS, o_neS, o_ltI, o_leI, o_gtI, o_geI, o_maxI, o_minI, o_lenL, o_lenF, o_lenT, o_negI, o_asB, o_isiS, List.map_cons, List.map_nil, List.length_cons, List.length_nil, List.cons_append, List.nil_append, List.append_nil, List.replicate_succ, List.replicate_zero, List.getElem?_cons_succ, List.getElem?_cons_zero, List.set_cons_succ, List.set_cons_zero, Option.map_some, Option.map_none, Option.bind_some, Option.bind_none, if_true, if_false, ite_true, ite_false, decide_true, decide_false, Bool.not_true, Bool.not_false, Nat.zero_add, Nat.reduceAdd, Nat.reduceSub, reduceIte, reduceCtorEq, Nat.reduceLT, Nat.reduceLeDiff, Int.reduceLT, Int.reduceLE, Int.reduceToNat, Int.reduceNeg, Int.reduceEq, Int.reduceSub, Int.reduceAdd, Int.reduceMul, Int.reducePow, tyOk, beq_self_eq_true, e_freeP1, e_freeP2, freeO_no, freeO_im, e_wipe1, e_wipe2, e_back1, e_back2, backO_s, o_iterL, o_iterF, o_iterT, Bool.and_true, sK_nx, sK_ret, tK_nx, tK_ret, e_tryS, e_raiseS, o_isE, o_isEN, o_notNN, o_notNE, o_isNN, o_isNE, e_prN, e_prC, e_dispE, e_zipA, o_zipSS, o_zipSL, o_zipLL, o_asI, e_callL, ofDL_bl, ofDL_int, ofDL_str, ofDL_non, ofDL_exc, e_killS, kK_nx, kK_ret, kK_exc, e_wipeC, e_wipeN, e_backC, e_backN, e_stp, e_lcs, joinC_t, joinC_f, joinC_ok, e_augI, augO_int, e_getE, e_dixE, asD_k, keyD_s, keyD_i, e_bSkK, e_kiY, e_frzS, kF_nx, e_frzO, fO_ow, e_freeP3, e_strX, e_rng3A, o_iterM, e_lckS, kL_nx, e_lckO, lO_k, lO_t, e_iterK, o_iterKk, o_iterKt, e_getA, e_dixA, isDct_k, isDct_t, isDct_fk, isDct_ft, oGetA_k, oGetA_fk, oGetA_t, oGetA_ft, id_eq, e_iterL, e_lookT, lookR_ok, frzA_c, frzA_n, frz_im', frz_ow', frz_mu', frz_no', one_eq, ix0, ix1, ix2, tx0, tx1, tx2, o_intB, isi_lst, isi_tup, isi_bi, isi_bb, isi_ii, isi_ss, o_listL, o_iterS', o_enumL', o_enumS', e1, ix, e2, er, e3, ec, eA, qu]
      exact eE
  · obtain ⟨h, w, T, dE, eE, r⟩ := rest (n + 96) d3 r c skip (h3.less (by omega)) r0 r1 c0 c1 (by omega)
    refine ⟨h, w, T, dE, ?_, r⟩
    simp -implicitDefEqProofs only [bM_ok, bM_exc, bR_ok, bR_exc, bS_nx, bS_ret, bS_exc, bO_some, bOM_some, selM_t, selM_f, selS_t, selS_f, rdO_im, rdO_ow, lookO_im, lookO_ow, lookO_mu, moveO_ow, ownO_ow, ownO_mu, putO_ow, putO_mu, ofDR_ret, ofDR_exc, ofDU_ret, ofDU_exc, endF_nx, endF_ret, endF_exc, endU_nx, endU_ret, endU_exc, e_runF, e_runU, e_bind, e_ret, e_lift, e_rd, e_look, e_move, e_ownC, e_putC, e_op2, e_op1, e_tst, e_notM, e_andM, e_orM, e_notE, e_andE, e_orE, e_iteE, e_chn, e_argN, e_argC, e_tupE, e_lstE, e_noP, e_partM, e_sl3, asStr_str, e_strM, e_callF, e_callU, e_useU, e_mutM, e_skip, e_seqS, e_ifS, e_exprS, e_retS, e_setS, e_ownS, e_stIx, e_tgS, e_tgN, e_tgT, e_tgCons, e_tgNil, parK_2, e_parS, e_forS, e_rng1M, e_rng2M, e_iterM, e_enumA, e_zipM, e_lcE, o_subI, o_addI, o_eqI, o_neI, o_eqS, o_neS, o_ltI, o_leI, o_gtI, o_geI, o_maxI, o_minI, o_lenL, o_lenF, o_lenT, o_negI, o_asB, o_isiS, List.map_cons, List.map_nil, List.length_cons, List.length_nil, List.cons_append, List.nil_append, List.append_nil, List.replicate_succ, List.replicate_zero, List.getElem?_cons_succ, List.getElem?_cons_zero, List.set_cons_succ, List.set_cons_zero, Option.map_some, Option.map_none, Option.bind_some, Option.bind_none, if_true, if_false, ite_true, ite_false, decide_true, decide_false, Bool.not_true, Bool.not_false, Nat.zero_add, Nat.reduceAdd, Nat.reduceSub, reduceIte, reduceCtorEq, Nat.reduceLT, Nat.reduceLeDiff, Int.reduceLT, Int.reduceLE, Int.reduceToNat, Int.reduceNeg, Int.reduceEq, Int.reduceSub, Int.reduceAdd, Int.reduceMul, Int.reducePow, tyOk, beq_self_eq_true, e_freeP1, e_freeP2, freeO_no, freeO_im, e_wipe1, e_wipe2, e_back1, e_back2, backO_s, o_iterL, o_iterF, o_iterT, Bool.and_true, sK_nx, sK_ret, tK_nx, tK_ret, e_tryS, e_raiseS, o_isE, o_isEN, o_notNN, o_notNE, o_isNN, o_isNE, e_prN, e_prC, e_dispE, e_zipA, o_zipSS, o_zipSL, o_zipLL, o_asI, e_callL, ofDL_bl, ofDL_int, ofDL_str, ofDL_non, ofDL_exc, e_killS, kK_nx, kK_ret, kK_exc, e_wipeC, e_wipeN, e_backC, e_backN, e_stp, e_lcs, joinC_t, joinC_f, joinC_ok, e_augI, augO_int, e_getE, e_dixE, asD_k, keyD_s, keyD_i, e_bSkK, e_kiY, e_frzS, kF_nx, e_frzO, fO_ow, e_freeP3, e_strX, e_rng3A, o_iterM, e_lckS, kL_nx, e_lckO, lO_k, lO_t, e_iterK, o_iterKk, o_iterKt, e_getA, e_dixA, isDct_k, isDct_t, isDct_fk, isDct_ft, oGetA_k, oGetA_fk, oGetA_t, oGetA_ft, id_eq, e_iterL, e_lookT, lookR_ok, frzA_c, frzA_n, frz_im', frz_ow', frz_mu', frz_no', one_eq, ix0, ix1, ix2, tx0, tx1, tx2, o_intB, isi_lst, isi_tup, isi_bi, isi_bb, isi_ii, isi_ss, o_listL, o_iterS', o_enumL', o_enumS'] at eE
    simp -implicitDefEqProofs only [m__law_any_table, b__law_any_table, bM_ok, bM_exc, bR_ok, bR_exc, bS_nx, bS_ret, bS_exc, bO_some, bOM_some, selM_t, selM_f, selS_t, selS_f, rdO_im, rdO_ow, lookO_im, lookO_ow, lookO_mu, moveO_ow, ownO_ow, ownO_mu, putO_ow, putO_mu, ofDR_ret, ofDR_exc, ofDU_ret, ofDU_exc, endF_nx, endF_ret, endF_exc, endU_nx, endU_ret, endU_exc, e_runF, e_runU, e_bind, e_ret, e_lift, e_rd, e_look, e_move, e_ownC, e_putC, e_op2, e_op1, e_tst, e_notM, e_andM, e_orM, e_notE, e_andE, e_orE, e_iteE, e_chn, e_argN, e_argC, e_tupE, e_lstE, e_noP, e_partM, e_sl3, asStr_str, e_strM, e_callF, e_callU, e_useU, e_mutM, e_skip, e_seqS, e_ifS, e_exprS, e_retS, e_setS, e_ownS, e_stIx, e_tgS, e_tgN, e_tgT, e_tgCons, e_tgNil, parK_2, e_parS, e_forS, e_rng1M, e_rng2M, e_iterM, e_enumA, e_zipM, e_lcE, o_subI, o_addI, o_eqI, o_neI, o_eqS, o_neS, o_ltI, o_leI, o_gtI, o_geI, o_maxI, o_minI, o_lenL, o_lenF, o_lenT, o_negI, o_asB, o_isiS, List.map_cons, List.map_nil, List.length_cons, List.length_nil, List.cons_append, List.nil_append, List.append_nil, List.replicate_succ, List.replicate_zero, List.getElem?_cons_succ, List.getElem?_cons_zero, List.set_cons_succ, List.set_cons_zero, Option.map_some, Option.map_none, Option.bind_some, Option.bind_none, if_true, if_false, ite_true, ite_false, decide_true, decide_false, Bool.not_true, Bool.not_false, Nat.zero_add, Nat.reduceAdd, Nat.reduceSub, reduceIte, reduceCtorEq, Nat.reduceLT, Nat.reduceLeDiff, Int.reduceLT, Int.reduceLE, Int.reduceToNat, Int.reduceNeg, Int.reduceEq, Int.reduceSub, Int.reduceAdd, Int.reduceMul, Int.reducePow, tyOk, beq_self_eq_true, e_freeP1, e_freeP2, freeO_no, freeO_im, e_wipe1, e_wipe2, e_back1, e_back2, backO_s, o_iterL, o_iterF, o_iterT, Bool.and_true, sK_nx, sK_ret, tK_nx, tK_ret, e_tryS, e_raiseS, o_isE, o_isEN, o_notNN, o_notNE, o_isNN, o_isNE, e_prN, e_prC, e_dispE, e_zipA, o_zipSS, o_zipSL, o_zipLL, o_asI, e_callL, ofDL_bl, ofDL_int, ofDL_str, ofDL_non, ofDL_exc, e_killS, kK_nx, kK_ret, kK_exc, e_wipeC, e_wipeN, e_backC, e_backN, e_stp, e_lcs, joinC_t, joinC_f, joinC_ok, e_augI, augO_int, e_getE, e_dixE, asD_k, keyD_s, keyD_i, e_bSkK, e_kiY, e_frzS, kF_nx, e_frzO, fO_ow, e_freeP3, e_strX, e_rng3A, o_iterM, e_lckS, kL_nx, e_lckO, lO_k, lO_t, e_iterK, o_iterKk, o_iterKt, e_getA, e_dixA, isDct_k, isDct_t, isDct_fk, isDct_ft, oGetA_k, oGetA_fk, oGetA_t, oGetA_ft, id_eq, e_iterL, e_lookT, lookR_ok, frzA_c, frzA_n, frz_im', frz_ow', frz_mu', frz_no', one_eq, ix0, ix1, ix2, tx0, tx1, tx2, o_intB, isi_lst, isi_tup, isi_bi, isi_bb, isi_ii, isi_ss, o_listL, o_iterS', o_enumL', o_enumS', e1, ix, e2, er, e3, ec, qx]
    exact eE
end Q

/-! K43: the law k43 -/
namespace Q
open PL
open PySem (Str)
theorem law_turn {k : Nat} {ns : List Int} (hk : k < 64) : stp (tgN 1) b_law_2 [.im (.fz (ns.map .int)), .no, .no, .no, .no, .no, .no, .no, .no, .no, .no] (.int k) = .nx [.im (.fz (ns.map .int)), .no, .no, .no, .no, .no, .no, .no, .no, .no, .no] := by
  obtain ⟨d0, e0, h0⟩ := pool_ok (ns := ns) hk
  obtain ⟨h, w, T, d1, e1, h1, hT, hh, hw⟩ := any_ok (n := 99996000) (h0.less (by decide))
  have eS := show_ok hT
  have eW := written_ok hT
  have eR := read_ok hT hh hw
  have N := ne_same (tab_cps hT.t)
  have NS : oNe (.str (writ T)) (.str (writ T)) = some (.bl false) := by simp -implicitDefEqProofs (disch := (first | assumption | omega | ((try simp only [List.length_map, List.length_range, List.length_append, List.length_cons, List.length_nil, List.length_reverse, List.length_take, List.length_drop, List.length_set]); omega))) only [bM_ok, bM_exc, bR_ok, bR_exc, bS_nx, bS_ret, bS_exc, bO_some, bOM_some, selM_t, selM_f, selS_t, selS_f, rdO_im, rdO_ow, lookO_im, lookO_ow, lookO_mu, moveO_ow, ownO_ow, ownO_mu, putO_ow, putO_mu, ofDR_ret, ofDR_exc, ofDU_ret, ofDU_exc, endF_nx, endF_ret, endF_exc, endU_nx, endU_ret, endU_exc, e_runF, e_runU, e_bind, e_ret, e_lift, e_rd, e_look, e_move, e_ownC, e_putC, e_op2, e_op1, e_tst, e_notM, e_andM, e_orM, e_notE, e_andE, e_orE, e_iteE, e_chn, e_argN, e_argC, e_tupE, e_lstE, e_noP, e_partM, e_sl3, asStr_str, e_strM, e_callF, e_callU, e_useU, e_mutM, e_skip, e_seqS, e_ifS, e_exprS, e_retS, e_setS, e_ownS, e_stIx, e_tgS, e_tgN, e_tgT, e_tgCons, e_tgNil, parK_2, e_parS, e_forS, e_rng1M, e_rng2M, e_iterM, e_enumA, e_zipM, e_lcE, o_subI, o_addI, o_eqI, o_neI, o_eqS, o_neS, o_ltI, o_leI, o_gtI, o_geI, o_maxI, o_minI, o_lenL, o_lenF, o_lenT, o_negI, o_asB, o_isiS, List.map_cons, List.map_nil, List.length_cons, List.length_nil, List.cons_append, List.nil_append, List.append_nil, List.replicate_succ, List.replicate_zero, List.getElem?_cons_succ, List.getElem?_cons_zero, List.set_cons_succ, List.set_cons_zero, Option.map_some, Option.map_none, Option.bind_some, Option.bind_none, if_true, if_false, ite_true, ite_false, decide_true, decide_false, Bool.not_true, Bool.not_false, Nat.zero_add, Nat.reduceAdd, Nat.reduceSub, reduceIte, reduceCtorEq, Nat.reduceLT, Nat.reduceLeDiff, Int.reduceLT, Int.reduceLE, Int.reduceToNat, Int.reduceNeg, Int.reduceEq, Int.reduceSub, Int.reduceAdd, Int.reduceMul, Int.reducePow, tyOk, beq_self_eq_true, e_freeP1, e_freeP2, freeO_no, freeO_im, e_wipe1, e_wipe2, e_back1, e_back2, backO_s, o_iterL, o_iterF, o_iterT, Bool.and_true, sK_nx, sK_ret, tK_nx, tK_ret, e_tryS, e_raiseS, o_isE, o_isEN, o_notNN, o_notNE, o_isNN, o_isNE, e_prN, e_prC, e_dispE, e_zipA, o_zipSS, o_zipSL, o_zipLL, o_asI, e_callL, ofDL_bl, ofDL_int, ofDL_str, ofDL_non, ofDL_exc, e_killS, kK_nx, kK_ret, kK_exc, e_wipeC, e_wipeN, e_backC, e_backN, e_stp, e_lcs, joinC_t, joinC_f, joinC_ok, e_augI, augO_int, e_getE, e_dixE, asD_k, keyD_s, keyD_i, e_bSkK, e_kiY, e_frzS, kF_nx, e_frzO, fO_ow, e_freeP3, e_strX, e_rng3A, o_iterM, e_lckS, kL_nx, e_lckO, lO_k, lO_t, e_iterK, o_iterKk, o_iterKt, e_getA, e_dixA, isDct_k, isDct_t, isDct_fk, isDct_ft, oGetA_k, oGetA_fk, oGetA_t, oGetA_ft, id_eq, e_iterL, e_lookT, lookR_ok, frzA_c, frzA_n, frz_im', frz_ow', frz_mu', frz_no']
  have r2 : oRange1 (.int 2) = some (rangeD 0 2) := o_range 2 (by decide)
  have Tl : (T.map D.str).length = h := by rw [List.length_map]; exact hT.t.1
  have It : oIter (.lst (T.map .str)) = some (T.map .str) := rfl
  have E2 : oNe (.lst []) (.lst []) = some (.bl false) := rfl
  have hne : ∃ r T', T = r :: T' := by
    cases T with
    | nil => have := hT.h0; simp at Tl; omega
    | cons r T' => exact ⟨r, T', rfl⟩
  simp -implicitDefEqProofs only [b_law_2, bM_ok, bM_exc, bR_ok, bR_exc, bS_nx, bS_ret, bS_exc, bO_some, bOM_some, selM_t, selM_f, selS_t, selS_f, rdO_im, rdO_ow, lookO_im, lookO_ow, lookO_mu, moveO_ow, ownO_ow, ownO_mu, putO_ow, putO_mu, ofDR_ret, ofDR_exc, ofDU_ret, ofDU_exc, endF_nx, endF_ret, endF_exc, endU_nx, endU_ret, endU_exc, e_runF, e_runU, e_bind, e_ret, e_lift, e_rd, e_look, e_move, e_ownC, e_putC, e_op2, e_op1, e_tst, e_notM, e_andM, e_orM, e_notE, e_andE, e_orE, e_iteE, e_chn, e_argN, e_argC, e_tupE, e_lstE, e_noP, e_partM, e_sl3, asStr_str, e_strM, e_callF, e_callU, e_useU, e_mutM, e_skip, e_seqS, e_ifS, e_exprS, e_retS, e_setS, e_ownS, e_stIx, e_tgS, e_tgN, e_tgT, e_tgCons, e_tgNil, parK_2, e_parS, e_forS, e_rng1M, e_rng2M, e_iterM, e_enumA, e_zipM, e_lcE, o_subI, o_addI, o_eqI, o_neI, o_eqS, o_neS, o_ltI, o_leI, o_gtI, o_geI, o_maxI, o_minI, o_lenL, o_lenF, o_lenT, o_negI, o_asB, o_isiS, List.map_cons, List.map_nil, List.length_cons, List.length_nil, List.cons_append, List.nil_append, List.append_nil, List.replicate_succ, List.replicate_zero, List.getElem?_cons_succ, List.getElem?_cons_zero, List.set_cons_succ, List.set_cons_zero, Option.map_some, Option.map_none, Option.bind_some, Option.bind_none, if_true, if_false, ite_true, ite_false, decide_true, decide_false, Bool.not_true, Bool.not_false, Nat.zero_add, Nat.reduceAdd, Nat.reduceSub, reduceIte, reduceCtorEq, Nat.reduceLT, Nat.reduceLeDiff, Int.reduceLT, Int.reduceLE, Int.reduceToNat, Int.reduceNeg, Int.reduceEq, Int.reduceSub, Int.reduceAdd, Int.reduceMul, Int.reducePow, tyOk, beq_self_eq_true, e_freeP1, e_freeP2, freeO_no, freeO_im, e_wipe1, e_wipe2, e_back1, e_back2, backO_s, o_iterL, o_iterF, o_iterT, Bool.and_true, sK_nx, sK_ret, tK_nx, tK_ret, e_tryS, e_raiseS, o_isE, o_isEN, o_notNN, o_notNE, o_isNN, o_isNE, e_prN, e_prC, e_dispE, e_zipA, o_zipSS, o_zipSL, o_zipLL, o_asI, e_callL, ofDL_bl, ofDL_int, ofDL_str, ofDL_non, ofDL_exc, e_killS, kK_nx, kK_ret, kK_exc, e_wipeC, e_wipeN, e_backC, e_backN, e_stp, e_lcs, joinC_t, joinC_f, joinC_ok, e_augI, augO_int, e_getE, e_dixE, asD_k, keyD_s, keyD_i, e_bSkK, e_kiY, e_frzS, kF_nx, e_frzO, fO_ow, e_freeP3, e_strX, e_rng3A, o_iterM, e_lckS, kL_nx, e_lckO, lO_k, lO_t, e_iterK, o_iterKk, o_iterKt, e_getA, e_dixA, isDct_k, isDct_t, isDct_fk, isDct_ft, oGetA_k, oGetA_fk, oGetA_t, oGetA_ft, id_eq, e_iterL, e_lookT, lookR_ok, frzA_c, frzA_n, frz_im', frz_ow', frz_mu', frz_no', one_eq, ix0, ix1, ix2, tx0, tx1, tx2, o_intB, isi_lst, isi_tup, isi_bi, isi_bb, isi_ii, isi_ss, o_listL, o_iterS', o_enumL', o_enumS', e0, e1, eW, r2]
  rw [for_sameR fun i hi => ?_]
  · simp -implicitDefEqProofs only [bM_ok, bM_exc, bR_ok, bR_exc, bS_nx, bS_ret, bS_exc, bO_some, bOM_some, selM_t, selM_f, selS_t, selS_f, rdO_im, rdO_ow, lookO_im, lookO_ow, lookO_mu, moveO_ow, ownO_ow, ownO_mu, putO_ow, putO_mu, ofDR_ret, ofDR_exc, ofDU_ret, ofDU_exc, endF_nx, endF_ret, endF_exc, endU_nx, endU_ret, endU_exc, e_runF, e_runU, e_bind, e_ret, e_lift, e_rd, e_look, e_move, e_ownC, e_putC, e_op2, e_op1, e_tst, e_notM, e_andM, e_orM, e_notE, e_andE, e_orE, e_iteE, e_chn, e_argN, e_argC, e_tupE, e_lstE, e_noP, e_partM, e_sl3, asStr_str, e_strM, e_callF, e_callU, e_useU, e_mutM, e_skip, e_seqS, e_ifS, e_exprS, e_retS, e_setS, e_ownS, e_stIx, e_tgS, e_tgN, e_tgT, e_tgCons, e_tgNil, parK_2, e_parS, e_forS, e_rng1M, e_rng2M, e_iterM, e_enumA, e_zipM, e_lcE, o_subI, o_addI, o_eqI, o_neI, o_eqS, o_neS, o_ltI, o_leI, o_gtI, o_geI, o_maxI, o_minI, o_lenL, o_lenF, o_lenT, o_negI, o_asB, o_isiS, List.map_cons, List.map_nil, List.length_cons, List.length_nil, List.cons_append, List.nil_append, List.append_nil, List.replicate_succ, List.replicate_zero, List.getElem?_cons_succ, List.getElem?_cons_zero, List.set_cons_succ, List.set_cons_zero, Option.map_some, Option.map_none, Option.bind_some, Option.bind_none, if_true, if_false, ite_true, ite_false, decide_true, decide_false, Bool.not_true, Bool.not_false, Nat.zero_add, Nat.reduceAdd, Nat.reduceSub, reduceIte, reduceCtorEq, Nat.reduceLT, Nat.reduceLeDiff, Int.reduceLT, Int.reduceLE, Int.reduceToNat, Int.reduceNeg, Int.reduceEq, Int.reduceSub, Int.reduceAdd, Int.reduceMul, Int.reducePow, tyOk, beq_self_eq_true, e_freeP1, e_freeP2, freeO_no, freeO_im, e_wipe1, e_wipe2, e_back1, e_back2, backO_s, o_iterL, o_iterF, o_iterT, Bool.and_true, sK_nx, sK_ret, tK_nx, tK_ret, e_tryS, e_raiseS, o_isE, o_isEN, o_notNN, o_notNE, o_isNN, o_isNE, e_prN, e_prC, e_dispE, e_zipA, o_zipSS, o_zipSL, o_zipLL, o_asI, e_callL, ofDL_bl, ofDL_int, ofDL_str, ofDL_non, ofDL_exc, e_killS, kK_nx, kK_ret, kK_exc, e_wipeC, e_wipeN, e_backC, e_backN, e_stp, e_lcs, joinC_t, joinC_f, joinC_ok, e_augI, augO_int, e_getE, e_dixE, asD_k, keyD_s, keyD_i, e_bSkK, e_kiY, e_frzS, kF_nx, e_frzO, fO_ow, e_freeP3, e_strX, e_rng3A, o_iterM, e_lckS, kL_nx, e_lckO, lO_k, lO_t, e_iterK, o_iterKk, o_iterKt, e_getA, e_dixA, isDct_k, isDct_t, isDct_fk, isDct_ft, oGetA_k, oGetA_fk, oGetA_t, oGetA_ft, id_eq, e_iterL, e_lookT, lookR_ok, frzA_c, frzA_n, frz_im', frz_ow', frz_mu', frz_no', one_eq, ix0, ix1, ix2, tx0, tx1, tx2, o_intB, isi_lst, isi_tup, isi_bi, isi_bb, isi_ii, isi_ss, o_listL, o_iterS', o_enumL', o_enumS']
  · have LC := lc_filtL (vs := [10]) (h := tgN 10) (t := notM (tst (op1 (oIsi "str") (rd 10)))) (el := ret (.int 1)) (τ := [.im (.fz (ns.map .int)), .no, .no, .no, .im (.lst (T.map .str)), .im (.str (writ T)), .im (.lst (T.map .str)), .no, .no, .im (.lst (T.map .str)), .no]) (A := T) .str (fun _ => .int 1) (fun _ => false) (by have := hT.t.1; have := hT.hh; omega) fun r hr => by
      refine ⟨_, [.im (.fz (ns.map .int)), .no, .no, .no, .im (.lst (T.map .str)), .im (.str (writ T)), .im (.lst (T.map .str)), .no, .no, .im (.lst (T.map .str)), .im (.str r)], rfl, ?_, fun _ => rfl, fun z => nomatch z⟩
      simp -implicitDefEqProofs only [bM_ok, bM_exc, bR_ok, bR_exc, bS_nx, bS_ret, bS_exc, bO_some, bOM_some, selM_t, selM_f, selS_t, selS_f, rdO_im, rdO_ow, lookO_im, lookO_ow, lookO_mu, moveO_ow, ownO_ow, ownO_mu, putO_ow, putO_mu, ofDR_ret, ofDR_exc, ofDU_ret, ofDU_exc, endF_nx, endF_ret, endF_exc, endU_nx, endU_ret, endU_exc, e_runF, e_runU, e_bind, e_ret, e_lift, e_rd, e_look, e_move, e_ownC, e_putC, e_op2, e_op1, e_tst, e_notM, e_andM, e_orM, e_notE, e_andE, e_orE, e_iteE, e_chn, e_argN, e_argC, e_tupE, e_lstE, e_noP, e_partM, e_sl3, asStr_str, e_strM, e_callF, e_callU, e_useU, e_mutM, e_skip, e_seqS, e_ifS, e_exprS, e_retS, e_setS, e_ownS, e_stIx, e_tgS, e_tgN, e_tgT, e_tgCons, e_tgNil, parK_2, e_parS, e_forS, e_rng1M, e_rng2M, e_iterM, e_enumA, e_zipM, e_lcE, o_subI, o_addI, o_eqI, o_neI, o_eqS, o_neS, o_ltI, o_leI, o_gtI, o_geI, o_maxI, o_minI, o_lenL, o_lenF, o_lenT, o_negI, o_asB, o_isiS, List.map_cons, List.map_nil, List.length_cons, List.length_nil, List.cons_append, List.nil_append, List.append_nil, List.replicate_succ, List.replicate_zero, List.getElem?_cons_succ, List.getElem?_cons_zero, List.set_cons_succ, List.set_cons_zero, Option.map_some, Option.map_none, Option.bind_some, Option.bind_none, if_true, if_false, ite_true, ite_false, decide_true, decide_false, Bool.not_true, Bool.not_false, Nat.zero_add, Nat.reduceAdd, Nat.reduceSub, reduceIte, reduceCtorEq, Nat.reduceLT, Nat.reduceLeDiff, Int.reduceLT, Int.reduceLE, Int.reduceToNat, Int.reduceNeg, Int.reduceEq, Int.reduceSub, Int.reduceAdd, Int.reduceMul, Int.reducePow, tyOk, beq_self_eq_true, e_freeP1, e_freeP2, freeO_no, freeO_im, e_wipe1, e_wipe2, e_back1, e_back2, backO_s, o_iterL, o_iterF, o_iterT, Bool.and_true, sK_nx, sK_ret, tK_nx, tK_ret, e_tryS, e_raiseS, o_isE, o_isEN, o_notNN, o_notNE, o_isNN, o_isNE, e_prN, e_prC, e_dispE, e_zipA, o_zipSS, o_zipSL, o_zipLL, o_asI, e_callL, ofDL_bl, ofDL_int, ofDL_str, ofDL_non, ofDL_exc, e_killS, kK_nx, kK_ret, kK_exc, e_wipeC, e_wipeN, e_backC, e_backN, e_stp, e_lcs, joinC_t, joinC_f, joinC_ok, e_augI, augO_int, e_getE, e_dixE, asD_k, keyD_s, keyD_i, e_bSkK, e_kiY, e_frzS, kF_nx, e_frzO, fO_ow, e_freeP3, e_strX, e_rng3A, o_iterM, e_lckS, kL_nx, e_lckO, lO_k, lO_t, e_iterK, o_iterKk, o_iterKt, e_getA, e_dixA, isDct_k, isDct_t, isDct_fk, isDct_ft, oGetA_k, oGetA_fk, oGetA_t, oGetA_ft, id_eq, e_iterL, e_lookT, lookR_ok, frzA_c, frzA_n, frz_im', frz_ow', frz_mu', frz_no', one_eq, ix0, ix1, ix2, tx0, tx1, tx2, o_intB, isi_lst, isi_tup, isi_bi, isi_bb, isi_ii, isi_ss, o_listL, o_iterS', o_enumL', o_enumS']
    rw [List.filter_eq_nil_iff.mpr (fun _ _ => by simp)] at LC
    have App : oAppend (.lst (T.map .str)) [.str [115, 112, 111, 105, 108, 116]] = some (.non, .lst (T.map .str ++ [.str [115, 112, 111, 105, 108, 116]])) := o_append (by rw [Tl]; have := hT.hh; omega)
    obtain ⟨r, T', eT⟩ := hne
    have Set0 : oSetIx (.lst (T.map .str ++ [.str [115, 112, 111, 105, 108, 116]])) [.int 0, .str []] = some (.non, .lst (.str [] :: (T'.map .str ++ [.str [115, 112, 111, 105, 108, 116]]))) := by
      rw [eT]
      exact set0
    simp -implicitDefEqProofs only [b_law_1, bM_ok, bM_exc, bR_ok, bR_exc, bS_nx, bS_ret, bS_exc, bO_some, bOM_some, selM_t, selM_f, selS_t, selS_f, rdO_im, rdO_ow, lookO_im, lookO_ow, lookO_mu, moveO_ow, ownO_ow, ownO_mu, putO_ow, putO_mu, ofDR_ret, ofDR_exc, ofDU_ret, ofDU_exc, endF_nx, endF_ret, endF_exc, endU_nx, endU_ret, endU_exc, e_runF, e_runU, e_bind, e_ret, e_lift, e_rd, e_look, e_move, e_ownC, e_putC, e_op2, e_op1, e_tst, e_notM, e_andM, e_orM, e_notE, e_andE, e_orE, e_iteE, e_chn, e_argN, e_argC, e_tupE, e_lstE, e_noP, e_partM, e_sl3, asStr_str, e_strM, e_callF, e_callU, e_useU, e_mutM, e_skip, e_seqS, e_ifS, e_exprS, e_retS, e_setS, e_ownS, e_stIx, e_tgS, e_tgN, e_tgT, e_tgCons, e_tgNil, parK_2, e_parS, e_forS, e_rng1M, e_rng2M, e_iterM, e_enumA, e_zipM, e_lcE, o_subI, o_addI, o_eqI, o_neI, o_eqS, o_neS, o_ltI, o_leI, o_gtI, o_geI, o_maxI, o_minI, o_lenL, o_lenF, o_lenT, o_negI, o_asB, o_isiS, List.map_cons, List.map_nil, List.length_cons, List.length_nil, List.cons_append, List.nil_append, List.append_nil, List.replicate_succ, List.replicate_zero, List.getElem?_cons_succ, List.getElem?_cons_zero, List.set_cons_succ, List.set_cons_zero, Option.map_some, Option.map_none, Option.bind_some, Option.bind_none, if_true, if_false, ite_true, ite_false, decide_true, decide_false, Bool.not_true, Bool.not_false, Nat.zero_add, Nat.reduceAdd, Nat.reduceSub, reduceIte, reduceCtorEq, Nat.reduceLT, Nat.reduceLeDiff, Int.reduceLT, Int.reduceLE, Int.reduceToNat, Int.reduceNeg, Int.reduceEq, Int.reduceSub, Int.reduceAdd, Int.reduceMul, Int.reducePow, tyOk, beq_self_eq_true, e_freeP1, e_freeP2, freeO_no, freeO_im, e_wipe1, e_wipe2, e_back1, e_back2, backO_s, o_iterL, o_iterF, o_iterT, Bool.and_true, sK_nx, sK_ret, tK_nx, tK_ret, e_tryS, e_raiseS, o_isE, o_isEN, o_notNN, o_notNE, o_isNN, o_isNE, e_prN, e_prC, e_dispE, e_zipA, o_zipSS, o_zipSL, o_zipLL, o_asI, e_callL, ofDL_bl, ofDL_int, ofDL_str, ofDL_non, ofDL_exc, e_killS, kK_nx, kK_ret, kK_exc, e_wipeC, e_wipeN, e_backC, e_backN, e_stp, e_lcs, joinC_t, joinC_f, joinC_ok, e_augI, augO_int, e_getE, e_dixE, asD_k, keyD_s, keyD_i, e_bSkK, e_kiY, e_frzS, kF_nx, e_frzO, fO_ow, e_freeP3, e_strX, e_rng3A, o_iterM, e_lckS, kL_nx, e_lckO, lO_k, lO_t, e_iterK, o_iterKk, o_iterKt, e_getA, e_dixA, isDct_k, isDct_t, isDct_fk, isDct_ft, oGetA_k, oGetA_fk, oGetA_t, oGetA_ft, id_eq, e_iterL, e_lookT, lookR_ok, frzA_c, frzA_n, frz_im', frz_ow', frz_mu', frz_no', one_eq, ix0, ix1, ix2, tx0, tx1, tx2, o_intB, isi_lst, isi_tup, isi_bi, isi_bb, isi_ii, isi_ss, o_listL, o_iterS', o_enumL', o_enumS', eS, NS, N, eR, LC, E2, App, Set0]
/-! ### the greatest one, of / alone -/
def TT : List (List Nat) := List.replicate 40 (List.replicate 40 47)
theorem TT_lit : Lit 40 40 TT := Lit.mk' (by decide) (by decide) (by decide) (by decide) (by simp [TT]) fun r hr => by
  rw [List.eq_of_mem_replicate hr]
  refine ⟨by simp, fun c hc => ?_⟩
  rw [List.eq_of_mem_replicate hc]
  exact ⟨by decide, by decide, by decide⟩
theorem TT_writ : writ TT = joinD [32] (List.replicate 40 (List.replicate 80 47)) := by
  have h : ¬ TT.filter slB = [] := by
    unfold TT slB
    rw [show (List.replicate 40 (List.replicate 40 47)) = List.replicate 40 47 :: List.replicate 39 (List.replicate 40 47) from rfl, List.filter_cons_of_pos (by decide)]
    exact List.cons_ne_nil _ _
  unfold writ
  rw [if_neg h]
  congr 1
theorem math : ∀ ns : List Int, ns.length ≤ 63 → m_law [.fz (ns.map .int)] = .ret (.bl true) .non := fun ns hl => by
  obtain ⟨n, en, hn⟩ : ∃ n : Nat, (if (if (ns.length : Int) < 6 then (ns.length : Int) else 6) > 1 then (if (ns.length : Int) < 6 then (ns.length : Int) else 6) else 1) = (n : Int) ∧ n < 64 := by
    refine ⟨(if (if (ns.length : Int) < 6 then (ns.length : Int) else 6) > 1 then (if (ns.length : Int) < 6 then (ns.length : Int) else 6) else 1).toNat, ?_, ?_⟩ <;> split <;> split <;> omega
  have m1 : oMulA (.str [47]) (.int 40) = some (.str (List.replicate 40 47)) := rfl
  have m2 : oMulA (.lst [.str (List.replicate 40 47)]) (.int 40) = some (.lst (TT.map .str)) := rfl
  have m3 : oMulA (.str [47, 47]) (.int 40) = some (.str (List.replicate 80 47)) := rfl
  have m4 : oMulA (.lst [.str (List.replicate 80 47)]) (.int 40) = some (.lst ((List.replicate 40 (List.replicate 80 47)).map .str)) := rfl
  have J : oJoin (.str [32]) (.lst ((List.replicate 40 (List.replicate 80 47)).map .str)) = some (.str (writ TT)) := by
    rw [o_joinS (by decide), TT_writ]
  have eS := show_ok TT_lit
  have eR := read_ok TT_lit (by decide) (by decide)
  have EL := o_eqL (tab_cps TT_lit.t) (tab_cps TT_lit.t)
  have ES : oEq (.str (writ TT)) (.str (writ TT)) = some (.bl true) := by simp -implicitDefEqProofs (disch := (first | assumption | omega | ((try simp only [List.length_map, List.length_range, List.length_append, List.length_cons, List.length_nil, List.length_reverse, List.length_take, List.length_drop, List.length_set]); omega))) only [bM_ok, bM_exc, bR_ok, bR_exc, bS_nx, bS_ret, bS_exc, bO_some, bOM_some, selM_t, selM_f, selS_t, selS_f, rdO_im, rdO_ow, lookO_im, lookO_ow, lookO_mu, moveO_ow, ownO_ow, ownO_mu, putO_ow, putO_mu, ofDR_ret, ofDR_exc, ofDU_ret, ofDU_exc, endF_nx, endF_ret, endF_exc, endU_nx, endU_ret, endU_exc, e_runF, e_runU, e_bind, e_ret, e_lift, e_rd, e_look, e_move, e_ownC, e_putC, e_op2, e_op1, e_tst, e_notM, e_andM, e_orM, e_notE, e_andE, e_orE, e_iteE, e_chn, e_argN, e_argC, e_tupE, e_lstE, e_noP, e_partM, e_sl3, asStr_str, e_strM, e_callF, e_callU, e_useU, e_mutM, e_skip, e_seqS, e_ifS, e_exprS, e_retS, e_setS, e_ownS, e_stIx, e_tgS, e_tgN, e_tgT, e_tgCons, e_tgNil, parK_2, e_parS, e_forS, e_rng1M, e_rng2M, e_iterM, e_enumA, e_zipM, e_lcE, o_subI, o_addI, o_eqI, o_neI, o_eqS, o_neS, o_ltI, o_leI, o_gtI, o_geI, o_maxI, o_minI, o_lenL, o_lenF, o_lenT, o_negI, o_asB, o_isiS, List.map_cons, List.map_nil, List.length_cons, List.length_nil, List.cons_append, List.nil_append, List.append_nil, List.replicate_succ, List.replicate_zero, List.getElem?_cons_succ, List.getElem?_cons_zero, List.set_cons_succ, List.set_cons_zero, Option.map_some, Option.map_none, Option.bind_some, Option.bind_none, if_true, if_false, ite_true, ite_false, decide_true, decide_false, Bool.not_true, Bool.not_false, Nat.zero_add, Nat.reduceAdd, Nat.reduceSub, reduceIte, reduceCtorEq, Nat.reduceLT, Nat.reduceLeDiff, Int.reduceLT, Int.reduceLE, Int.reduceToNat, Int.reduceNeg, Int.reduceEq, Int.reduceSub, Int.reduceAdd, Int.reduceMul, Int.reducePow, tyOk, beq_self_eq_true, e_freeP1, e_freeP2, freeO_no, freeO_im, e_wipe1, e_wipe2, e_back1, e_back2, backO_s, o_iterL, o_iterF, o_iterT, Bool.and_true, sK_nx, sK_ret, tK_nx, tK_ret, e_tryS, e_raiseS, o_isE, o_isEN, o_notNN, o_notNE, o_isNN, o_isNE, e_prN, e_prC, e_dispE, e_zipA, o_zipSS, o_zipSL, o_zipLL, o_asI, e_callL, ofDL_bl, ofDL_int, ofDL_str, ofDL_non, ofDL_exc, e_killS, kK_nx, kK_ret, kK_exc, e_wipeC, e_wipeN, e_backC, e_backN, e_stp, e_lcs, joinC_t, joinC_f, joinC_ok, e_augI, augO_int, e_getE, e_dixE, asD_k, keyD_s, keyD_i, e_bSkK, e_kiY, e_frzS, kF_nx, e_frzO, fO_ow, e_freeP3, e_strX, e_rng3A, o_iterM, e_lckS, kL_nx, e_lckO, lO_k, lO_t, e_iterK, o_iterKk, o_iterKt, e_getA, e_dixA, isDct_k, isDct_t, isDct_fk, isDct_ft, oGetA_k, oGetA_fk, oGetA_t, oGetA_ft, id_eq, e_iterL, e_lookT, lookR_ok, frzA_c, frzA_n, frz_im', frz_ow', frz_mu', frz_no']
  rw [decide_eq_true rfl] at EL
  generalize TT = T at *
  generalize List.replicate 40 47 = A at *
  generalize List.replicate 80 47 = B at *
  generalize List.map D.str (List.replicate 40 B) = C at *
  simp -implicitDefEqProofs only [m_law, b_law, bM_ok, bM_exc, bR_ok, bR_exc, bS_nx, bS_ret, bS_exc, bO_some, bOM_some, selM_t, selM_f, selS_t, selS_f, rdO_im, rdO_ow, lookO_im, lookO_ow, lookO_mu, moveO_ow, ownO_ow, ownO_mu, putO_ow, putO_mu, ofDR_ret, ofDR_exc, ofDU_ret, ofDU_exc, endF_nx, endF_ret, endF_exc, endU_nx, endU_ret, endU_exc, e_runF, e_runU, e_bind, e_ret, e_lift, e_rd, e_look, e_move, e_ownC, e_putC, e_op2, e_op1, e_tst, e_notM, e_andM, e_orM, e_notE, e_andE, e_orE, e_iteE, e_chn, e_argN, e_argC, e_tupE, e_lstE, e_noP, e_partM, e_sl3, asStr_str, e_strM, e_callF, e_callU, e_useU, e_mutM, e_skip, e_seqS, e_ifS, e_exprS, e_retS, e_setS, e_ownS, e_stIx, e_tgS, e_tgN, e_tgT, e_tgCons, e_tgNil, parK_2, e_parS, e_forS, e_rng1M, e_rng2M, e_iterM, e_enumA, e_zipM, e_lcE, o_subI, o_addI, o_eqI, o_neI, o_eqS, o_neS, o_ltI, o_leI, o_gtI, o_geI, o_maxI, o_minI, o_lenL, o_lenF, o_lenT, o_negI, o_asB, o_isiS, List.map_cons, List.map_nil, List.length_cons, List.length_nil, List.cons_append, List.nil_append, List.append_nil, List.replicate_succ, List.replicate_zero, List.getElem?_cons_succ, List.getElem?_cons_zero, List.set_cons_succ, List.set_cons_zero, Option.map_some, Option.map_none, Option.bind_some, Option.bind_none, if_true, if_false, ite_true, ite_false, decide_true, decide_false, Bool.not_true, Bool.not_false, Nat.zero_add, Nat.reduceAdd, Nat.reduceSub, reduceIte, reduceCtorEq, Nat.reduceLT, Nat.reduceLeDiff, Int.reduceLT, Int.reduceLE, Int.reduceToNat, Int.reduceNeg, Int.reduceEq, Int.reduceSub, Int.reduceAdd, Int.reduceMul, Int.reducePow, tyOk, beq_self_eq_true, e_freeP1, e_freeP2, freeO_no, freeO_im, e_wipe1, e_wipe2, e_back1, e_back2, backO_s, o_iterL, o_iterF, o_iterT, Bool.and_true, sK_nx, sK_ret, tK_nx, tK_ret, e_tryS, e_raiseS, o_isE, o_isEN, o_notNN, o_notNE, o_isNN, o_isNE, e_prN, e_prC, e_dispE, e_zipA, o_zipSS, o_zipSL, o_zipLL, o_asI, e_callL, ofDL_bl, ofDL_int, ofDL_str, ofDL_non, ofDL_exc, e_killS, kK_nx, kK_ret, kK_exc, e_wipeC, e_wipeN, e_backC, e_backN, e_stp, e_lcs, joinC_t, joinC_f, joinC_ok, e_augI, augO_int, e_getE, e_dixE, asD_k, keyD_s, keyD_i, e_bSkK, e_kiY, e_frzS, kF_nx, e_frzO, fO_ow, e_freeP3, e_strX, e_rng3A, o_iterM, e_lckS, kL_nx, e_lckO, lO_k, lO_t, e_iterK, o_iterKk, o_iterKt, e_getA, e_dixA, isDct_k, isDct_t, isDct_fk, isDct_ft, oGetA_k, oGetA_fk, oGetA_t, oGetA_ft, id_eq, e_iterL, e_lookT, lookR_ok, frzA_c, frzA_n, frz_im', frz_ow', frz_mu', frz_no', one_eq, ix0, ix1, ix2, tx0, tx1, tx2, o_intB, isi_lst, isi_tup, isi_bi, isi_bb, isi_ii, isi_ss, o_listL, o_iterS', o_enumL', o_enumS', List.length_map, en, o_range n (by omega)]
  rw [for_sameR fun i hi => by rw [zadd]; exact law_turn (by omega)]
  simp -implicitDefEqProofs only [bM_ok, bM_exc, bR_ok, bR_exc, bS_nx, bS_ret, bS_exc, bO_some, bOM_some, selM_t, selM_f, selS_t, selS_f, rdO_im, rdO_ow, lookO_im, lookO_ow, lookO_mu, moveO_ow, ownO_ow, ownO_mu, putO_ow, putO_mu, ofDR_ret, ofDR_exc, ofDU_ret, ofDU_exc, endF_nx, endF_ret, endF_exc, endU_nx, endU_ret, endU_exc, e_runF, e_runU, e_bind, e_ret, e_lift, e_rd, e_look, e_move, e_ownC, e_putC, e_op2, e_op1, e_tst, e_notM, e_andM, e_orM, e_notE, e_andE, e_orE, e_iteE, e_chn, e_argN, e_argC, e_tupE, e_lstE, e_noP, e_partM, e_sl3, asStr_str, e_strM, e_callF, e_callU, e_useU, e_mutM, e_skip, e_seqS, e_ifS, e_exprS, e_retS, e_setS, e_ownS, e_stIx, e_tgS, e_tgN, e_tgT, e_tgCons, e_tgNil, parK_2, e_parS, e_forS, e_rng1M, e_rng2M, e_iterM, e_enumA, e_zipM, e_lcE, o_subI, o_addI, o_eqI, o_neI, o_eqS, o_neS, o_ltI, o_leI, o_gtI, o_geI, o_maxI, o_minI, o_lenL, o_lenF, o_lenT, o_negI, o_asB, o_isiS, List.map_cons, List.map_nil, List.length_cons, List.length_nil, List.cons_append, List.nil_append, List.append_nil, List.replicate_succ, List.replicate_zero, List.getElem?_cons_succ, List.getElem?_cons_zero, List.set_cons_succ, List.set_cons_zero, Option.map_some, Option.map_none, Option.bind_some, Option.bind_none, if_true, if_false, ite_true, ite_false, decide_true, decide_false, Bool.not_true, Bool.not_false, Nat.zero_add, Nat.reduceAdd, Nat.reduceSub, reduceIte, reduceCtorEq, Nat.reduceLT, Nat.reduceLeDiff, Int.reduceLT, Int.reduceLE, Int.reduceToNat, Int.reduceNeg, Int.reduceEq, Int.reduceSub, Int.reduceAdd, Int.reduceMul, Int.reducePow, tyOk, beq_self_eq_true, e_freeP1, e_freeP2, freeO_no, freeO_im, e_wipe1, e_wipe2, e_back1, e_back2, backO_s, o_iterL, o_iterF, o_iterT, Bool.and_true, sK_nx, sK_ret, tK_nx, tK_ret, e_tryS, e_raiseS, o_isE, o_isEN, o_notNN, o_notNE, o_isNN, o_isNE, e_prN, e_prC, e_dispE, e_zipA, o_zipSS, o_zipSL, o_zipLL, o_asI, e_callL, ofDL_bl, ofDL_int, ofDL_str, ofDL_non, ofDL_exc, e_killS, kK_nx, kK_ret, kK_exc, e_wipeC, e_wipeN, e_backC, e_backN, e_stp, e_lcs, joinC_t, joinC_f, joinC_ok, e_augI, augO_int, e_getE, e_dixE, asD_k, keyD_s, keyD_i, e_bSkK, e_kiY, e_frzS, kF_nx, e_frzO, fO_ow, e_freeP3, e_strX, e_rng3A, o_iterM, e_lckS, kL_nx, e_lckO, lO_k, lO_t, e_iterK, o_iterKk, o_iterKt, e_getA, e_dixA, isDct_k, isDct_t, isDct_fk, isDct_ft, oGetA_k, oGetA_fk, oGetA_t, oGetA_ft, id_eq, e_iterL, e_lookT, lookR_ok, frzA_c, frzA_n, frz_im', frz_ow', frz_mu', frz_no', one_eq, ix0, ix1, ix2, tx0, tx1, tx2, o_intB, isi_lst, isi_tup, isi_bi, isi_bb, isi_ii, isi_ss, o_listL, o_iterS', o_enumL', o_enumS', m1, m2, m3, m4, J, eS, eR, EL, ES]
end Q

open PySem PySem.W PyProof.Rows
set_option maxHeartbeats 0 in
theorem PySem.Challenge.cw_tablefind_k43_tables_written_and_read_holds : PySem.Challenge.rw_tablefind_k43_tables_written_and_read.Holds := by
  w_on; o_law; k_head; (case hw => w_witness2)
  k_fill
  refine L2.walk_of (l := PySem.Challenge.rw_tablefind_k43_tables_written_and_read) (n := 63) (k := 6) (x := "script") (CX := fun w => L2.CX (PySem.Challenge.rw_tablefind_k43_tables_written_and_read).prog w) (sp := fun w => PL.spLaw _) rfl (by decide) rfl ⟨rfl, by decide, by decide⟩ (fun w h Y => PySem.W.kIn_of Y) ?F (fun _ H a ns hl hO hS => ⟨a, ns, rfl, hS, hl, hO, fun _ => rfl⟩) (fun _ _ _ _ _ h => by obtain ⟨_, _, _, _, _, _, _, _, _, _, _, _, z⟩ := h; exact z)
  case F =>
    intro w mg fa h KX G hmg
    refine' Q.all_mk KX G hmg ?a0 ?l0 ?c0 ?k0 ?a1 ?l1 ?c1 ?k1 ?a2 ?l2 ?c2 ?k2 ?a3 ?l3 ?c3 ?k3 ?a4 ?l4 ?c4 ?k4 ?a5 ?l5 ?c5 ?k5 ?a6 ?l6 ?c6 ?k6 ?a7 ?l7 ?c7 ?k7 ?a8 ?l8 ?c8 ?k8 ?a9 ?l9 ?c9 ?k9 ?a10 ?l10 ?c10 ?k10 ?a11 ?l11 ?c11 ?k11 ?a12 ?l12 ?c12 ?k12 ?z0 ?z1 ?z2 ?z3 ?z4 ?z5 ?z6 ?z7 ?z8 ?gk0 ?gk1 ?ee0 ?ee1 ?esp ?etk ?es0 ?et0 ?ed0 ?eq0 ?ep0 ?es1 ?et1 ?ed1 ?eq1 ?ep1 ?hm
    (case a0 => k_is)
    (case l0 => k_is)
    (case c0 => k_is)
    (case k0 => k_is)
    (case a1 => k_is)
    (case l1 => k_is)
    (case c1 => k_is)
    (case k1 => k_is)
    (case a2 => k_is)
    (case l2 => k_is)
    (case c2 => k_is)
    (case k2 => k_is)
    (case a3 => k_is)
    (case l3 => k_is)
    (case c3 => k_is)
    (case k3 => k_is)
    (case a4 => k_is)
    (case l4 => k_is)
    (case c4 => k_is)
    (case k4 => k_is)
    (case a5 => k_is)
    (case l5 => k_is)
    (case c5 => k_is)
    (case k5 => k_is)
    (case a6 => k_is)
    (case l6 => k_is)
    (case c6 => k_is)
    (case k6 => k_is)
    (case a7 => k_is)
    (case l7 => k_is)
    (case c7 => k_is)
    (case k7 => k_is)
    (case a8 => k_is)
    (case l8 => k_is)
    (case c8 => k_is)
    (case k8 => k_is)
    (case a9 => k_is)
    (case l9 => k_is)
    (case c9 => k_is)
    (case k9 => k_is)
    (case a10 => k_is)
    (case l10 => k_is)
    (case c10 => k_is)
    (case k10 => k_is)
    (case a11 => k_is)
    (case l11 => k_is)
    (case c11 => k_is)
    (case k11 => k_is)
    (case a12 => k_is)
    (case l12 => k_is)
    (case c12 => k_is)
    (case k12 => k_is)
    (case z0 => k_is)
    (case z1 => k_is)
    (case z2 => k_is)
    (case z3 => k_is)
    (case z4 => k_is)
    (case z5 => k_is)
    (case z6 => k_is)
    (case z7 => k_is)
    (case z8 => k_is)
    (case gk0 => k_is)
    (case gk1 => k_is)
    (case ee0 => k_is)
    (case ee1 => k_is)
    (case esp => k_is)
    (case etk => k_is)
    (case es0 => k_is)
    (case et0 => k_is)
    (case ed0 => k_is)
    (case eq0 => k_exc)
    (case ep0 => k_is)
    (case es1 => k_is)
    (case et1 => k_is)
    (case ed1 => k_is)
    (case eq1 => k_exc)
    (case ep1 => k_is)
    (case hm => exact Q.math)

