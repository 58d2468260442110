import PyProof.Rows.All
import Wide.All
import OpenK.AllK
import Wide.FinOn
import HandS.ForMost
import HandS.ForExc
import HandS.ExcIs
import HandS.Wide
import HandS.Style
import HandS.Deep
import HandS.IsInst
import HandS.TupLe
import HandS.TupAny
import HandS.SetFor
import HandS.Replace
import HandS.MapJoin
import HandS.ExcValue
import PyProof.TupleOfStr
import KE.GoesZip
import KE.DatumOrd
import KE.SortData
import KE.DataFind
import HandS.Strs
import HandS.DictComp
import KE.KRevSl
import HandS.NoneIn
import PyProof.ReprRoads
import PyProof.NeKinds
import HandS.HotCalls
import KE.KExcStr
import HandS.TupSets
import HandS.Iter
import KE.KEqNest
import HandS.Conv
import KE.KDictList
import HandS.ReplaceLit
import HandS.ReplaceList
import KE.DataCmp
import HandS.TupLen
import HandS.TryOnly
import HandS.More
import PyProof.SumAny
import HandS.MapSum
import PySem.Challenge.RW_tablefind_k04_whole_counts_of_tables
set_option Elab.async false
set_option linter.all false
set_option maxRecDepth 100000
/-! PL1: pure data, what stands for it in the abstract heap, the relation of the pure state. -/
namespace PL
open PySem PySem.Spec PyProof.Rows L2

/-- a text by its code points -/
def S (l : List Nat) : Str := ⟨l.toArray⟩
theorem S_cps (l : List Nat) : (S l).cps.toList = l := rfl
theorem S_of (x : Str) : S x.cps.toList = x := by
  obtain ⟨a⟩ := x
  rfl
theorem S_len (l : List Nat) : (S l).length = l.length := by
  show (l.toArray).size = l.length
  simp
theorem S_add (a b : List Nat) : S a ++ S b = S (a ++ b) := by
  show (⟨a.toArray ++ b.toArray⟩ : Str) = ⟨(a ++ b).toArray⟩
  simp
theorem S_inj {a b : List Nat} (h : S a = S b) : a = b := by
  have := congrArg (fun x : Str => x.cps.toList) h
  simpa [S] using this

inductive D where
  | non | bl (b : Bool) | int (i : Int) | str (x : List Nat)
  | lst (xs : List D) | tup (xs : List D)
  | dK (kvs : List (Key × D)) | dT (kvs : List (List Key × D))
  | exc (n : Str) | fz (xs : List D)
  | mt (xs : List D) | fk (kvs : List (Key × D)) | ft (kvs : List (List Key × D))
  | nw (d : D) | nx (d : D) | ob (n : Str) (fs : List (Str × D)) | ex (n : Str) (x : List Nat)

/-- what of the written part is fixed -/
structure Gc where
  K : PySem.W.Frag
  mg : Str → Option Value

/-- a caught error of the class at c -/
def ExI (c a : Addr) : HO := .ext fun h => ∃ (oe : Obj) (vs : Array Value), h.get? a = some oe ∧ Zc (.ref c) none oe ∧ oe.data = .fields vs

/-- an error of the class at c, made with the one thing of the tuple at t, not raised -/
def ExF (c a t : Addr) : HO := .ext fun h => h.get? a = some { cls := .ref c, data := .fields #[.ref t, .none, .none, .none, .bool false, .none] }
def AtF (g : Gc) (H : Hp) (Av : Addr → Prop) (a : Addr) (vs : List V) : Prop := (∃ o, H a = some (.frz o (.lst vs)) ∧ ¬ Av a) ∨ SqL g.K (fun _ => none) a vs
/-- a tuple that is tracked -/
def AtT (H : Hp) (Av : Addr → Prop) (a : Addr) (vs : List V) : Prop := H a = some (.tup vs) ∧ ¬ Av a

mutual
inductive Rep (g : Gc) (H : Hp) (Av : Addr → Prop) : V → D → Prop
  | non : Rep g H Av .non .non
  | bl (b : Bool) : Rep g H Av (.bl b) (.bl b)
  | int (i : Int) : Rep g H Av (.int i) (.int i)
  | str (x : List Nat) : Rep g H Av (.str (S x)) (.str x)
  | lst {a : Addr} {vs : List V} {ds : List D} : H a = some (.lst vs) → ¬ Av a → RepA g H Av vs ds → Rep g H Av (.ref a) (.lst ds)
  | fz {a : Addr} {vs : List V} {ds : List D} : AtF g H Av a vs → RepA g H Av vs ds → Rep g H Av (.ref a) (.fz ds)
  | tup {a : Addr} {vs : List V} {ds : List D} : AtT H Av a vs → RepA g H Av vs ds → Rep g H Av (.ref a) (.tup ds)
  | dK {a : Addr} {kvs : List (Key × V)} {es : List (Key × D)} : H a = some (.dK kvs) → ¬ Av a → kvs.map (·.1) = es.map (·.1) → RepA g H Av (kvs.map (·.2)) (es.map (·.2)) → Rep g H Av (.ref a) (.dK es)
  | dT {a : Addr} {kvs : List (List Key × V)} {es : List (List Key × D)} : H a = some (.dT kvs) → ¬ Av a → kvs.map (·.1) = es.map (·.1) → RepA g H Av (kvs.map (·.2)) (es.map (·.2)) → Rep g H Av (.ref a) (.dT es)
  | mt {a : Addr} {vs : List V} {ds : List D} : SqT g.K (fun _ => none) a vs → RepA g H Av vs ds → Rep g H Av (.ref a) (.mt ds)
  | fk {a : Addr} {kvs : List (Key × V)} {es : List (Key × D)} : (∃ o, H a = some (.frz o (.dK kvs))) → ¬ Av a → kvs.map (·.1) = es.map (·.1) → RepA g H Av (kvs.map (·.2)) (es.map (·.2)) → Rep g H Av (.ref a) (.fk es)
  | ft {a : Addr} {kvs : List (List Key × V)} {es : List (List Key × D)} : (∃ o, H a = some (.frz o (.dT kvs))) → ¬ Av a → kvs.map (·.1) = es.map (·.1) → RepA g H Av (kvs.map (·.2)) (es.map (·.2)) → Rep g H Av (.ref a) (.ft es)
  | ob {a c dx : Addr} {n : Str} {vs : List (Str × V)} {fs : List (Str × D)} : H a = some (.ins c dx vs) → ¬ Av a → H dx = some (.own a) → ¬ Av dx → g.mg n = some (.ref c) → vs.map (·.1) = fs.map (·.1) → RepA g H Av (vs.map (·.2)) (fs.map (·.2)) → Rep g H Av (.ref a) (.ob n fs)
  | exc {a c : Addr} {n : Str} : H a = some (ExI c a) → ¬ Av a → g.mg n = some (.ref c) → Rep g H Av (.ref a) (.exc n)
  | ex {a c t : Addr} {n : Str} {x : List Nat} : H a = some (ExF c a t) → ¬ Av a → H t = some (.tup [.str (S x)]) → ¬ Av t → g.mg n = some (.ref c) → Rep g H Av (.ref a) (.ex n x)
inductive RepA (g : Gc) (H : Hp) (Av : Addr → Prop) : List V → List D → Prop
  | nil : RepA g H Av [] []
  | cons {v : V} {vs : List V} {d : D} {ds : List D} : Rep g H Av v d → RepA g H Av vs ds → RepA g H Av (v :: vs) (d :: ds)
end

/-- something is tracked there, no tuple -/
def Th (H : Hp) (a : Addr) : Prop := ∃ o, H a = some o ∧ ∀ vs, o ≠ .tup vs
theorem Th.ex {H : Hp} {a : Addr} (h : Th H a) : ∃ o, H a = some o := let ⟨o, e, _⟩ := h; ⟨o, e⟩
theorem Th.up {H H' : Hp} {a : Addr} (h : Th H a) (s : ∀ o, H a = some o → H' a = some o) : Th H' a := let ⟨o, e, n⟩ := h; ⟨o, s o e, n⟩
/-- what is tracked and not owned stays, and is not owned behind -/
def Kp (O : Addr → Prop) (H : Hp) (O' : Addr → Prop) (H' : Hp) : Prop := ∀ a o, H a = some o → ¬ O a → H' a = some o ∧ ¬ O' a
theorem Kp.refl {O : Addr → Prop} {H : Hp} : Kp O H O H := fun _ _ h n => ⟨h, n⟩
theorem Kp.trans {O O1 O2 : Addr → Prop} {H H1 H2 : Hp} (a : Kp O H O1 H1) (b : Kp O1 H1 O2 H2) : Kp O H O2 H2 := fun x o h n => b x o (a x o h n).1 (a x o h n).2
section
variable {g : Gc} {H H' : Hp} {Av Av' : Addr → Prop}
mutual
theorem Rep.kp (k : Kp Av H Av' H') {v : V} : ∀ {d : D}, Rep g H Av v d → Rep g H' Av' v d
  | _, .non => .non
  | _, .bl b => .bl b
  | _, .int i => .int i
  | _, .str x => .str x
  | _, .lst h n r => .lst (k _ _ h n).1 (k _ _ h n).2 (r.kp k)
  | _, .fz h r => .fz (h.elim (fun ⟨o, q, n⟩ => .inl ⟨o, (k _ _ q n).1, (k _ _ q n).2⟩) .inr) (r.kp k)
  | _, .tup h r => .tup (k _ _ h.1 h.2) (r.kp k)
  | _, .mt h r => .mt h (r.kp k)
  | _, .fk ⟨o, h⟩ n e r => .fk ⟨o, (k _ _ h n).1⟩ (k _ _ h n).2 e (r.kp k)
  | _, .ft ⟨o, h⟩ n e r => .ft ⟨o, (k _ _ h n).1⟩ (k _ _ h n).2 e (r.kp k)
  | _, .dK h n e r => .dK (k _ _ h n).1 (k _ _ h n).2 e (r.kp k)
  | _, .dT h n e r => .dT (k _ _ h n).1 (k _ _ h n).2 e (r.kp k)
  | _, .ob h n h2 n2 c e r => .ob (k _ _ h n).1 (k _ _ h n).2 (k _ _ h2 n2).1 (k _ _ h2 n2).2 c e (r.kp k)
  | _, .exc h n e => .exc (k _ _ h n).1 (k _ _ h n).2 e
  | _, .ex h n h2 n2 e => .ex (k _ _ h n).1 (k _ _ h n).2 (k _ _ h2 n2).1 (k _ _ h2 n2).2 e
theorem RepA.kp (k : Kp Av H Av' H') {vs : List V} : ∀ {ds : List D}, RepA g H Av vs ds → RepA g H' Av' vs ds
  | _, .nil => .nil
  | _, .cons h r => .cons (h.kp k) (r.kp k)
end
end
end PL

namespace PL
open PySem PySem.Spec PyProof.Rows L2

/-! ### nested contents of one's own: what stands for the data, and the addresses -/
/-- an object of one's own: its contents stand for the data -/
inductive Cont (g : Gc) (H : Hp) (Av : Addr → Prop) (a : Addr) : D → Prop
  | lst {vs : List V} {ds : List D} : H a = some (.lst vs) → RepA g H Av vs ds → Cont g H Av a (.lst ds)
  | dK {kvs : List (Key × V)} {es : List (Key × D)} : H a = some (.dK kvs) → kvs.map (·.1) = es.map (·.1) → RepA g H Av (kvs.map (·.2)) (es.map (·.2)) → Cont g H Av a (.dK es)
  | dT {kvs : List (List Key × V)} {es : List (List Key × D)} : H a = some (.dT kvs) → kvs.map (·.1) = es.map (·.1) → RepA g H Av (kvs.map (·.2)) (es.map (·.2)) → Cont g H Av a (.dT es)
/-- a thing of one's own, simple or with such things in it -/
def D.isNw : D → Bool
  | .nw _ => true
  | .nx _ => true
  | _ => false
section
variable (g : Gc) (H : Hp) (A : Addr → Prop)
mutual
/-- F: all that is one's own -/
inductive Nst : V → D → List Addr → Prop
  | im {v : V} {d : D} : Rep g H A v d → Nst v d []
  | sim {a : Addr} {d : D} : Cont g H A a d → Nst (.ref a) (.nw d) [a]
  | lst {a : Addr} {vs : List V} {ds : List D} {F : List Addr} : H a = some (.lst vs) → NstA vs ds F → Nst (.ref a) (.nx (.lst ds)) (a :: F)
  | dK {a : Addr} {kvs : List (Key × V)} {es : List (Key × D)} {F : List Addr} : H a = some (.dK kvs) → kvs.map (·.1) = es.map (·.1) → NstA (kvs.map (·.2)) (es.map (·.2)) F → Nst (.ref a) (.nx (.dK es)) (a :: F)
  | dT {a : Addr} {kvs : List (List Key × V)} {es : List (List Key × D)} {F : List Addr} : H a = some (.dT kvs) → kvs.map (·.1) = es.map (·.1) → NstA (kvs.map (·.2)) (es.map (·.2)) F → Nst (.ref a) (.nx (.dT es)) (a :: F)
  | tup {a : Addr} {vs : List V} {ds : List D} {F : List Addr} : H a = some (.tup vs) → ¬ A a → NstA vs ds F → Nst (.ref a) (.nx (.tup ds)) F
  | ob {a c dx : Addr} {n : Str} {vs : List (Str × V)} {fs : List (Str × D)} {F : List Addr} : H a = some (.ins c dx vs) → H dx = some (.own a) → g.mg n = some (.ref c) → vs.map (·.1) = fs.map (·.1) → NstA (vs.map (·.2)) (fs.map (·.2)) F → Nst (.ref a) (.nx (.ob n fs)) (a :: dx :: F)
inductive NstA : List V → List D → List Addr → Prop
  | nil : NstA [] [] []
  | cons {v : V} {d : D} {vs : List V} {ds : List D} {F E : List Addr} : Nst v d F → NstA vs ds E → NstA (v :: vs) (d :: ds) (F ++ E)
end
mutual
/-- the addresses alone -/
inductive Ft : V → D → List Addr → Prop
  | im {v : V} {d : D} : d.isNw = false → Ft v d []
  | sim {a : Addr} {d : D} : Ft (.ref a) (.nw d) [a]
  | lst {a : Addr} {vs : List V} {ds : List D} {F : List Addr} : H a = some (.lst vs) → FtA vs ds F → Ft (.ref a) (.nx (.lst ds)) (a :: F)
  | dK {a : Addr} {kvs : List (Key × V)} {es : List (Key × D)} {F : List Addr} : H a = some (.dK kvs) → FtA (kvs.map (·.2)) (es.map (·.2)) F → Ft (.ref a) (.nx (.dK es)) (a :: F)
  | dT {a : Addr} {kvs : List (List Key × V)} {es : List (List Key × D)} {F : List Addr} : H a = some (.dT kvs) → FtA (kvs.map (·.2)) (es.map (·.2)) F → Ft (.ref a) (.nx (.dT es)) (a :: F)
  | tup {a : Addr} {vs : List V} {ds : List D} {F : List Addr} : H a = some (.tup vs) → FtA vs ds F → Ft (.ref a) (.nx (.tup ds)) F
  | ob {a c dx : Addr} {n : Str} {vs : List (Str × V)} {fs : List (Str × D)} {F : List Addr} : H a = some (.ins c dx vs) → FtA (vs.map (·.2)) (fs.map (·.2)) F → Ft (.ref a) (.nx (.ob n fs)) (a :: dx :: F)
inductive FtA : List V → List D → List Addr → Prop
  | nil : FtA [] [] []
  | cons {v : V} {d : D} {vs : List V} {ds : List D} {F E : List Addr} : Ft v d F → FtA vs ds E → FtA (v :: vs) (d :: ds) (F ++ E)
end
end
section
variable {g : Gc} {H H' : Hp} {A A' : Addr → Prop} {a : Addr} {d : D}
theorem Cont.there {A : Addr → Prop} (c : Cont g H A a d) : ∃ o, H a = some o := by
  cases c with
  | lst h _ => exact ⟨_, h⟩
  | dK h _ _ => exact ⟨_, h⟩
  | dT h _ _ => exact ⟨_, h⟩
theorem Cont.th {A : Addr → Prop} (c : Cont g H A a d) : Th H a := by
  cases c with
  | lst h _ => exact ⟨_, h, fun _ z => nomatch z⟩
  | dK h _ _ => exact ⟨_, h, fun _ z => nomatch z⟩
  | dT h _ _ => exact ⟨_, h, fun _ z => nomatch z⟩
theorem Cont.mono {A B : Addr → Prop} (k : Kp A H B H') (e : H' a = H a) (c : Cont g H A a d) : Cont g H' B a d := by
  cases c with
  | lst h r => exact .lst (e.trans h) (r.kp k)
  | dK h q r => exact .dK (e.trans h) q (r.kp k)
  | dT h q r => exact .dT (e.trans h) q (r.kp k)
theorem Rep.notNw {v : V} {d : D} (h : Rep g H A v d) : d.isNw = false := by cases h <;> rfl
mutual
theorem Ft.det : ∀ {v : V} {d : D} {F E : List Addr}, Ft H v d F → Ft H v d E → F = E
  | _, _, _, _, .im n, k => by cases k <;> first | rfl | (cases n; done)
  | _, _, _, _, .sim, k => by
    cases k with
    | im n => cases n
    | sim => rfl
  | _, _, _, _, .lst e r, k => by
    cases k with
    | im n => cases n
    | lst e2 r2 =>
      rw [e] at e2; cases e2
      rw [FtA.det r r2]
  | _, _, _, _, .dK e r, k => by
    cases k with
    | im n => cases n
    | dK e2 r2 =>
      rw [e] at e2; cases e2
      rw [FtA.det r r2]
  | _, _, _, _, .dT e r, k => by
    cases k with
    | im n => cases n
    | dT e2 r2 =>
      rw [e] at e2; cases e2
      rw [FtA.det r r2]
  | _, _, _, _, .tup e r, k => by
    cases k with
    | im n => cases n
    | tup e2 r2 =>
      rw [e] at e2; cases e2
      rw [FtA.det r r2]
  | _, _, _, _, .ob e r, k => by
    cases k with
    | im n => cases n
    | ob e2 r2 =>
      rw [e] at e2; cases e2
      rw [FtA.det r r2]
theorem FtA.det : ∀ {vs : List V} {ds : List D} {F E : List Addr}, FtA H vs ds F → FtA H vs ds E → F = E
  | _, _, _, _, .nil, .nil => rfl
  | _, _, _, _, .cons r rs, .cons q qs => by rw [Ft.det r q, FtA.det rs qs]
end
mutual
theorem Nst.ft : ∀ {v : V} {d : D} {F : List Addr}, Nst g H A v d F → Ft H v d F
  | _, _, _, .im r => .im r.notNw
  | _, _, _, .sim _ => .sim
  | _, _, _, .lst e r => .lst e (NstA.ft r)
  | _, _, _, .dK e _ r => .dK e (NstA.ft r)
  | _, _, _, .dT e _ r => .dT e (NstA.ft r)
  | _, _, _, .tup e _ r => .tup e (NstA.ft r)
  | _, _, _, .ob e _ _ _ r => .ob e (NstA.ft r)
theorem NstA.ft : ∀ {vs : List V} {ds : List D} {F : List Addr}, NstA g H A vs ds F → FtA H vs ds F
  | _, _, _, .nil => .nil
  | _, _, _, .cons r rs => .cons (Nst.ft r) (NstA.ft rs)
end
mutual
/-- what is not set apart stays, and one's own -/
theorem Nst.mono (k : Kp A H A' H') : ∀ {v : V} {d : D} {F : List Addr}, (∀ a o, a ∈ F → H a = some o → H' a = some o) → Nst g H A v d F → Nst g H' A' v d F
  | _, _, _, s, .im r => .im (r.kp k)
  | _, _, _, s, .sim c => .sim (c.mono k (let ⟨o, e⟩ := c.there; (s _ o (by simp) e).trans e.symm))
  | _, _, _, s, .lst e r => .lst (s _ _ (by simp) e) (NstA.mono k (fun a o m => s a o (List.mem_cons_of_mem _ m)) r)
  | _, _, _, s, .dK e q r => .dK (s _ _ (by simp) e) q (NstA.mono k (fun a o m => s a o (List.mem_cons_of_mem _ m)) r)
  | _, _, _, s, .dT e q r => .dT (s _ _ (by simp) e) q (NstA.mono k (fun a o m => s a o (List.mem_cons_of_mem _ m)) r)
  | _, _, _, s, .tup e n r => .tup (k _ _ e n).1 (k _ _ e n).2 (NstA.mono k s r)
  | _, _, _, s, .ob e e2 c q r => .ob (s _ _ (by simp) e) (s _ _ (by simp) e2) c q (NstA.mono k (fun a o m => s a o (List.mem_cons_of_mem _ (List.mem_cons_of_mem _ m))) r)
theorem NstA.mono (k : Kp A H A' H') : ∀ {vs : List V} {ds : List D} {F : List Addr}, (∀ a o, a ∈ F → H a = some o → H' a = some o) → NstA g H A vs ds F → NstA g H' A' vs ds F
  | _, _, _, s, .nil => .nil
  | _, _, _, s, .cons r rs => .cons (Nst.mono k (fun a o m => s a o (List.mem_append_left _ m)) r) (NstA.mono k (fun a o m => s a o (List.mem_append_right _ m)) rs)
end
mutual
theorem Nst.th : ∀ {v : V} {d : D} {F : List Addr}, Nst g H A v d F → ∀ a, a ∈ F → Th H a
  | _, _, _, .im _ => fun _ m => nomatch m
  | _, _, _, .sim c => fun a m => List.mem_singleton.mp m ▸ c.th
  | _, _, _, .lst e r => fun a m => (List.mem_cons.mp m).elim (fun z => z ▸ ⟨_, e, fun _ z => nomatch z⟩) (NstA.th r a)
  | _, _, _, .dK e q r => fun a m => (List.mem_cons.mp m).elim (fun z => z ▸ ⟨_, e, fun _ z => nomatch z⟩) (NstA.th r a)
  | _, _, _, .dT e q r => fun a m => (List.mem_cons.mp m).elim (fun z => z ▸ ⟨_, e, fun _ z => nomatch z⟩) (NstA.th r a)
  | _, _, _, .tup e n r => NstA.th r
  | _, _, _, .ob e e2 c q r => fun a m => (List.mem_cons.mp m).elim (fun z => z ▸ ⟨_, e, fun _ z => nomatch z⟩) fun m => (List.mem_cons.mp m).elim (fun z => z ▸ ⟨_, e2, fun _ z => nomatch z⟩) (NstA.th r a)
theorem NstA.th : ∀ {vs : List V} {ds : List D} {F : List Addr}, NstA g H A vs ds F → ∀ a, a ∈ F → Th H a
  | _, _, _, .nil => fun _ m => nomatch m
  | _, _, _, .cons r rs => fun a m => (List.mem_append.mp m).elim (Nst.th r a) (NstA.th rs a)
end
end

/-! ### the pure state -/
inductive Slot where
  | no | im (d : D) | ow (d : D) | mu (d : D) | bx (d : D) | mb (d : D)
def Slot.isOwn : Slot → Bool
  | .ow _ => true
  | .mu _ => true
  | .bx _ => true
  | .mb _ => true
  | _ => false
/-- one's own, and simple -/
def Slot.isSim : Slot → Bool
  | .ow _ => true
  | .mu _ => true
  | _ => false
/-- what a slot that holds v owns -/
def Slot.foot (s : Slot) (H : Hp) (v : V) (a : Addr) : Prop := match s with
  | .ow _ => v = .ref a
  | .mu _ => v = .ref a
  | .bx d => ∃ F, Ft H v d F ∧ a ∈ F
  | .mb d => ∃ F, Ft H v d F ∧ a ∈ F
  | _ => False
theorem Slot.foot_own {s : Slot} {H : Hp} {v : V} {a : Addr} (h : s.foot H v a) : s.isOwn = true := by
  cases s <;> first | rfl | exact h.elim
theorem Slot.foot_sim {s : Slot} {H : Hp} {v : V} {a : Addr} (hs : s.isSim = true) : s.foot H v a ↔ v = .ref a := by
  cases s <;> first | exact Iff.rfl | cases hs
abbrev PS0 := List Slot

/-- a def's run: what the callers own, the addresses of the argument that may be changed: a simple thing, a box -/
structure G where
  P : Addr → Prop
  M : Addr
  B : Addr

/-- slot i owns the object at a -/
def OwnAt (τ : PS0) (σ : L2.St) (H : Hp) (i : Nat) (a : Addr) : Prop := ∃ s v, τ[i]? = some s ∧ σ[i]? = some (some v) ∧ s.foot H v a
def Own (τ : PS0) (σ : L2.St) (H : Hp) (a : Addr) : Prop := ∃ i, OwnAt τ σ H i a
def Av (γ : G) (τ : PS0) (σ : L2.St) (H : Hp) (a : Addr) : Prop := γ.P a ∨ Own τ σ H a
def G.with (γ : G) (p : Addr) : G := { γ with P := fun a => γ.P a ∨ a = p }
theorem OwnAt.of {τ : PS0} {σ : L2.St} {H : Hp} {i : Nat} {a : Addr} {s : Slot} (hs : τ[i]? = some s) (ho : s.isSim = true) (hi : σ[i]? = some (some (.ref a))) : OwnAt τ σ H i a :=
  ⟨s, _, hs, hi, (Slot.foot_sim ho).mpr rfl⟩
theorem OwnAt.sim {τ : PS0} {σ : L2.St} {H : Hp} {i : Nat} {a : Addr} {s : Slot} (h : OwnAt τ σ H i a) (hs : τ[i]? = some s) (ho : s.isSim = true) : σ[i]? = some (some (.ref a)) := by
  obtain ⟨s', v, h1, h2, h3⟩ := h
  rw [hs] at h1; cases h1
  rw [(Slot.foot_sim ho).mp h3] at h2
  exact h2

/-- the same, with the values in it, one's own among them -/
def Box (g : Gc) (H : Hp) (A : Addr → Prop) (v : V) (d : D) : Prop := ∃ F, Nst g H A v d F ∧ F.Nodup

structure Rel (g : Gc) (γ : G) (τ : PS0) (σ : L2.St) (H : Hp) : Prop where
  len : σ.length = τ.length
  im : ∀ (i : Nat) (d : D), τ[i]? = some (Slot.im d) → ∃ v : V, σ[i]? = some (some v) ∧ Rep g H (Av γ τ σ H) v d
  ow : ∀ (i : Nat) (d : D), τ[i]? = some (Slot.ow d) → ∃ a : Addr, σ[i]? = some (some (V.ref a)) ∧ Cont g H (Av γ τ σ H) a d
  mu : ∀ (i : Nat) (d : D), τ[i]? = some (Slot.mu d) → σ[i]? = some (some (V.ref γ.M)) ∧ Cont g H (Av γ τ σ H) γ.M d
  bx : ∀ (i : Nat) (d : D), τ[i]? = some (Slot.bx d) → ∃ v : V, σ[i]? = some (some v) ∧ Box g H (Av γ τ σ H) v d
  mb : ∀ (i : Nat) (d : D), τ[i]? = some (Slot.mb d) → σ[i]? = some (some (V.ref γ.B)) ∧ Box g H (Av γ τ σ H) (V.ref γ.B) d
  inj : ∀ (i j : Nat) (a : Addr), OwnAt τ σ H i a → OwnAt τ σ H j a → i = j
  pal : ∀ a, γ.P a → Th H a ∧ ¬ Own τ σ H a

section
variable {g : Gc} {γ : G} {τ τ' : PS0} {σ σ' : L2.St} {H H' : Hp} {a p : Addr} {v : V} {d : D}
theorem Box.mono {A B : Addr → Prop} (k : Kp A H B H') (s : ∀ F, Ft H v d F → ∀ a o, a ∈ F → H a = some o → H' a = some o) (c : Box g H A v d) : Box g H' B v d := by
  obtain ⟨F, n, nd⟩ := c
  exact ⟨F, Nst.mono k (s F n.ft) n, nd⟩
/-- slot i's nested own -/
def NsAt (τ : PS0) (σ : L2.St) (H : Hp) (a : Addr) : Prop := ∃ (i : Nat) (s : Slot) (v : V), τ[i]? = some s ∧ s.isSim = false ∧ σ[i]? = some (some v) ∧ s.foot H v a
theorem NsAt.own (h : NsAt τ σ H a) : Own τ σ H a := let ⟨i, s, v, h1, _, h2, h3⟩ := h; ⟨i, s, v, h1, h2, h3⟩
theorem Rel.box {i : Nat} {s : Slot} (R : Rel g γ τ σ H) (hs : τ[i]? = some s) (ho : s.isOwn = true) (hn : s.isSim = false) (hv : σ[i]? = some (some v)) : ∃ d, (s = .bx d ∨ s = .mb d) ∧ Box g H (Av γ τ σ H) v d := by
  cases s with
  | no => cases ho
  | im d => cases ho
  | ow d => cases hn
  | mu d => cases hn
  | bx d =>
    obtain ⟨w, e1, c⟩ := R.bx i d hs
    rw [hv] at e1; cases e1
    exact ⟨d, .inl rfl, c⟩
  | mb d =>
    obtain ⟨e1, c⟩ := R.mb i d hs
    rw [hv] at e1; cases e1
    exact ⟨d, .inr rfl, c⟩
theorem Rel.ownTh (R : Rel g γ τ σ H) (h : Own τ σ H a) : Th H a := by
  obtain ⟨i, s, v, hs, hv, hf⟩ := h
  cases s with
  | no => exact hf.elim
  | im d => exact hf.elim
  | ow d =>
    obtain ⟨b, e1, c⟩ := R.ow i d hs
    rw [hv] at e1; cases e1
    cases (show V.ref b = V.ref a from hf)
    exact c.th
  | mu d =>
    obtain ⟨e1, c⟩ := R.mu i d hs
    rw [hv] at e1; cases e1
    cases (show V.ref γ.M = V.ref a from hf)
    exact c.th
  | bx d =>
    obtain ⟨F, hF, hm⟩ := hf
    obtain ⟨w, e1, E, n, _⟩ := R.bx i d hs
    rw [hv] at e1; cases e1
    rw [hF.det n.ft] at hm
    exact n.th a hm
  | mb d =>
    obtain ⟨F, hF, hm⟩ := hf
    obtain ⟨e1, E, n, _⟩ := R.mb i d hs
    rw [hv] at e1; cases e1
    rw [hF.det n.ft] at hm
    exact n.th a hm
theorem Rel.ownThere (R : Rel g γ τ σ H) (h : Own τ σ H a) : ∃ o, H a = some o := (R.ownTh h).ex
theorem Rel.avTh (R : Rel g γ τ σ H) (h : Av γ τ σ H a) : Th H a := h.elim (fun q => (R.pal a q).1) R.ownTh
theorem Rel.avThere (R : Rel g γ τ σ H) (h : Av γ τ σ H a) : ∃ o, H a = some o := (R.avTh h).ex
theorem Kp.av {τ1 : PS0} {σ1 : L2.St} (k : Kp (Own τ σ H) H (Own τ1 σ1 H') H') : Kp (Av γ τ σ H) H (Av γ τ1 σ1 H') H' := fun a o h n =>
  ⟨(k a o h fun q => n (.inr q)).1, fun q => q.elim (fun z => n (.inl z)) (k a o h fun q => n (.inr q)).2⟩
/-- fewer are to be avoided -/
theorem Kp.less {A B : Addr → Prop} (h : ∀ a, B a → A a) : Kp A H B H := fun a o e n => ⟨e, fun q => n (h a q)⟩
/-- a new object comes -/
theorem Kp.new {A : Addr → Prop} {o : HO} (hp : H p = none) : Kp A H (fun a => A a ∨ a = p) (upd H p o) := fun a u e n =>
  ⟨by rw [upd_ne (ne_of_none e hp)]; exact e, fun q => q.elim n (ne_of_none e hp)⟩
theorem Same.kp {A B : Addr → Prop} (s : Same H H') (h : ∀ a, B a → A a) : Kp A H B H' := fun a o e n => ⟨s a o e, fun q => n (h a q)⟩
/-- a box whose objects stay is the same box -/
theorem Nst.stay {A : Addr → Prop} {F : List Addr} {e : D} (n : Nst g H A v e F) (k : ∀ a o, H a = some o → ¬ A a ∨ a ∈ F → H' a = some o) : Ft H' v e F := by
  have := Nst.mono (A' := A) (H' := H') (fun a o e q => ⟨k a o e (.inl q), q⟩) (fun a o m e => k a o e (.inr m)) n
  exact this.ft
theorem Slot.foot_same {i : Nat} {s : Slot} (R : Rel g γ τ σ H) (hs : τ[i]? = some s) (hv : σ[i]? = some (some v)) (k : ∀ a o, H a = some o → ¬ Av γ τ σ H a ∨ (s.isSim = false ∧ s.foot H v a) → H' a = some o) : s.foot H' v a ↔ s.foot H v a := by
  cases s with
  | no => exact Iff.rfl
  | im d => exact Iff.rfl
  | ow d => exact Iff.rfl
  | mu d => exact Iff.rfl
  | bx d =>
    obtain ⟨w, e1, F, n, _⟩ := R.bx i d hs
    rw [hv] at e1; cases e1
    have f' := n.stay (H' := H') fun a o e q => k a o e (q.imp id fun m => ⟨rfl, F, n.ft, m⟩)
    constructor
    · rintro ⟨E, hE, m⟩
      rw [hE.det f'] at m
      exact ⟨F, n.ft, m⟩
    · rintro ⟨E, hE, m⟩
      rw [hE.det n.ft] at m
      exact ⟨F, f', m⟩
  | mb d =>
    obtain ⟨e1, F, n, _⟩ := R.mb i d hs
    rw [hv] at e1; cases e1
    have f' := n.stay (H' := H') fun a o e q => k a o e (q.imp id fun m => ⟨rfl, F, n.ft, m⟩)
    constructor
    · rintro ⟨E, hE, m⟩
      rw [hE.det f'] at m
      exact ⟨F, n.ft, m⟩
    · rintro ⟨E, hE, m⟩
      rw [hE.det n.ft] at m
      exact ⟨F, f', m⟩
/-- where the nested ones stay, the same is one's own -/
theorem Rel.ownAt_eq {i : Nat} (R : Rel g γ τ σ H) (k : ∀ a o, H a = some o → ¬ Av γ τ σ H a ∨ NsAt τ σ H a → H' a = some o) : OwnAt τ σ H' i a ↔ OwnAt τ σ H i a := by
  constructor
  · rintro ⟨s, v, hs, hv, hf⟩
    exact ⟨s, v, hs, hv, (Slot.foot_same R hs hv fun a o e q => k a o e (q.imp id fun m => ⟨i, s, v, hs, m.1, hv, m.2⟩)).mp hf⟩
  · rintro ⟨s, v, hs, hv, hf⟩
    exact ⟨s, v, hs, hv, (Slot.foot_same R hs hv fun a o e q => k a o e (q.imp id fun m => ⟨i, s, v, hs, m.1, hv, m.2⟩)).mpr hf⟩
theorem Rel.own_iff (R : Rel g γ τ σ H) (k : ∀ a o, H a = some o → ¬ Av γ τ σ H a ∨ NsAt τ σ H a → H' a = some o) : Own τ σ H' a ↔ Own τ σ H a :=
  ⟨fun ⟨i, h⟩ => ⟨i, (R.ownAt_eq k).mp h⟩, fun ⟨i, h⟩ => ⟨i, (R.ownAt_eq k).mpr h⟩⟩
theorem Rel.own_same (R : Rel g γ τ σ H) (s : Same H H') : Own τ σ H' a ↔ Own τ σ H a := R.own_iff fun a o e _ => s a o e
theorem Rel.av_same (R : Rel g γ τ σ H) (s : Same H H') : Av γ τ σ H' a ↔ Av γ τ σ H a := ⟨fun h => h.imp id (R.own_same s).mp, fun h => h.imp id (R.own_same s).mpr⟩
/-- what is tracked stays where the heap grows -/
theorem Rel.kpS (R : Rel g γ τ σ H) (s : Same H H') : Kp (Own τ σ H) H (Own τ σ H') H' := fun a o e n => ⟨s a o e, fun q => n ((R.own_same s).mp q)⟩

/-- the heap grows, what is owned stays as it is -/
theorem Rel.same (R : Rel g γ τ σ H) (s : Same H H') : Rel g γ τ σ H' := by
  have k : Kp (Av γ τ σ H) H (Av γ τ σ H') H' := (R.kpS s).av
  have ce : ∀ {a d}, Cont g H (Av γ τ σ H) a d → Cont g H' (Av γ τ σ H') a d := fun {a d} c => by
    obtain ⟨o, e⟩ := c.there
    exact c.mono k ((s a o e).trans e.symm)
  have be : ∀ {v d}, Box g H (Av γ τ σ H) v d → Box g H' (Av γ τ σ H') v d := fun {v d} c => c.mono k fun _ _ a o _ e => s a o e
  exact ⟨R.len, fun i d h => let ⟨v, e, r⟩ := R.im i d h; ⟨v, e, r.kp k⟩, fun i d h => let ⟨b, e, c⟩ := R.ow i d h; ⟨b, e, ce c⟩, fun i d h => let ⟨e, c⟩ := R.mu i d h; ⟨e, ce c⟩,
    fun i d h => let ⟨v, e, c⟩ := R.bx i d h; ⟨v, e, be c⟩, fun i d h => let ⟨e, c⟩ := R.mb i d h; ⟨e, be c⟩,
    fun i j a h1 h2 => R.inj i j a ((R.ownAt_eq fun a o e _ => s a o e).mp h1) ((R.ownAt_eq fun a o e _ => s a o e).mp h2),
    fun a h => ⟨(R.pal a h).1.up fun o e => s a o e, fun q => (R.pal a h).2 ((R.own_same s).mp q)⟩⟩
/-- a new object, set apart -/
theorem Rel.newS (R : Rel g γ τ σ H) (hp : H p = none) (s : Same H H') (hp' : Th H' p) : Rel g (γ.with p) τ σ H' := by
  have k : Kp (Av γ τ σ H) H (Av (γ.with p) τ σ H') H' := fun a u e n =>
    ⟨s a u e, fun z => z.elim (fun y => y.elim (fun x => n (.inl x)) (ne_of_none e hp)) fun x => n (.inr ((R.own_same s).mp x))⟩
  have ce : ∀ {a d}, Cont g H (Av γ τ σ H) a d → Cont g H' (Av (γ.with p) τ σ H') a d := fun {a d} c => by
    obtain ⟨u, e⟩ := c.there
    exact c.mono k ((s a u e).trans e.symm)
  have be : ∀ {v d}, Box g H (Av γ τ σ H) v d → Box g H' (Av (γ.with p) τ σ H') v d := fun {v d} c => c.mono k fun _ _ a o _ e => s a o e
  refine ⟨R.len, fun i d h => let ⟨v, e, r⟩ := R.im i d h; ⟨v, e, r.kp k⟩, fun i d h => let ⟨b, e, c⟩ := R.ow i d h; ⟨b, e, ce c⟩, fun i d h => let ⟨e, c⟩ := R.mu i d h; ⟨e, ce c⟩,
    fun i d h => let ⟨v, e, c⟩ := R.bx i d h; ⟨v, e, be c⟩, fun i d h => let ⟨e, c⟩ := R.mb i d h; ⟨e, be c⟩, fun i j a h1 h2 => R.inj i j a ((R.ownAt_eq fun a o e _ => s a o e).mp h1) ((R.ownAt_eq fun a o e _ => s a o e).mp h2), fun a h => ?_⟩
  rcases h with h | h
  · exact ⟨(R.pal a h).1.up fun o e => s a o e, fun q => (R.pal a h).2 ((R.own_same s).mp q)⟩
  · rw [h]
    refine ⟨hp', fun z => ?_⟩
    obtain ⟨u, e⟩ := R.ownThere ((R.own_same s).mp z)
    rw [hp] at e; cases e
/-- less is set apart -/
theorem Rel.drop (R : Rel g (γ.with p) τ σ H) : Rel g γ τ σ H := by
  have k : Kp (Av (γ.with p) τ σ H) H (Av γ τ σ H) H := Kp.less fun a q => q.elim (fun z => .inl (.inl z)) .inr
  exact ⟨R.len, fun i d h => let ⟨v, e, r⟩ := R.im i d h; ⟨v, e, r.kp k⟩, fun i d h => let ⟨b, e, c⟩ := R.ow i d h; ⟨b, e, c.mono k rfl⟩, fun i d h => let ⟨e, c⟩ := R.mu i d h; ⟨e, c.mono k rfl⟩,
    fun i d h => let ⟨v, e, c⟩ := R.bx i d h; ⟨v, e, c.mono k fun _ _ _ _ _ q => q⟩, fun i d h => let ⟨e, c⟩ := R.mb i d h; ⟨e, c.mono k fun _ _ _ _ _ q => q⟩, R.inj, fun a h => R.pal a (.inl h)⟩

/-! ### slots -/
theorem foot_no {s : Slot} (hs : s.isOwn = false) : ¬ s.foot H v a := fun h => by rw [Slot.foot_own h] at hs; cases hs
theorem own_set_im {i : Nat} {s : Slot} {x : Option V} (hs : s.isOwn = false) (h : Own (τ.set i s) (σ.set i x) H a) : Own τ σ H a ∧ ¬ OwnAt (τ.set i s) (σ.set i x) H i a := by
  obtain ⟨j, t, v, ht, hv, hf⟩ := h
  have hji : j ≠ i := fun z => by
    subst z
    by_cases hl : j < τ.length
    · rw [List.getElem?_set_self hl] at ht; cases ht; exact foot_no hs hf
    · rw [List.getElem?_eq_none_iff.mpr (by rw [List.length_set]; omega)] at ht; cases ht
  rw [List.getElem?_set_ne (Ne.symm hji)] at ht hv
  refine ⟨⟨j, t, v, ht, hv, hf⟩, fun ⟨t', v', ht', _, hf'⟩ => ?_⟩
  by_cases hl : i < τ.length
  · rw [List.getElem?_set_self hl] at ht'; cases ht'; exact foot_no hs hf'
  · rw [List.getElem?_eq_none_iff.mpr (by rw [List.length_set]; omega)] at ht'; cases ht'
theorem ownAt_ne {i j : Nat} {s : Slot} {x : Option V} (hji : j ≠ i) : OwnAt (τ.set i s) (σ.set i x) H j a ↔ OwnAt τ σ H j a := by
  unfold OwnAt
  rw [List.getElem?_set_ne (Ne.symm hji), List.getElem?_set_ne (Ne.symm hji)]
theorem ownAt_self_no {i : Nat} {s : Slot} {x : Option V} (hs : s.isOwn = false) : ¬ OwnAt (τ.set i s) (σ.set i x) H i a := fun ⟨t, v, ht, _, hf⟩ => by
  by_cases hl : i < τ.length
  · rw [List.getElem?_set_self hl] at ht; cases ht; exact foot_no hs hf
  · rw [List.getElem?_eq_none_iff.mpr (by rw [List.length_set]; omega)] at ht; cases ht
theorem own_set_sub {i : Nat} {s : Slot} {x : Option V} (hs : s.isOwn = false) (h : Own (τ.set i s) (σ.set i x) H a) : Own τ σ H a := (own_set_im hs h).1
/-- a slot that owns nothing behind: what it held is no longer owned -/
theorem Rel.setNo (R : Rel g γ τ σ H) (i : Nat) (s : Slot) (x : Option V) (hs : s.isOwn = false) (hv : ∀ d, s = .im d → ∃ v, x = some v ∧ Rep g H (Av γ (τ.set i s) (σ.set i x) H) v d) :
    Rel g γ (τ.set i s) (σ.set i x) H ∧ Kp (Own τ σ H) H (Own (τ.set i s) (σ.set i x) H) H := by
  have kO : Kp (Own τ σ H) H (Own (τ.set i s) (σ.set i x) H) H := Kp.less fun a => own_set_sub hs
  have k : Kp (Av γ τ σ H) H (Av γ (τ.set i s) (σ.set i x) H) H := kO.av
  have hji : ∀ {j : Nat} {t : Slot}, (τ.set i s)[j]? = some t → t.isOwn = true → j ≠ i := fun {j t} h ho z => by
    subst z
    by_cases hl : j < τ.length
    · rw [List.getElem?_set_self hl] at h; cases h; rw [hs] at ho; cases ho
    · rw [List.getElem?_eq_none_iff.mpr (by rw [List.length_set]; omega)] at h; cases h
  refine ⟨⟨by rw [List.length_set, List.length_set]; exact R.len, fun j d h => ?_, fun j d h => ?_, fun j d h => ?_, fun j d h => ?_, fun j d h => ?_, fun j l a h1 h2 => ?_, fun a h => ⟨(R.pal a h).1, fun z => (R.pal a h).2 (own_set_sub hs z)⟩⟩, kO⟩
  · by_cases hj : j = i
    · subst hj
      by_cases hl : j < τ.length
      · rw [List.getElem?_set_self hl] at h; cases h
        obtain ⟨v, e, r⟩ := hv d rfl
        exact ⟨v, by rw [List.getElem?_set_self (by rw [R.len]; exact hl), e], r⟩
      · rw [List.getElem?_eq_none_iff.mpr (by rw [List.length_set]; omega)] at h; cases h
    · rw [List.getElem?_set_ne (Ne.symm hj)] at h
      obtain ⟨v, e, r⟩ := R.im j d h
      exact ⟨v, by rw [List.getElem?_set_ne (Ne.symm hj)]; exact e, r.kp k⟩
  · have hj : j ≠ i := hji h rfl
    rw [List.getElem?_set_ne (Ne.symm hj)] at h
    obtain ⟨b, e, c⟩ := R.ow j d h
    exact ⟨b, by rw [List.getElem?_set_ne (Ne.symm hj)]; exact e, c.mono k rfl⟩
  · have hj : j ≠ i := hji h rfl
    rw [List.getElem?_set_ne (Ne.symm hj)] at h
    obtain ⟨e, c⟩ := R.mu j d h
    exact ⟨by rw [List.getElem?_set_ne (Ne.symm hj)]; exact e, c.mono k rfl⟩
  · have hj : j ≠ i := hji h rfl
    rw [List.getElem?_set_ne (Ne.symm hj)] at h
    obtain ⟨b, e, c⟩ := R.bx j d h
    exact ⟨b, by rw [List.getElem?_set_ne (Ne.symm hj)]; exact e, c.mono k fun _ _ _ _ _ q => q⟩
  · have hj : j ≠ i := hji h rfl
    rw [List.getElem?_set_ne (Ne.symm hj)] at h
    obtain ⟨e, c⟩ := R.mb j d h
    exact ⟨by rw [List.getElem?_set_ne (Ne.symm hj)]; exact e, c.mono k fun _ _ _ _ _ q => q⟩
  · have n1 : j ≠ i := fun z => by subst z; exact ownAt_self_no hs h1
    have n2 : l ≠ i := fun z => by subst z; exact ownAt_self_no hs h2
    exact R.inj j l a ((ownAt_ne n1).mp h1) ((ownAt_ne n2).mp h2)
/-- an im value comes to a slot -/
theorem Rel.setIm (R : Rel g γ τ σ H) (i : Nat) (r : Rep g H (Av γ τ σ H) v d) : Rel g γ (τ.set i (.im d)) (σ.set i (some v)) H ∧ Kp (Own τ σ H) H (Own (τ.set i (.im d)) (σ.set i (some v)) H) H :=
  R.setNo i (.im d) (some v) rfl fun d' e => by
    cases e
    refine ⟨v, rfl, r.kp (Kp.less fun a q => ?_)⟩
    exact q.elim .inl fun z => .inr (own_set_sub rfl z)
/-- what is set apart comes to a slot, its own: s holds v -/
theorem Rel.setS {P' : Addr → Prop} {s : Slot} (R : Rel g { γ with P := fun a => γ.P a ∨ P' a } τ σ H) (i : Nat) (hi : i < τ.length) (np : ∀ a, P' a → ¬ γ.P a) (ff : ∀ a, s.foot H v a → P' a)
    (c1 : ∀ d, s = .ow d → ∃ a, v = .ref a ∧ Cont g H (Av { γ with P := fun a => γ.P a ∨ P' a } τ σ H) a d) (c2 : ∀ d, s = .bx d → Box g H (Av { γ with P := fun a => γ.P a ∨ P' a } τ σ H) v d) (c3 : ∀ d, s ≠ .mu d ∧ s ≠ .mb d ∧ s ≠ .im d) :
    Rel g γ (τ.set i s) (σ.set i (some v)) H ∧ Kp (fun a => Own τ σ H a ∨ P' a) H (Own (τ.set i s) (σ.set i (some v)) H) H := by
  have at_i : ∀ {a}, OwnAt (τ.set i s) (σ.set i (some v)) H i a → P' a := fun {a} ⟨t, w, ht, hw, hf⟩ => by
    rw [List.getElem?_set_self hi] at ht; cases ht
    rw [List.getElem?_set_self (by rw [R.len]; exact hi)] at hw; cases hw
    exact ff a hf
  have sub : ∀ a, Own (τ.set i s) (σ.set i (some v)) H a → Own τ σ H a ∨ P' a := fun a ⟨j, h⟩ => by
    by_cases hj : j = i
    · subst hj
      exact .inr (at_i h)
    · exact .inl ⟨j, (ownAt_ne hj).mp h⟩
  have k : Kp (Av { γ with P := fun a => γ.P a ∨ P' a } τ σ H) H (Av γ (τ.set i s) (σ.set i (some v)) H) H := Kp.less fun a q => by
    rcases q with q | q
    · exact .inl (.inl q)
    · rcases sub a q with z | z
      · exact .inr z
      · exact .inl (.inr z)
  have nO : ∀ a, P' a → ¬ Own τ σ H a := fun a h => (R.pal a (.inr h)).2
  refine ⟨⟨by rw [List.length_set, List.length_set]; exact R.len, fun j d' h => ?_, fun j d' h => ?_, fun j d' h => ?_, fun j d' h => ?_, fun j d' h => ?_, fun j l a h1 h2 => ?_, fun a h => ⟨(R.pal a (.inl h)).1, fun z => ?_⟩⟩, Kp.less sub⟩
  · have hj : j ≠ i := fun z => by
      subst z
      rw [List.getElem?_set_self hi] at h
      exact (c3 d').2.2 (Option.some.inj h)
    rw [List.getElem?_set_ne (Ne.symm hj)] at h
    obtain ⟨v, e, r⟩ := R.im j d' h
    exact ⟨v, by rw [List.getElem?_set_ne (Ne.symm hj)]; exact e, r.kp k⟩
  · by_cases hj : j = i
    · subst hj
      rw [List.getElem?_set_self hi] at h
      obtain ⟨b, e, c⟩ := c1 d' (Option.some.inj h)
      exact ⟨b, by rw [List.getElem?_set_self (by rw [R.len]; exact hi), e], c.mono k rfl⟩
    · rw [List.getElem?_set_ne (Ne.symm hj)] at h
      obtain ⟨b, e, c⟩ := R.ow j d' h
      exact ⟨b, by rw [List.getElem?_set_ne (Ne.symm hj)]; exact e, c.mono k rfl⟩
  · have hj : j ≠ i := fun z => by
      subst z
      rw [List.getElem?_set_self hi] at h
      exact (c3 d').1 (Option.some.inj h)
    rw [List.getElem?_set_ne (Ne.symm hj)] at h
    obtain ⟨e, c⟩ := R.mu j d' h
    exact ⟨by rw [List.getElem?_set_ne (Ne.symm hj)]; exact e, c.mono k rfl⟩
  · by_cases hj : j = i
    · subst hj
      rw [List.getElem?_set_self hi] at h
      exact ⟨v, by rw [List.getElem?_set_self (by rw [R.len]; exact hi)], (c2 d' (Option.some.inj h)).mono k fun _ _ _ _ _ q => q⟩
    · rw [List.getElem?_set_ne (Ne.symm hj)] at h
      obtain ⟨b, e, c⟩ := R.bx j d' h
      exact ⟨b, by rw [List.getElem?_set_ne (Ne.symm hj)]; exact e, c.mono k fun _ _ _ _ _ q => q⟩
  · have hj : j ≠ i := fun z => by
      subst z
      rw [List.getElem?_set_self hi] at h
      exact (c3 d').2.1 (Option.some.inj h)
    rw [List.getElem?_set_ne (Ne.symm hj)] at h
    obtain ⟨e, c⟩ := R.mb j d' h
    exact ⟨by rw [List.getElem?_set_ne (Ne.symm hj)]; exact e, c.mono k fun _ _ _ _ _ q => q⟩
  · by_cases hj : j = i
    · by_cases hl : l = i
      · rw [hj, hl]
      · subst hj
        exact absurd ⟨l, (ownAt_ne hl).mp h2⟩ (nO a (at_i h1))
    · by_cases hl : l = i
      · subst hl
        exact absurd ⟨j, (ownAt_ne hj).mp h1⟩ (nO a (at_i h2))
      · exact R.inj j l a ((ownAt_ne hj).mp h1) ((ownAt_ne hl).mp h2)
  · rcases sub a z with y | y
    · exact (R.pal a (.inl h)).2 y
    · exact np a y h
/-- an object that is set apart comes to a slot, its own -/
theorem Rel.setOw (R : Rel g (γ.with p) τ σ H) (i : Nat) (hi : i < τ.length) (np : ¬ γ.P p) (c : Cont g H (Av (γ.with p) τ σ H) p d) :
    Rel g γ (τ.set i (.ow d)) (σ.set i (some (.ref p))) H ∧ Kp (fun a => Own τ σ H a ∨ a = p) H (Own (τ.set i (.ow d)) (σ.set i (some (.ref p))) H) H :=
  Rel.setS (P' := fun a => a = p) (s := .ow d) R i hi (fun a h => h ▸ np) (fun a h => by cases (show V.ref p = V.ref a from h); rfl) (fun d' e => by cases e; exact ⟨p, rfl, c⟩) (fun d' e => nomatch e) fun d' => ⟨fun e => (nomatch e), fun e => (nomatch e), fun e => (nomatch e)⟩

/-- what a slot owns holds other data -/
def Slot.put (s : Slot) (d : D) : Slot := match s with
  | .ow _ => .ow d
  | .mu _ => .mu d
  | s => s
theorem Slot.put_own {s : Slot} {d : D} : (s.put d).isOwn = s.isOwn := by cases s <;> rfl
theorem Slot.put_sim {s : Slot} {d : D} : (s.put d).isSim = s.isSim := by cases s <;> rfl
theorem ownAt_put {i j : Nat} {s : Slot} (hs : τ[i]? = some s) (ho : s.isSim = true) : OwnAt (τ.set i (s.put d)) σ H j a ↔ OwnAt τ σ H j a := by
  have hl : i < τ.length := (List.getElem?_eq_some_iff.mp hs).1
  unfold OwnAt
  by_cases hj : j = i
  · subst hj
    rw [List.getElem?_set_self hl, hs]
    have fe : ∀ v, (s.put d).foot H v a ↔ s.foot H v a := fun v => by rw [Slot.foot_sim ho, Slot.foot_sim (by rw [Slot.put_sim]; exact ho)]
    constructor
    · rintro ⟨t, v, e, q, f⟩
      cases e
      exact ⟨s, v, rfl, q, (fe v).mp f⟩
    · rintro ⟨t, v, e, q, f⟩
      cases e
      exact ⟨_, v, rfl, q, (fe v).mpr f⟩
  · rw [List.getElem?_set_ne (Ne.symm hj)]
/-- the object that slot i owns is written: the same is one's own -/
theorem Rel.put_own (R : Rel g γ τ σ H) {i : Nat} {s : Slot} (hs : τ[i]? = some s) (so : s.isSim = true) (ho : OwnAt τ σ H i a) (k : ∀ b o, b ≠ a → H b = some o → H' b = some o) {b : Addr} :
    Own (τ.set i (s.put d)) σ H' b ↔ Own τ σ H b := by
  have oa : Own τ σ H a := ⟨i, ho⟩
  have kn : ∀ b o, H b = some o → ¬ Av γ τ σ H b ∨ NsAt τ σ H b → H' b = some o := fun b o e q => k b o (fun z => by
    subst z
    rcases q with q | ⟨j, t, w, ht, tn, hw, hf⟩
    · exact q (.inr oa)
    · have : j = i := R.inj j i b ⟨t, w, ht, hw, hf⟩ ho
      subst this
      rw [hs] at ht; cases ht
      rw [so] at tn; cases tn) e
  exact ⟨fun ⟨j, h⟩ => ⟨j, ((ownAt_put hs so).trans (R.ownAt_eq kn)).mp h⟩, fun ⟨j, h⟩ => ⟨j, ((ownAt_put hs so).trans (R.ownAt_eq kn)).mpr h⟩⟩
/-- the object that slot i owns is written; all else that is tracked stays -/
theorem Rel.put (R : Rel g γ τ σ H) {i : Nat} {s : Slot} (hs : τ[i]? = some s) (so : s.isSim = true) (ho : OwnAt τ σ H i a) (k : ∀ b o, b ≠ a → H b = some o → H' b = some o) (c : Cont g H' (Av γ τ σ H) a d) :
    Rel g γ (τ.set i (s.put d)) σ H' ∧ Kp (Own τ σ H) H (Own (τ.set i (s.put d)) σ H') H' := by
  have hl : i < τ.length := (List.getElem?_eq_some_iff.mp hs).1
  have oa : Own τ σ H a := ⟨i, ho⟩
  have ia := ho.sim hs so
  -- the nested ones stay
  have kn : ∀ b o, H b = some o → ¬ Av γ τ σ H b ∨ NsAt τ σ H b → H' b = some o := fun b o e q => k b o (fun z => by
    subst z
    rcases q with q | ⟨j, t, w, ht, tn, hw, hf⟩
    · exact q (.inr oa)
    · have : j = i := R.inj j i b ⟨t, w, ht, hw, hf⟩ ho
      subst this
      rw [hs] at ht; cases ht
      rw [so] at tn; cases tn) e
  have oe : ∀ {j b}, OwnAt (τ.set i (s.put d)) σ H' j b ↔ OwnAt τ σ H j b := fun {j b} => (ownAt_put hs so).trans (R.ownAt_eq kn)
  have oE : ∀ {b}, Own (τ.set i (s.put d)) σ H' b ↔ Own τ σ H b := fun {b} => ⟨fun ⟨j, h⟩ => ⟨j, oe.mp h⟩, fun ⟨j, h⟩ => ⟨j, oe.mpr h⟩⟩
  have kO : Kp (Own τ σ H) H (Own (τ.set i (s.put d)) σ H') H' := fun b o e n => ⟨k b o (fun z => n (z ▸ oa)) e, fun q => n (oE.mp q)⟩
  have kA : Kp (Av γ τ σ H) H (Av γ (τ.set i (s.put d)) σ H') H' := kO.av
  have sub : Kp (Av γ τ σ H) H' (Av γ (τ.set i (s.put d)) σ H') H' := Kp.less fun b q => q.elim .inl fun z => .inr (oE.mp z)
  have ce : ∀ {b d2}, b ≠ a → Cont g H (Av γ τ σ H) b d2 → Cont g H' (Av γ (τ.set i (s.put d)) σ H') b d2 := fun {b d2} hb c => by
    obtain ⟨u, e⟩ := c.there
    exact c.mono kA ((k b u hb e).trans e.symm)
  have self : ∀ {j b}, OwnAt τ σ H j b → j ≠ i → b ≠ a := fun {j b} h hj z => hj (R.inj j i a (z ▸ h) ho)
  refine ⟨⟨by rw [List.length_set]; exact R.len, fun j d' h => ?_, fun j d' h => ?_, fun j d' h => ?_, fun j d' h => ?_, fun j d' h => ?_, fun j l b h1 h2 => R.inj j l b (oe.mp h1) (oe.mp h2), fun b h => ?_⟩, kO⟩
  · have hj : j ≠ i := fun z => by
      subst z
      rw [List.getElem?_set_self hl] at h
      cases s with
      | ow _ => cases h
      | mu _ => cases h
      | _ => cases so
    rw [List.getElem?_set_ne (Ne.symm hj)] at h
    obtain ⟨v, e, r⟩ := R.im j d' h
    exact ⟨v, e, r.kp kA⟩
  · by_cases hj : j = i
    · subst hj
      rw [List.getElem?_set_self hl] at h
      cases s with
      | ow d0 => cases h; exact ⟨a, ia, c.mono sub rfl⟩
      | mu _ => cases h
      | _ => cases so
    · rw [List.getElem?_set_ne (Ne.symm hj)] at h
      obtain ⟨b, e, c'⟩ := R.ow j d' h
      exact ⟨b, e, ce (self (.of h rfl e) hj) c'⟩
  · by_cases hj : j = i
    · subst hj
      rw [List.getElem?_set_self hl] at h
      cases s with
      | mu d0 =>
        cases h
        have e := (R.mu j d0 hs).1
        have e2 := ia
        rw [e] at e2; cases e2
        exact ⟨e, c.mono sub rfl⟩
      | ow _ => cases h
      | _ => cases so
    · rw [List.getElem?_set_ne (Ne.symm hj)] at h
      obtain ⟨e, c'⟩ := R.mu j d' h
      exact ⟨e, ce (self (.of h rfl e) hj) c'⟩
  · have hj : j ≠ i := fun z => by
      subst z
      rw [List.getElem?_set_self hl] at h
      cases s with
      | ow _ => cases h
      | mu _ => cases h
      | _ => cases so
    rw [List.getElem?_set_ne (Ne.symm hj)] at h
    obtain ⟨w, e, c'⟩ := R.bx j d' h
    exact ⟨w, e, c'.mono kA fun F hF b o m e2 => kn b o e2 (.inr ⟨j, _, w, h, rfl, e, F, hF, m⟩)⟩
  · have hj : j ≠ i := fun z => by
      subst z
      rw [List.getElem?_set_self hl] at h
      cases s with
      | ow _ => cases h
      | mu _ => cases h
      | _ => cases so
    rw [List.getElem?_set_ne (Ne.symm hj)] at h
    obtain ⟨e, c'⟩ := R.mb j d' h
    exact ⟨e, c'.mono kA fun F hF b o m e2 => kn b o e2 (.inr ⟨j, _, _, h, rfl, e, F, hF, m⟩)⟩
  · obtain ⟨t, n⟩ := R.pal b h
    exact ⟨t.up fun o e => k b o (fun z => n (z ▸ oa)) e, fun q => n (oE.mp q)⟩
end
end PL

namespace PL
open PySem PySem.Spec PyProof.Rows L2

/-! ### the pure runs -/
inductive Res (α : Type) where
  | ok (a : α) (τ : PS0) | exc (n : Str) (τ : PS0) | stuck
abbrev M (α : Type) := PS0 → Res α
def ret {α : Type} (a : α) : M α := fun τ => .ok a τ
def andThen {α β : Type} (x : M α) (f : α → M β) : M β := fun τ => match x τ with
  | .ok a τ' => f a τ'
  | .exc n τ' => .exc n τ'
  | .stuck => .stuck
def lift {α : Type} (o : Option α) : M α := fun τ => match o with
  | some a => .ok a τ
  | none => .stuck
def Fit {α : Type} (x : Res α) (p : α → PS0 → Prop) (q : Str → PS0 → Prop) : Prop := match x with
  | .ok a τ => p a τ
  | .exc n τ => q n τ
  | .stuck => False
theorem Fit.mono {α : Type} {x : Res α} {p p' : α → PS0 → Prop} {q q' : Str → PS0 → Prop} (h : Fit x p q) (hp : ∀ a τ, p a τ → p' a τ) (hq : ∀ n τ, q n τ → q' n τ) : Fit x p' q' := by
  cases x with
  | ok a τ => exact hp a τ h
  | exc n τ => exact hq n τ h
  | stuck => exact h
theorem fit_bind {α β : Type} {x : M α} {f : α → M β} {τ : PS0} {p : β → PS0 → Prop} {q : Str → PS0 → Prop} : Fit (andThen x f τ) p q ↔ Fit (x τ) (fun a τ' => Fit (f a τ') p q) q := by
  unfold andThen
  cases x τ <;> rfl
theorem fit_lift {α : Type} {o : Option α} {τ : PS0} {p : α → PS0 → Prop} {q : Str → PS0 → Prop} : Fit (lift o τ) p q ↔ ∃ a, o = some a ∧ p a τ := by
  unfold lift
  cases o with
  | none => exact ⟨fun h => h.elim, fun ⟨_, e, _⟩ => nomatch e⟩
  | some a => exact ⟨fun h => ⟨a, rfl, h⟩, fun ⟨_, e, h⟩ => by cases e; exact h⟩
/-- what a value is: fixed; one's own, but looked at; new -/
inductive Kd where | im | ln | fr
  deriving DecidableEq
/-- read, not kept: it may be one's own -/
def LRep (g : Gc) (H : Hp) (A : Addr → Prop) (v : V) (d : D) : Prop := Rep g H A v d ∨ ∃ a, v = .ref a ∧ Cont g H A a d
def VRep (k : Kd) (g : Gc) (H : Hp) (A : Addr → Prop) (v : V) (d : D) : Prop := match k with
  | .ln => LRep g H A v d
  | _ => Rep g H A v d
theorem VRep.l {k : Kd} {g : Gc} {H : Hp} {A : Addr → Prop} {v : V} {d : D} (h : VRep k g H A v d) : LRep g H A v d := by
  cases k with
  | ln => exact h
  | im => exact .inl h
  | fr => exact .inl h

/-- behind an expression (or a return) -/
def PostE (k : Kd) (g : Gc) (γ : G) (τ : PS0) (σ : L2.St) (H : Hp) (τ' : PS0) (σ' : L2.St) (H' : Hp) (v : V) (d : D) : Prop := match k with
  | .im => Rel g γ τ' σ' H' ∧ Kp (Own τ σ H) H (Own τ' σ' H') H' ∧ Rep g H' (Av γ τ' σ' H') v d
  | .ln => Rel g γ τ' σ' H' ∧ Kp (Own τ σ H) H (Own τ' σ' H') H' ∧ LRep g H' (Av γ τ' σ' H') v d
  | .fr => ∃ p, v = .ref p ∧ Rel g (γ.with p) τ' σ' H' ∧ ¬ γ.P p ∧ Kp (Own τ σ H) H (fun a => Own τ' σ' H' a ∨ a = p) H' ∧ Cont g H' (Av (γ.with p) τ' σ' H') p d
/-- .. a new one with new ones in it -/
def G.withs (γ : G) (P' : Addr → Prop) : G := { γ with P := fun a => γ.P a ∨ P' a }
def PostN (g : Gc) (γ : G) (τ : PS0) (σ : L2.St) (H : Hp) (τ' : PS0) (σ' : L2.St) (H' : Hp) (v : V) (d : D) : Prop :=
  ∃ F : List Addr, Rel g (γ.withs (· ∈ F)) τ' σ' H' ∧ (∀ a, a ∈ F → ¬ γ.P a) ∧ Kp (Own τ σ H) H (fun a => Own τ' σ' H' a ∨ a ∈ F) H' ∧ Nst g H' (Av (γ.withs (· ∈ F)) τ' σ' H') v d F ∧ F.Nodup
/-- what a def gives -/
inductive Rk where | im | ln | fr | nb
@[reducible] def Kd.r : Kd → Rk
  | .im => .im
  | .ln => .ln
  | .fr => .fr
def PostR (k : Rk) (g : Gc) (γ : G) (τ : PS0) (σ : L2.St) (H : Hp) (τ' : PS0) (σ' : L2.St) (H' : Hp) (v : V) (d : D) : Prop := match k with
  | .im => PostE .im g γ τ σ H τ' σ' H' v d
  | .ln => PostE .ln g γ τ σ H τ' σ' H' v d
  | .fr => PostE .fr g γ τ σ H τ' σ' H' v d
  | .nb => PostN g γ τ σ H τ' σ' H' v d

section
variable {g : Gc} {γ : G} {τ τ' τ1 τ2 : PS0} {σ σ' : L2.St} {H H' H1 H2 : Hp} {a p : Addr} {v : V} {d : D} {k : Kd}
theorem PostE.r (h : PostE k g γ τ σ H τ' σ' H' v d) : PostR k.r g γ τ σ H τ' σ' H' v d := by cases k <;> exact h
/-- a content that is set apart, taken as it is -/
theorem Cont.rep {A : Addr → Prop} (n : ¬ A a) (c : Cont g H A a d) : Rep g H A (.ref a) d := by
  cases c with
  | lst h r => exact .lst h n r
  | dK h e r => exact .dK h n e r
  | dT h e r => exact .dT h n e r
theorem PostE.toIm (h : PostE .fr g γ τ σ H τ' σ' H' v d) : PostE .im g γ τ σ H τ' σ' H' v d := by
  obtain ⟨p, rfl, R, np, kp, c⟩ := h
  have nO : ¬ Own τ' σ' H' p := (R.pal p (.inr rfl)).2
  have k1 : Kp (Av (γ.with p) τ' σ' H') H' (Av γ τ' σ' H') H' := Kp.less fun a q => q.elim (fun z => .inl (.inl z)) .inr
  exact ⟨R.drop, kp.trans (Kp.less fun a q => .inl q), (c.mono k1 rfl).rep fun q => q.elim np nO⟩
theorem PostE.val (h : PostE k g γ τ σ H τ' σ' H' v d) : Rel g γ τ' σ' H' ∧ Kp (Own τ σ H) H (Own τ' σ' H') H' ∧ VRep k g H' (Av γ τ' σ' H') v d := by
  cases k with
  | im => exact h
  | ln => exact h
  | fr => exact h.toIm
theorem PostE.ln (h : PostE k g γ τ σ H τ' σ' H' v d) : PostE .ln g γ τ σ H τ' σ' H' v d := ⟨h.val.1, h.val.2.1, h.val.2.2.l⟩
theorem PostE.pre (k0 : Kp (Own τ σ H) H (Own τ1 σ' H1) H1) (h : PostE k g γ τ1 σ' H1 τ' σ' H' v d) : PostE k g γ τ σ H τ' σ' H' v d := by
  cases k with
  | im => exact ⟨h.1, k0.trans h.2.1, h.2.2⟩
  | ln => exact ⟨h.1, k0.trans h.2.1, h.2.2⟩
  | fr =>
    obtain ⟨p, e, R, np, kp, c⟩ := h
    exact ⟨p, e, R, np, k0.trans kp, c⟩
theorem PostE.pre' {σ1 : L2.St} (k0 : Kp (Own τ σ H) H (Own τ1 σ1 H1) H1) (h : PostE k g γ τ1 σ1 H1 τ' σ' H' v d) : PostE k g γ τ σ H τ' σ' H' v d := by
  cases k with
  | im => exact ⟨h.1, k0.trans h.2.1, h.2.2⟩
  | ln => exact ⟨h.1, k0.trans h.2.1, h.2.2⟩
  | fr =>
    obtain ⟨p, e, R, np, kp, c⟩ := h
    exact ⟨p, e, R, np, k0.trans kp, c⟩
theorem PostN.pre' {σ1 : L2.St} (k0 : Kp (Own τ σ H) H (Own τ1 σ1 H1) H1) (h : PostN g γ τ1 σ1 H1 τ' σ' H' v d) : PostN g γ τ σ H τ' σ' H' v d := by
  obtain ⟨F, R, np, kp, n, nd⟩ := h
  exact ⟨F, R, np, k0.trans kp, n, nd⟩
theorem PostR.pre' {σ1 : L2.St} {k : Rk} (k0 : Kp (Own τ σ H) H (Own τ1 σ1 H1) H1) (h : PostR k g γ τ1 σ1 H1 τ' σ' H' v d) : PostR k g γ τ σ H τ' σ' H' v d := by
  cases k with
  | nb => exact PostN.pre' k0 h
  | im => exact PostE.pre' (k := .im) k0 h
  | ln => exact PostE.pre' (k := .ln) k0 h
  | fr => exact PostE.pre' (k := .fr) k0 h
theorem LRep.same (s : Same H H') {A A' : Addr → Prop} (h : ∀ a, A' a → A a) (r : LRep g H A v d) : LRep g H' A' v d := by
  have k : Kp A H A' H' := Same.kp s h
  rcases r with r | ⟨a, e, c⟩
  · exact .inl (r.kp k)
  · obtain ⟨o, q⟩ := c.there
    exact .inr ⟨a, e, c.mono k ((s a o q).trans q.symm)⟩

/-! ### readings -/
def XW (g : Gc) (W : WX) (γ : G) (τ : PS0) (σ : L2.St) (H : Hp) : Str → PS0 → Prop := fun n τ' => ∀ H', Rel g γ τ' σ H' → Kp (Own τ σ H) H (Own τ' σ H') H' → ∀ c, g.mg n = some (.ref c) → W (.ref c) none σ H'
theorem XW.pre {W : WX} {n : Str} (k : Kp (Own τ σ H) H (Own τ1 σ H1) H1) (h : XW g W γ τ σ H n τ') : XW g W γ τ1 σ H1 n τ' := fun H' R k' c hc => h H' R (k.trans k') c hc
def tE (g : Gc) (W : WX) (k : Kd) (m : Bool) (f : M D) : TE := fun σ H Q => ∃ γ τ, Rel g γ τ σ H ∧ Fit (f τ) (fun d τ' => ∀ v H', (m = false → Same H H') → PostE k g γ τ σ H τ' σ H' v d → Q v H') (XW g W γ τ σ H)
def tT (g : Gc) (W : WX) (m : Bool) (f : M Bool) : TT := fun σ H Q => ∃ γ τ, Rel g γ τ σ H ∧ Fit (f τ) (fun b τ' => ∀ H', (m = false → Same H H') → Rel g γ τ' σ H' → Kp (Own τ σ H) H (Own τ' σ H') H' → Q b H') (XW g W γ τ σ H)
def tA (g : Gc) (W : WX) (m : Bool) (f : M (List D)) : TA := fun σ H Q => ∃ γ τ, Rel g γ τ σ H ∧ Fit (f τ) (fun ds τ' => ∀ vs H', (m = false → Same H H') → Rel g γ τ' σ H' → Kp (Own τ σ H) H (Own τ' σ H') H' → RepA g H' (Av γ τ' σ H') vs ds → Q vs H') (XW g W γ τ σ H)
end
end PL

namespace L2
open PySem PySem.Spec PyProof.Rows
abbrev Cx.g (X : Cx) : PL.Gc := ⟨X.K, X.mg⟩
theorem PE.weak {X : Cx} {e : Expr} {t t' : TE} (h : PE X e t) (w : ∀ σ H Q, t' σ H Q → t σ H Q) : PE X e t' := ⟨fun pins s σ H Q I q => h.run pins s σ H Q I (w σ H Q q)⟩
theorem PT.weak {X : Cx} {e : Expr} {t t' : TT} (h : PT X e t) (w : ∀ σ H Q, t' σ H Q → t σ H Q) : PT X e t' := ⟨fun pins s σ H Q I q => h.run pins s σ H Q I (w σ H Q q)⟩
theorem PW.weak {X : Cx} {e : Expr} {t t' : TT} (h : PW X e t) (w : ∀ σ H Q, t' σ H Q → t σ H Q) : PW X e t' := ⟨fun wh pins s σ H Q I q => h.run wh pins s σ H Q I (w σ H Q q)⟩
theorem PA.weak {X : Cx} {e : List Expr} {t t' : TA} (h : PA X e t) (w : ∀ σ H Q, t' σ H Q → t σ H Q) : PA X e t' := ⟨fun pos pins s σ H Q I q => h.run pos pins s σ H Q I (w σ H Q q)⟩
theorem PS.weak {X : Cx} {e : Stmt} {t t' : TS} (h : PS X e t) (w : ∀ D σ H, t' D σ H → t D σ H) : PS X e t' := ⟨fun pins s σ H D I q => h.run pins s σ H D I (w D σ H q)⟩
theorem PSs.weak {X : Cx} {e : List Stmt} {t t' : TS} (h : PSs X e t) (w : ∀ D σ H, t' D σ H → t D σ H) : PSs X e t' := ⟨fun pins s σ H D I q => h.run pins s σ H D I (w D σ H q)⟩
theorem PI.weak {X : Cx} {tg e : Expr} {t t' : TI} (h : PI X tg e t) (w : ∀ σ H Q, t' σ H Q → t σ H Q) : PI X tg e t' := ⟨fun pins s σ H Q I q => h.run pins s σ H Q I (w σ H Q q)⟩
end L2

namespace PL
open PySem PySem.Spec PyProof.Rows L2
abbrev JE (X : Cx) (W : WX) (k : Kd) (m : Bool) (e : Expr) (f : M D) : Prop := PE X e (tE X.g W k m f)
abbrev JT (X : Cx) (W : WX) (m : Bool) (e : Expr) (f : M Bool) : Prop := PT X e (tT X.g W m f)
abbrev JW (X : Cx) (W : WX) (m : Bool) (e : Expr) (f : M Bool) : Prop := PW X e (tT X.g W m f)
abbrev JA (X : Cx) (W : WX) (m : Bool) (es : List Expr) (f : M (List D)) : Prop := PA X es (tA X.g W m f)

/-- what an operation gives, over the heap H with what is one's own in A -/
def Out (k : Kd) (g : Gc) (H : Hp) (A : Addr → Prop) (H' : Hp) (v : V) (d : D) : Prop := Same H H' ∧ match k with
  | .fr => ∃ p, v = .ref p ∧ H p = none ∧ Cont g H' (fun a => A a ∨ a = p) p d
  | _ => Rep g H' A v d
section
variable {X : Cx} {W : WX} {g : Gc} {γ : G} {τ τ' τ1 τ2 : PS0} {σ σ' : L2.St} {H H' H1 H2 : Hp} {a p : Addr} {v : V} {d : D} {k k1 k2 kr : Kd} {m m1 m2 : Bool} {e e1 e2 : Expr} {f fa fb : M D}
theorem PostE.of_out (R : Rel g γ τ' σ H1) (k0 : Kp (Own τ σ H) H (Own τ' σ H1) H1) (hk : kr ≠ .ln) (o : Out kr g H1 (Av γ τ' σ H1) H' v d) : PostE kr g γ τ σ H τ' σ H' v d := by
  obtain ⟨s, o⟩ := o
  cases kr with
  | ln => exact absurd rfl hk
  | im => exact ⟨R.same s, k0.trans (R.kpS s), Rep.kp (Kp.less fun a q => (R.av_same s).mp q) o⟩
  | fr =>
    obtain ⟨p, rfl, np, c⟩ := o
    have nP : ¬ γ.P p := fun q => by
      obtain ⟨u, e⟩ := (R.pal p q).1.ex
      rw [np] at e; cases e
    refine ⟨p, rfl, R.newS np s c.th, nP, k0.trans fun b u e n => ⟨s b u e, fun z => z.elim (fun q => n ((R.own_same s).mp q)) (ne_of_none e np)⟩, c.mono (Kp.less fun a q => ?_) rfl⟩
    exact q.elim (fun z => z.elim (fun y => .inl (.inl y)) .inr) fun z => .inl (.inr ((R.own_same s).mp z))

/-- what a value stands for, behind a further expression -/
theorem carry (hk : k1 ≠ .ln ∨ m2 = false) (h : VRep k1 g H1 (Av γ τ1 σ H1) v d) (s : m2 = false → Same H1 H2) (kp : Kp (Own τ1 σ H1) H1 (Own τ2 σ H2) H2) : VRep k1 g H2 (Av γ τ2 σ H2) v d := by
  have kA : Kp (Av γ τ1 σ H1) H1 (Av γ τ2 σ H2) H2 := kp.av
  by_cases hl : k1 = .ln
  · subst hl
    have s := s (hk.resolve_left fun z => z rfl)
    rcases h with h | ⟨a, e, c⟩
    · exact .inl (h.kp kA)
    · obtain ⟨o, q⟩ := c.there
      exact .inr ⟨a, e, c.mono kA ((s a o q).trans q.symm)⟩
  · cases k1 with
    | ln => exact absurd rfl hl
    | im => exact Rep.kp kA h
    | fr => exact Rep.kp kA h
theorem or_same {H H1 H2 : Hp} (a : m1 = false → Same H H1) (b : m2 = false → Same H1 H2) (h : (m1 || m2) = false) : Same H H2 := by
  rw [Bool.or_eq_false_iff] at h
  exact (a h.1).trans (b h.2)
theorem tE_bin (hk : k1 ≠ .ln ∨ m2 = false) {Kc : V → V → Hp → Prop} (R : Rel g γ τ σ H)
    (h : Fit (fa τ) (fun d τ1 => Fit (fb τ1) (fun e τ2 => ∀ x y H2, ((m1 || m2) = false → Same H H2) → Rel g γ τ2 σ H2 → Kp (Own τ σ H) H (Own τ2 σ H2) H2 → VRep k1 g H2 (Av γ τ2 σ H2) x d → VRep k2 g H2 (Av γ τ2 σ H2) y e → Kc x y H2) (XW g W γ τ σ H)) (XW g W γ τ σ H)) :
    tE g W k1 m1 fa σ H (fun x H1 => tE g W k2 m2 fb σ H1 (fun y H2 => Kc x y H2)) := by
  refine ⟨γ, τ, R, h.mono (fun d τ1 h x H1 s1 P1 => ?_) fun _ _ q => q⟩
  obtain ⟨R1, kp1, V1⟩ := P1.val
  refine ⟨γ, τ1, R1, h.mono (fun e τ2 h y H2 s2 P2 => ?_) fun _ _ q => q.pre kp1⟩
  obtain ⟨R2, kp2, V2⟩ := P2.val
  exact h x y H2 (or_same s1 s2) R2 (kp1.trans kp2) (carry hk V1 s2 kp2) V2

/-! ### coercions -/
theorem JE.im (h : JE X W .fr m e f) : JE X W .im m e f := h.weak fun σ H Q ⟨γ, τ, R, q⟩ => ⟨γ, τ, R, q.mono (fun d τ' z v H' s P => z v H' s P.toIm) fun _ _ z => z⟩
theorem JE.ln (h : JE X W k m e f) : JE X W .ln m e f := h.weak fun σ H Q ⟨γ, τ, R, q⟩ => ⟨γ, τ, R, q.mono (fun d τ' z v H' s P => z v H' s P.ln) fun _ _ z => z⟩
theorem JE.mt (h : JE X W k m e f) : JE X W k true e f := h.weak fun σ H Q ⟨γ, τ, R, q⟩ => ⟨γ, τ, R, q.mono (fun d τ' z v H' _ P => z v H' (fun z => nomatch z) P) fun _ _ z => z⟩

/-! ### names and constants -/
theorem je_c {v : V} (h : PE X e (tC v)) (r : ∀ H A, Rep X.g H A v d) : JE X W .im false e (ret d) := h.weak fun σ H Q ⟨γ, τ, R, q⟩ => q v H (fun _ => Same.refl H) ⟨R, Kp.refl, r _ _⟩
theorem je_int {i j pos} : JE X W .im false (.Constant (.int i) j pos) (ret (.int i)) := je_c pe_int fun _ _ => .int i
theorem je_bl {b j pos} : JE X W .im false (.Constant (.bool b) j pos) (ret (.bl b)) := je_c pe_bl fun _ _ => .bl b
theorem je_str {x : Str} {j pos} {l : List Nat} (h : x = S l := by rfl) : JE X W .im false (.Constant (.str x) j pos) (ret (.str l)) := je_c pe_str fun _ _ => h ▸ .str l
/-- the slot's data; what was one's own is given away -/
def rd (i : Nat) : M D := fun τ => match τ[i]? with
  | some (.im d) => .ok d τ
  | some (.ow d) => .ok d (τ.set i (.im d))
  | _ => .stuck
def look (i : Nat) : M D := fun τ => match τ[i]? with
  | some (.im d) => .ok d τ
  | some (.ow d) => .ok d τ
  | some (.mu d) => .ok d τ
  | _ => .stuck
/-- taken out of its slot -/
def move (i : Nat) : M D := fun τ => match τ[i]? with
  | some (.ow d) => .ok d (τ.set i .no)
  | _ => .stuck
theorem Rel.give {i : Nat} (R : Rel g γ τ σ H) (h : τ[i]? = some (.ow d)) {a : Addr} (ha : σ[i]? = some (some (.ref a))) (c : Cont g H (Av γ τ σ H) a d) (s : Slot) (hs : s = .no ∨ s = .im d) :
    Rel g γ (τ.set i s) σ H ∧ Kp (Own τ σ H) H (Own (τ.set i s) σ H) H ∧ ¬ Av γ (τ.set i s) σ H a ∧ Kp (Av γ τ σ H) H (Av γ (τ.set i s) σ H) H := by
  have es : σ.set i (some (.ref a)) = σ := by
    apply List.ext_getElem?
    intro j
    by_cases hj : j = i
    · subst hj
      have hl : j < σ.length := (List.getElem?_eq_some_iff.mp ha).1
      rw [List.getElem?_set_self hl, ha]
    · rw [List.getElem?_set_ne (Ne.symm hj)]
  have hso : s.isOwn = false := by rcases hs with rfl | rfl <;> rfl
  have oi : OwnAt τ σ H i a := .of h rfl ha
  have nO : ¬ Own (τ.set i s) σ H a := fun z => by
    rw [← es] at z
    obtain ⟨j, q⟩ := z
    by_cases hj : j = i
    · subst hj; exact ownAt_self_no hso q
    · exact hj (R.inj j i a ((ownAt_ne hj).mp q) oi)
  have nP : ¬ γ.P a := fun z => (R.pal a z).2 ⟨i, oi⟩
  have nA : ¬ Av γ (τ.set i s) σ H a := fun z => z.elim nP nO
  have kO : Kp (Own τ σ H) H (Own (τ.set i s) σ H) H := Kp.less fun b q => by
    rw [← es] at q
    exact own_set_sub hso q
  have := R.setNo i s (some (.ref a)) hso fun d' e => by
    rcases hs with rfl | rfl
    · cases e
    · cases e
      refine ⟨_, rfl, ?_⟩
      rw [es]
      exact (c.mono (kO.av) rfl).rep nA
  rw [es] at this
  exact ⟨this.1, this.2, nA, kO.av⟩
theorem je_rd (i : Nat) {x : Str} {pos : Pos} (hN : X.N[i]? = some x := by rfl) (hv : Vis X.env.scope x := by first | exact Or.inl rfl | exact Or.inr (Or.inl rfl) | exact Or.inr (Or.inr rfl)) (hd : (x == ("__debug__" : Str)) = false := by decide)
    (hcd : (x == ("__classdict__" : Str)) = false := by decide) : JE X W .im false (.Name x pos) (rd i) := (pe_var hN hv hd hcd).weak fun σ H Q ⟨γ, τ, R, q⟩ => by
  unfold rd at q
  split at q
  · rename_i d h
    obtain ⟨v, e, r⟩ := R.im i d h
    exact ⟨v, e, q v H (fun _ => Same.refl H) ⟨R, Kp.refl, r⟩⟩
  · rename_i d h
    obtain ⟨a, e, c⟩ := R.ow i d h
    obtain ⟨R', k', n, kA⟩ := R.give h e c (.im d) (.inr rfl)
    exact ⟨_, e, q _ H (fun _ => Same.refl H) ⟨R', k', (c.mono kA rfl).rep n⟩⟩
  · exact q.elim
theorem je_look (i : Nat) {x : Str} {pos : Pos} (hN : X.N[i]? = some x := by rfl) (hv : Vis X.env.scope x := by first | exact Or.inl rfl | exact Or.inr (Or.inl rfl) | exact Or.inr (Or.inr rfl)) (hd : (x == ("__debug__" : Str)) = false := by decide)
    (hcd : (x == ("__classdict__" : Str)) = false := by decide) : JE X W .ln false (.Name x pos) (look i) := (pe_var hN hv hd hcd).weak fun σ H Q ⟨γ, τ, R, q⟩ => by
  unfold look at q
  split at q
  · rename_i d h
    obtain ⟨v, e, r⟩ := R.im i d h
    exact ⟨v, e, q v H (fun _ => Same.refl H) ⟨R, Kp.refl, .inl r⟩⟩
  · rename_i d h
    obtain ⟨a, e, c⟩ := R.ow i d h
    exact ⟨_, e, q _ H (fun _ => Same.refl H) ⟨R, Kp.refl, .inr ⟨a, rfl, c⟩⟩⟩
  · rename_i d h
    obtain ⟨e, c⟩ := R.mu i d h
    exact ⟨_, e, q _ H (fun _ => Same.refl H) ⟨R, Kp.refl, .inr ⟨_, rfl, c⟩⟩⟩
  · exact q.elim
end
end PL

namespace PL
open PySem PySem.Spec PyProof.Rows L2

section
variable {g : Gc} {H H' : Hp} {A : Addr → Prop} {v x y : V} {d : D} {a : Addr}
theorem LRep.int {i : Int} (h : LRep g H A v (.int i)) : v = .int i := by
  rcases h with h | ⟨a, _, c⟩
  · cases h; rfl
  · cases c
theorem LRep.bl {b : Bool} (h : LRep g H A v (.bl b)) : v = .bl b := by
  rcases h with h | ⟨a, _, c⟩
  · cases h; rfl
  · cases c
theorem LRep.non (h : LRep g H A v .non) : v = .non := by
  rcases h with h | ⟨a, _, c⟩
  · cases h; rfl
  · cases c
theorem LRep.str {l : List Nat} (h : LRep g H A v (.str l)) : v = .str (S l) := by
  rcases h with h | ⟨a, _, c⟩
  · cases h; rfl
  · cases c
theorem LRep.lst {ds : List D} (h : LRep g H A v (.lst ds)) : ∃ a vs, v = .ref a ∧ H a = some (.lst vs) ∧ RepA g H A vs ds := by
  rcases h with h | ⟨a, e, c⟩
  · cases h with
    | lst h n r => exact ⟨_, _, rfl, h, r⟩
  · cases c with
    | lst h r => exact ⟨_, _, e, h, r⟩
theorem LRep.tup {ds : List D} (h : LRep g H A v (.tup ds)) : ∃ a vs, v = .ref a ∧ AtT H A a vs ∧ RepA g H A vs ds := by
  rcases h with h | ⟨a, e, c⟩
  · cases h with
    | tup h r => exact ⟨_, _, rfl, h, r⟩
  · cases c
theorem LRep.fz {ds : List D} (h : LRep g H A v (.fz ds)) : ∃ a vs, v = .ref a ∧ AtF g H A a vs ∧ RepA g H A vs ds := by
  rcases h with h | ⟨a, e, c⟩
  · cases h with
    | fz h r => exact ⟨_, _, rfl, h, r⟩
  · cases c
theorem LRep.dK {es : List (Key × D)} (h : LRep g H A v (.dK es)) : ∃ a kvs, v = .ref a ∧ H a = some (.dK kvs) ∧ kvs.map (·.1) = es.map (·.1) ∧ RepA g H A (kvs.map (·.2)) (es.map (·.2)) := by
  rcases h with h | ⟨a, e, c⟩
  · cases h with
    | dK h n e r => exact ⟨_, _, rfl, h, e, r⟩
  · cases c with
    | dK h q r => exact ⟨_, _, e, h, q, r⟩
theorem LRep.dT {es : List (List Key × D)} (h : LRep g H A v (.dT es)) : ∃ a kvs, v = .ref a ∧ H a = some (.dT kvs) ∧ kvs.map (·.1) = es.map (·.1) ∧ RepA g H A (kvs.map (·.2)) (es.map (·.2)) := by
  rcases h with h | ⟨a, e, c⟩
  · cases h with
    | dT h n e r => exact ⟨_, _, rfl, h, e, r⟩
  · cases c with
    | dT h q r => exact ⟨_, _, e, h, q, r⟩
theorem LRep.mt {ds : List D} (h : LRep g H A v (.mt ds)) : ∃ a vs, v = .ref a ∧ SqT g.K (fun _ => none) a vs ∧ RepA g H A vs ds := by
  rcases h with h | ⟨a, e, c⟩
  · cases h with
    | mt h r => exact ⟨_, _, rfl, h, r⟩
  · cases c
theorem LRep.fk {es : List (Key × D)} (h : LRep g H A v (.fk es)) : ∃ a kvs, v = .ref a ∧ (∃ o, H a = some (.frz o (.dK kvs))) ∧ kvs.map (·.1) = es.map (·.1) ∧ RepA g H A (kvs.map (·.2)) (es.map (·.2)) := by
  rcases h with h | ⟨a, e, c⟩
  · cases h with
    | fk h n e r => exact ⟨_, _, rfl, h, e, r⟩
  · cases c
theorem LRep.ft {es : List (List Key × D)} (h : LRep g H A v (.ft es)) : ∃ a kvs, v = .ref a ∧ (∃ o, H a = some (.frz o (.dT kvs))) ∧ kvs.map (·.1) = es.map (·.1) ∧ RepA g H A (kvs.map (·.2)) (es.map (·.2)) := by
  rcases h with h | ⟨a, e, c⟩
  · cases h with
    | ft h n e r => exact ⟨_, _, rfl, h, e, r⟩
  · cases c
theorem LRep.exc {n : Str} (h : LRep g H A v (.exc n)) : ∃ a c, v = .ref a ∧ H a = some (ExI c a) ∧ g.mg n = some (.ref c) := by
  rcases h with h | ⟨a, e, c⟩
  · cases h with
    | exc h n e => exact ⟨_, _, rfl, h, e⟩
  · cases c
theorem sqT_up {K : PySem.W.Frag} {a : Addr} {vs : List V} (h : SqT K (fun _ => none) a vs) : SqT K H a vs := by
  rcases h with (h | ⟨o, h⟩) | h
  · cases h
  · cases h
  · exact .inr h
theorem sqL_up {K : PySem.W.Frag} {a : Addr} {vs : List V} (h : SqL K (fun _ => none) a vs) : SqL K H a vs := by
  rcases h with (h | ⟨o, h⟩) | h
  · cases h
  · cases h
  · exact .inr h
theorem AtF.sq {vs : List V} (h : AtF g H A a vs) : SqL g.K H a vs := h.elim (fun ⟨o, q, _⟩ => .inl (.inr ⟨o, q⟩)) sqL_up
theorem AtT.sq {vs : List V} (h : AtT H A a vs) : SqT g.K H a vs := .inl (.inl h.1)
theorem RepA.length : ∀ {vs : List V} {ds : List D}, RepA g H A vs ds → vs.length = ds.length
  | _, _, .nil => rfl
  | _, _, .cons _ r => congrArg (· + 1) r.length
theorem RepA.get : ∀ {vs : List V} {ds : List D} {i : Nat} {d : D}, RepA g H A vs ds → ds[i]? = some d → ∃ v, vs[i]? = some v ∧ Rep g H A v d
  | _, _, _, _, .nil, e => by simp at e
  | _, _, 0, _, .cons h _, e => by simp at e; subst e; exact ⟨_, rfl, h⟩
  | _, _, i + 1, d, .cons _ r, e => by
    obtain ⟨v, h1, h2⟩ := RepA.get (i := i) (d := d) r (by simpa using e)
    exact ⟨v, by simpa using h1, h2⟩
theorem RepA.append : ∀ {vs ws : List V} {ds es : List D}, RepA g H A vs ds → RepA g H A ws es → RepA g H A (vs ++ ws) (ds ++ es)
  | _, _, _, _, .nil, s => s
  | _, _, _, _, .cons h r, s => .cons h (r.append s)
theorem RepA.take : ∀ {vs : List V} {ds : List D} (n : Nat), RepA g H A vs ds → RepA g H A (vs.take n) (ds.take n)
  | _, _, 0, _ => .nil
  | _, _, _ + 1, .nil => .nil
  | _, _, n + 1, .cons h r => .cons h (r.take n)
theorem RepA.drop : ∀ {vs : List V} {ds : List D} (n : Nat), RepA g H A vs ds → RepA g H A (vs.drop n) (ds.drop n)
  | _, _, 0, r => r
  | _, _, _ + 1, .nil => .nil
  | _, _, n + 1, .cons _ r => r.drop n
theorem RepA.reverse {vs : List V} {ds : List D} (r : RepA g H A vs ds) : RepA g H A vs.reverse ds.reverse := by
  induction vs generalizing ds with
  | nil => cases r; exact .nil
  | cons v vs ih =>
    cases r with
    | cons h r =>
      rw [List.reverse_cons, List.reverse_cons]
      exact (ih r).append (.cons h .nil)
theorem RepA.set : ∀ {vs : List V} {ds : List D} {v : V} {d : D} (i : Nat), RepA g H A vs ds → Rep g H A v d → RepA g H A (vs.set i v) (ds.set i d)
  | _, _, _, _, _, .nil, _ => .nil
  | _, _, _, _, 0, .cons _ r, h => .cons h r
  | _, _, _, _, i + 1, .cons q r, h => .cons q (r.set i h)
theorem RepA.ints : ∀ {vs : List V} {ns : List Int}, RepA g H A vs (ns.map D.int) → vs = ns.map V.int
  | _, [], .nil => rfl
  | _, n :: ns, .cons h r => by
    cases h
    rw [r.ints] <;> rfl
theorem RepA.strs : ∀ {vs : List V} {ns : List (List Nat)}, RepA g H A vs (ns.map D.str) → vs = ns.map fun l => V.str (S l)
  | _, [], .nil => rfl
  | _, n :: ns, .cons h r => by
    cases h
    rw [r.strs] <;> rfl
/-- a new tuple -/
theorem out_tup {vs : List V} {ds : List D} {p : Addr} (hA : ∀ a, A a → ∃ u, H a = some u) (r : RepA g H A vs ds) (hp : H p = none) : Out .im g H A (upd H p (.tup vs)) (.ref p) (.tup ds) := by
  have s : Same H (upd H p (.tup vs)) := fun b o e => by rw [upd_ne (ne_of_none e hp)]; exact e
  refine ⟨s, .tup ⟨upd_same, fun q => ?_⟩ (r.kp (Same.kp s fun _ q => q))⟩
  obtain ⟨u, e⟩ := hA p q
  rw [hp] at e; cases e
/-- a new list -/
theorem out_lst {k : Kd} {vs : List V} {ds : List D} {p : Addr} (hk : k ≠ .ln) (hA : ∀ a, A a → ∃ u, H a = some u) (r : RepA g H A vs ds) (hp : H p = none) : Out k g H A (upd H p (.lst vs)) (.ref p) (.lst ds) := by
  have s : Same H (upd H p (.lst vs)) := fun b o e => by rw [upd_ne (ne_of_none e hp)]; exact e
  have np : ¬ A p := fun q => by
    obtain ⟨u, e⟩ := hA p q
    rw [hp] at e; cases e
  cases k with
  | ln => exact absurd rfl hk
  | im => exact ⟨s, .lst upd_same np (r.kp (Same.kp s fun _ q => q))⟩
  | fr => exact ⟨s, p, rfl, hp, .lst upd_same (r.kp fun a o e n => ⟨s a o e, fun q => q.elim n (ne_of_none e hp)⟩)⟩
theorem out_flat {z : D} (r : ∀ H A, Rep g H A v z) : Out .im g H A H v z := ⟨Same.refl H, r _ _⟩

/-! ### operations of two values -/
def Op2 (k : Kd) (g : Gc) (r : R2) (o : D → D → Option D) : Prop := ∀ (H : Hp) (A : Addr → Prop) (x y : V) (d e z : D) (Q : VK), (∀ a, A a → ∃ u, H a = some u) → LRep g H A x d → LRep g H A y e → o d e = some z →
  (∀ v H', Out k g H A H' v z → Q v H') → r x y H Q
def r2or (r s : R2) : R2 := fun x y H Q => r x y H Q ∨ s x y H Q
theorem OpR.or' {X : Cx} {f : Value → Value → Sem Value} {r s : R2} (h : OpR X f r) (k : OpR X f s) : OpR X f (r2or r s) := by
  intro pins st σ H x y v u Q I rx ry q
  rcases q with q | q
  · exact h pins st σ H x y v u Q I rx ry q
  · exact k pins st σ H x y v u Q I rx ry q
def o2or (o p : D → D → Option D) : D → D → Option D := fun d e => match o d e with
  | some z => some z
  | none => p d e
theorem Op2.or {k : Kd} {r s : R2} {o p : D → D → Option D} (h : Op2 k g r o) (h' : Op2 k g s p) : Op2 k g (r2or r s) (o2or o p) := fun H A x y d e z Q hA rx ry ho q => by
  unfold o2or at ho
  split at ho
  · rename_i z' e'
    cases ho
    exact .inl (h H A x y d e _ Q hA rx ry e' q)
  · exact .inr (h' H A x y d e z Q hA rx ry ho q)

def oAdd : D → D → Option D
  | .int i, .int j => some (.int (i + j))
  | .str a, .str b => if a.length + b.length ≤ 16777216 then some (.str (a ++ b)) else none
  | .lst a, .lst b => if a.length + b.length ≤ 16777216 then some (.lst (a ++ b)) else none
  | .tup a, .tup b => if a ≠ [] ∧ b ≠ [] ∧ a.length + b.length ≤ 16777216 then some (.tup (a ++ b)) else none
  | _, _ => none
def rAddAll (K : PySem.W.Frag) : R2 := r2or (rI0 fun i j => .int (i + j)) (r2or (fun x y H Q => ∃ i j, x = .str i ∧ y = .str j ∧ i.length + j.length ≤ sizeLine ∧ Q (.str (i ++ j)) H) (r2or rCat (rCatT K)))
theorem op_addAll {X : Cx} : OpR X (binaryOp .Add) (rAddAll X.K) := OpR.or' op_add (OpR.or' op_add_str (OpR.or' op_cat op_catT))
theorem RepA.nil_iff {vs : List V} {ds : List D} (r : RepA g H A vs ds) : vs = [] ↔ ds = [] := by
  cases r <;> simp
theorem o2_add {k : Kd} (hk : k = .im) : Op2 k g (rAddAll g.K) oAdd := fun H A x y d e z Q hA rx ry ho q => by
  subst hk
  unfold oAdd at ho
  split at ho
  · cases ho
    rw [rx.int, ry.int]
    exact .inl ⟨_, _, rfl, rfl, q _ _ (out_flat fun _ _ => .int _)⟩
  · split at ho
    · rename_i hz
      cases ho
      rw [rx.str, ry.str]
      refine .inr (.inl ⟨_, _, rfl, rfl, by rw [S_len, S_len]; exact hz, ?_⟩)
      rw [S_add]
      exact q _ _ (out_flat fun _ _ => .str _)
    · cases ho
  · split at ho
    · rename_i hz
      cases ho
      obtain ⟨a, vs, rfl, ha, ra⟩ := rx.lst
      obtain ⟨b, ws, rfl, hb, rb⟩ := ry.lst
      exact .inr (.inr (.inl ⟨a, b, vs, ws, rfl, rfl, ha, hb, by rw [ra.length, rb.length]; exact hz, fun p hp => q _ _ (out_lst (by decide) hA (ra.append rb) hp)⟩))
    · cases ho
  · split at ho
    · rename_i hz
      cases ho
      obtain ⟨a, vs, rfl, ha, ra⟩ := rx.tup
      obtain ⟨b, ws, rfl, hb, rb⟩ := ry.tup
      refine .inr (.inr (.inr ⟨a, b, vs, ws, rfl, rfl, ha.sq, hb.sq, fun z => hz.1 (ra.nil_iff.mp z), by rw [ra.length, rb.length]; exact hz.2.2, fun z => absurd (rb.nil_iff.mp z) hz.2.1, fun _ p hp => q _ _ (out_tup hA (ra.append rb) hp)⟩))
    · cases ho
  · cases ho
/-- two ints -/
def oI (c : Int → Int → Bool) (f : Int → Int → D) : D → D → Option D
  | .int i, .int j => if c i j = true then some (f i j) else none
  | _, _ => none
theorem o2_I {C : Int → Int → Prop} {c : Int → Int → Bool} {f : Int → Int → D} {h : Int → Int → V} (hc : ∀ i j, c i j = true → C i j) (hf : ∀ i j H A, Rep g H A (h i j) (f i j)) : Op2 .im g (rI C h) (oI c f) := fun H A x y d e z Q hA rx ry ho q => by
  unfold oI at ho
  split at ho
  · split at ho
    · rename_i hz
      cases ho
      rw [rx.int, ry.int]
      exact ⟨_, _, rfl, rfl, hc _ _ hz, q _ _ (out_flat fun _ _ => hf _ _ _ _)⟩
    · cases ho
  · cases ho
theorem o2_I0 {f : Int → Int → D} {h : Int → Int → V} (hf : ∀ i j H A, Rep g H A (h i j) (f i j)) : Op2 .im g (rI0 h) (oI (fun _ _ => true) f) := fun H A x y d e z Q hA rx ry ho q => by
  unfold oI at ho
  split at ho
  · split at ho
    · rename_i hz
      cases ho
      rw [rx.int, ry.int]
      exact ⟨_, _, rfl, rfl, q _ _ (out_flat fun _ _ => hf _ _ _ _)⟩
    · cases ho
  · cases ho
def oSub : D → D → Option D := oI (fun _ _ => true) fun i j => .int (i - j)
theorem o2_sub : Op2 .im g (rI0 fun i j => .int (i - j)) oSub := o2_I0 fun _ _ _ _ => .int _
def oDiv : D → D → Option D := oI (fun _ j => decide (0 < j ∧ j.natAbs.log2 < 9000)) fun i j => .int (i / j)
theorem o2_div : Op2 .im g (rI CDivW fun i j => .int (i / j)) oDiv := o2_I (fun i j h => show 0 < j ∧ j.natAbs.log2 < 9000 from of_decide_eq_true h) fun _ _ _ _ => .int _
def oMod : D → D → Option D := oI (fun _ j => decide (0 < j)) fun i j => .int (i % j)
theorem o2_mod : Op2 .im g (rI (fun _ j => 0 < j) fun i j => .int (i % j)) oMod := o2_I (fun i j h => of_decide_eq_true h) fun _ _ _ _ => .int _
def oPow : D → D → Option D := oI (fun i j => decide (0 ≤ j ∧ j ≤ 1000000 ∧ i.natAbs < 2 ^ 64)) fun i j => .int (i ^ j.toNat)
theorem o2_pow : Op2 .im g (rI CPow fun i j => .int (i ^ j.toNat)) oPow := o2_I (fun i j h => show 0 ≤ j ∧ j ≤ 1000000 ∧ i.natAbs < 2 ^ 64 from of_decide_eq_true h) fun _ _ _ _ => .int _
end

section
variable {X : Cx} {W : WX} {k1 k2 kr : Kd} {m1 m2 : Bool} {a b : Expr} {fa fb : M D} {r : R2} {o : D → D → Option D} {pos : Pos}
def op2 (o : D → D → Option D) (fa fb : M D) : M D := andThen fa fun x => andThen fb fun y => lift (o x y)
theorem Rel.avTh' {g : Gc} {γ : G} {τ : PS0} {σ : L2.St} {H : Hp} (R : Rel g γ τ σ H) : ∀ a, Av γ τ σ H a → Th H a := fun _ h => R.avTh h
theorem Rel.avT {g : Gc} {γ : G} {τ : PS0} {σ : L2.St} {H : Hp} (R : Rel g γ τ σ H) : ∀ a, Av γ τ σ H a → ∃ u, H a = some u := fun _ h => R.avThere h
theorem tE_op2 (hr : Op2 kr X.g r o) (hk : k1 ≠ .ln ∨ m2 = false) (hkr : kr ≠ .ln) (σ : L2.St) (H : Hp) (Q : VK) (h : tE X.g W kr (m1 || m2) (op2 o fa fb) σ H Q) : tOp r (tE X.g W k1 m1 fa) (tE X.g W k2 m2 fb) σ H Q := by
  obtain ⟨γ, τ, R, h⟩ := h
  unfold op2 at h
  rw [fit_bind] at h
  refine tE_bin (Kc := fun x y H2 => r x y H2 Q) hk R (h.mono (fun d τ1 h => ?_) fun _ _ q => q)
  rw [fit_bind] at h
  refine h.mono (fun e τ2 h x y H2 s2 R2 kp vx vy => ?_) fun _ _ q => q
  obtain ⟨z, ez, h⟩ := fit_lift.mp h
  refine hr H2 (Av γ τ2 σ H2) x y d e z Q R2.avT vx.l vy.l ez fun v H' o => h v H' (fun q => (s2 q).trans o.1) (PostE.of_out R2 kp hkr o)
theorem je_op {op : Operator} (ho : OpR X (binaryOp op) r) (hr : Op2 kr X.g r o) (ha : JE X W k1 m1 a fa) (hb : JE X W k2 m2 b fb) (hk : k1 ≠ .ln ∨ m2 = false := by first | exact .inr rfl | exact .inl (by decide)) (hkr : kr ≠ .ln := by decide) :
    JE X W kr (m1 || m2) (.BinOp a op b pos) (op2 o fa fb) := (pe_op ho ha hb).weak (tE_op2 hr hk hkr)
theorem je_cmp {op : CmpOp} (ho : OpR X (compareOp op) r) (hr : Op2 kr X.g r o) (ha : JE X W k1 m1 a fa) (hb : JE X W k2 m2 b fb) (hm : behindInMarks op b = false := by first | exact nomark _ | rfl) (hk : k1 ≠ .ln ∨ m2 = false := by first | exact .inr rfl | exact .inl (by decide)) (hkr : kr ≠ .ln := by decide) :
    JE X W kr (m1 || m2) (.Compare a [op] [b] pos) (op2 o fa fb) := (pe_cmpR ho ha hb hm).weak (tE_op2 hr hk hkr)
/-- a truth value -/
def asB : D → Option Bool
  | .bl b => some b
  | _ => none
def tst (f : M D) : M Bool := andThen f fun d => lift (asB d)
theorem jt_cmp {op : CmpOp} (ho : OpR X (compareOp op) r) (hr : Op2 kr X.g r o) (ha : JE X W k1 m1 a fa) (hb : JE X W k2 m2 b fb) (hm : behindInMarks op b = false := by first | exact nomark _ | rfl) (hk : k1 ≠ .ln ∨ m2 = false := by first | exact .inr rfl | exact .inl (by decide)) (hkr : kr ≠ .ln := by decide) :
    JT X W (m1 || m2) (.Compare a [op] [b] pos) (tst (op2 o fa fb)) := (pt_cmpR ho ha hb hm).weak fun σ H Q h => by
  refine tE_op2 hr hk hkr σ H _ ?_
  obtain ⟨γ, τ, R, h⟩ := h
  unfold tst at h
  rw [fit_bind] at h
  refine ⟨γ, τ, R, h.mono (fun d τ' h v H' s P => ?_) fun _ _ q => q⟩
  obtain ⟨c, ec, h⟩ := fit_lift.mp h
  obtain ⟨R', kp, vr⟩ := P.val
  cases d with
  | bl q =>
    cases ec
    exact ⟨_, vr.l.bl, h H' s R' kp⟩
  | _ => cases ec
theorem jt_val (ha : JE X W k1 m1 a fa) (he : ∀ whole, isTrue a X.env whole = (do let v ← whole; standAt a.pos; holding [v] (truthy v)) := by intro _; rfl) : JT X W m1 a (tst fa) := (pt_val ha he).weak fun σ H Q h => by
  obtain ⟨γ, τ, R, h⟩ := h
  unfold tst at h
  rw [fit_bind] at h
  refine ⟨γ, τ, R, h.mono (fun d τ' h v H' s P => ?_) fun _ _ q => q⟩
  obtain ⟨c, ec, h⟩ := fit_lift.mp h
  obtain ⟨R', kp, vr⟩ := P.val
  cases d with
  | bl q =>
    cases ec
    exact ⟨_, vr.l.bl, h H' s R' kp⟩
  | _ => cases ec
end
end PL

namespace PL
open PySem PySem.Spec PyProof.Rows L2

/-! ### equality -/
mutual
def toPy : D → PyData
  | .non => .none
  | .bl b => .bool b
  | .int i => .int i
  | .str x => .str (S x)
  | .lst xs => .list (toPyA xs)
  | .tup xs => .tuple (toPyA xs)
  | _ => .none
def toPyA : List D → List PyData
  | [] => []
  | x :: xs => toPy x :: toPyA xs
end
mutual
/-- told apart by what it holds: no dict, no error within, not too deep -/
def pl (n : Nat) : D → Bool
  | .non => true
  | .bl _ => true
  | .int _ => true
  | .str x => x.all fun c => decide (c < 1114112)
  | .lst xs => match n with
    | 0 => false
    | n + 1 => plA n xs
  | .tup xs => match n with
    | 0 => false
    | n + 1 => plA n xs
  | _ => false
def plA (n : Nat) : List D → Bool
  | [] => true
  | x :: xs => pl n x && plA n xs
end
mutual
def eqD : D → D → Bool
  | .non, .non => true
  | .bl a, .bl b => a == b
  | .bl a, .int j => (if a then 1 else 0) == j
  | .int i, .bl b => i == (if b then 1 else 0)
  | .int i, .int j => i == j
  | .str x, .str y => x == y
  | .lst xs, .lst ys => eqDA xs ys
  | .tup xs, .tup ys => eqDA xs ys
  | _, _ => false
def eqDA : List D → List D → Bool
  | [], [] => true
  | x :: xs, y :: ys => eqD x y && eqDA xs ys
  | _, _ => false
end
mutual
theorem pl_lay : ∀ (n : Nat) (d : D), pl n d = true → PyData.canLay0 (toPy d) = true ∧ (toPy d).depth ≤ n
  | n, .non, _ => ⟨rfl, Nat.zero_le _⟩
  | n, .bl _, _ => ⟨rfl, Nat.zero_le _⟩
  | n, .int _, _ => ⟨rfl, Nat.zero_le _⟩
  | n, .str x, h => by
    refine ⟨?_, Nat.zero_le _⟩
    unfold pl at h
    show (S x).cps.all (fun c => decide (c < 0x110000)) = true
    rw [← Array.all_toList]
    exact h
  | 0, .lst xs, h => by unfold pl at h; cases h
  | n + 1, .lst xs, h => by
    unfold pl at h
    obtain ⟨a, b⟩ := plA_lay n xs h
    exact ⟨a, Nat.succ_le_succ b⟩
  | 0, .tup xs, h => by unfold pl at h; cases h
  | n + 1, .tup xs, h => by
    unfold pl at h
    obtain ⟨a, b⟩ := plA_lay n xs h
    exact ⟨a, Nat.succ_le_succ b⟩
  | n, .dK _, h => by unfold pl at h; cases h
  | n, .dT _, h => by unfold pl at h; cases h
  | n, .exc _, h => by unfold pl at h; cases h
  | n, .mt _, h => by unfold pl at h; cases h
  | n, .fk _, h => by unfold pl at h; cases h
  | n, .ft _, h => by unfold pl at h; cases h
  | n, .nw _, h => by unfold pl at h; cases h
  | n, .nx _, h => by unfold pl at h; cases h
  | n, .ob _ _, h => by unfold pl at h; cases h
  | n, .ex _ _, h => by unfold pl at h; cases h
  | n, .fz _, h => by unfold pl at h; cases h
theorem plA_lay : ∀ (n : Nat) (xs : List D), plA n xs = true → PyData.canLayAll0 (toPyA xs) = true ∧ PyData.depthAll (toPyA xs) ≤ n
  | n, [], _ => ⟨rfl, Nat.zero_le _⟩
  | n, x :: xs, h => by
    unfold plA at h
    rw [Bool.and_eq_true] at h
    obtain ⟨a, b⟩ := pl_lay n x h.1
    obtain ⟨c, e⟩ := plA_lay n xs h.2
    refine ⟨?_, ?_⟩
    · show (PyData.canLay0 (toPy x) && PyData.canLayAll0 (toPyA xs)) = true
      rw [a, c]; rfl
    · show max (toPy x).depth (PyData.depthAll (toPyA xs)) ≤ n
      omega
end
theorem pl_shaped {n : Nat} {d : D} (hn : n ≤ 64) (h : pl n d = true) : SeqAt.shaped (toPy d) = true := by
  obtain ⟨a, b⟩ := pl_lay n d h
  unfold SeqAt.shaped
  rw [a, decide_eq_true (Nat.le_trans b hn)]
  rfl
theorem S_beq (x y : List Nat) : (S x == S y) = (x == y) := by
  rw [Bool.eq_iff_iff]
  simp only [beq_iff_eq]
  exact ⟨S_inj, fun h => h ▸ rfl⟩
mutual
theorem eqD_py : ∀ (n : Nat) (d e : D), pl n d = true → pl n e = true → PyData.eqv (toPy d) (toPy e) = eqD d e
  | n, .non, e, _, h => by cases e <;> first | rfl | (unfold pl at h; cases h)
  | n, .bl _, e, _, h => by cases e <;> first | rfl | (unfold pl at h; cases h)
  | n, .int _, e, _, h => by cases e <;> first | rfl | (unfold pl at h; cases h)
  | n, .str x, e, _, h => by
    cases e <;> first | rfl | (unfold pl at h; cases h; done) | skip
    exact S_beq _ _
  | n, .lst xs, e, h1, h => by
    cases e <;> first | rfl | (unfold pl at h; cases h; done) | skip
    rename_i ys
    cases n with
    | zero => unfold pl at h; cases h
    | succ n =>
      unfold pl at h h1
      exact eqDA_py n xs ys h1 h
  | n, .tup xs, e, h1, h => by
    cases e <;> first | rfl | (unfold pl at h; cases h; done) | skip
    rename_i ys
    cases n with
    | zero => unfold pl at h; cases h
    | succ n =>
      unfold pl at h h1
      exact eqDA_py n xs ys h1 h
  | n, .dK _, e, h, _ => by unfold pl at h; cases h
  | n, .dT _, e, h, _ => by unfold pl at h; cases h
  | n, .exc _, e, h, _ => by unfold pl at h; cases h
  | n, .mt _, e, h, _ => by unfold pl at h; cases h
  | n, .fk _, e, h, _ => by unfold pl at h; cases h
  | n, .ft _, e, h, _ => by unfold pl at h; cases h
  | n, .nw _, e, h, _ => by unfold pl at h; cases h
  | n, .nx _, e, h, _ => by unfold pl at h; cases h
  | n, .ob _ _, e, h, _ => by unfold pl at h; cases h
  | n, .ex _ _, e, h, _ => by unfold pl at h; cases h
  | n, .fz _, e, h, _ => by unfold pl at h; cases h
theorem eqDA_py : ∀ (n : Nat) (xs ys : List D), plA n xs = true → plA n ys = true → PyData.eqvAll (toPyA xs) (toPyA ys) = eqDA xs ys
  | n, [], [], _, _ => rfl
  | n, [], _ :: _, _, _ => rfl
  | n, _ :: _, [], _, _ => rfl
  | n, x :: xs, y :: ys, h1, h2 => by
    unfold plA at h1 h2
    rw [Bool.and_eq_true] at h1 h2
    show (PyData.eqv (toPy x) (toPy y) && PyData.eqvAll (toPyA xs) (toPyA ys)) = (eqD x y && eqDA xs ys)
    rw [eqD_py n x y h1.1 h2.1, eqDA_py n xs ys h1.2 h2.2]
end
section
variable {g : Gc} {H H' : Hp} {A : Addr → Prop} {v x y : V} {d : D} {a : Addr}
mutual
theorem Rep.dp {n : Nat} : ∀ {d : D} {v : V}, Rep g H A v d → pl n d = true → Dp g.K H v (toPy d)
  | _, _, .non, _ => .non
  | _, _, .bl b, _ => .bl b
  | _, _, .int i, _ => .int i
  | _, _, .str x, _ => .str (S x)
  | _, _, .lst h _ r, p => by
    cases n with
    | zero => unfold pl at p; cases p
    | succ n =>
      unfold pl at p
      exact .lst (.inl (.inl h)) (r.dp p)
  | _, _, .tup h r, p => by
    cases n with
    | zero => unfold pl at p; cases p
    | succ n =>
      unfold pl at p
      exact .tup h.sq (r.dp p)
  | _, _, .fz _ _, p => by unfold pl at p; cases p
  | _, _, .dK _ _ _ _, p => by unfold pl at p; cases p
  | _, _, .dT _ _ _ _, p => by unfold pl at p; cases p
  | _, _, .exc _ _ _, p => by unfold pl at p; cases p
  | _, _, .mt _ _, p => by unfold pl at p; cases p
  | _, _, .fk _ _ _ _, p => by unfold pl at p; cases p
  | _, _, .ft _ _ _ _, p => by unfold pl at p; cases p
theorem RepA.dp {n : Nat} : ∀ {ds : List D} {vs : List V}, RepA g H A vs ds → plA n ds = true → DpAll g.K H vs (toPyA ds)
  | _, _, .nil, _ => .nil
  | _, _, .cons h r, p => by
    unfold plA at p
    rw [Bool.and_eq_true] at p
    exact .cons (h.dp p.1) (r.dp p.2)
end
theorem LRep.dp {n : Nat} (h : LRep g H A v d) (p : pl n d = true) : Dp g.K H v (toPy d) := by
  rcases h with h | ⟨a, rfl, c⟩
  · exact h.dp p
  · cases c with
    | lst h r =>
      cases n with
      | zero => unfold pl at p; cases p
      | succ n =>
        unfold pl at p
        exact .lst (.inl (.inl h)) (r.dp p)
    | dK _ _ _ => unfold pl at p; cases p
    | dT _ _ _ => unfold pl at p; cases p

/-- scalars that == tells apart at once -/
def scD : D → D → Bool
  | .non, .non => true | .non, .int _ => true | .int _, .non => true | .non, .bl _ => true | .bl _, .non => true | .non, .str _ => true | .str _, .non => true
  | .int _, .int _ => true | .bl _, .bl _ => true | .str _, .str _ => true
  | .int _, .str _ => true | .str _, .int _ => true | .bl _, .str _ => true | .str _, .bl _ => true
  | _, _ => false
def oEq : D → D → Option D := fun d e => if scD d e || (pl 60 d && pl 60 e) then some (.bl (eqD d e)) else none
def oNe : D → D → Option D := fun d e => if scD d e || (pl 60 d && pl 60 e) then some (.bl (!eqD d e)) else none
theorem sc_eq {x y : V} {d e : D} (rx : LRep g H A x d) (ry : LRep g H A y e) (h : scD d e = true) : scal x y = true ∧ decide (x = y) = eqD d e := by
  cases d <;> cases e <;> first
    | exact (Bool.false_ne_true h).elim
    | (first | rw [rx.non] | rw [rx.int] | rw [rx.bl] | rw [rx.str]) <;> (first | rw [ry.non] | rw [ry.int] | rw [ry.bl] | rw [ry.str]) <;> first
      | (refine ⟨rfl, ?_⟩
         unfold eqD
         first
           | (simp; done)
           | (rw [Bool.eq_iff_iff]; simp; done)
           | (rw [← S_beq, Bool.eq_iff_iff]; simp; done))
def rEqAll (K : PySem.W.Frag) : R2 := r2or rEq (rEqD K)
def rNeAll (K : PySem.W.Frag) : R2 := r2or rNe (rNeD K)
theorem op_eqAll {X : Cx} (hu : X.A.units + 64 < cLine) : OpR X (compareOp .Eq) (rEqAll X.K) := OpR.or' op_eq (op_eqD hu)
theorem op_neAll {X : Cx} (hu : X.A.units + 64 < cLine) : OpR X (compareOp .NotEq) (rNeAll X.K) := OpR.or' op_ne (op_neD hu)
theorem o2_eq : Op2 .im g (rEqAll g.K) oEq := fun H A x y d e z Q hA rx ry ho q => by
  unfold oEq at ho
  split at ho
  · rename_i hz
    cases ho
    rw [Bool.or_eq_true, Bool.and_eq_true] at hz
    rcases hz with hz | ⟨h1, h2⟩
    · obtain ⟨s, e⟩ := sc_eq rx ry hz
      exact .inl ⟨s, by rw [e]; exact q _ _ (out_flat fun _ _ => .bl _)⟩
    · refine .inr ⟨_, _, rx.dp h1, ry.dp h2, pl_shaped (by decide) h1, pl_shaped (by decide) h2, ?_⟩
      rw [eqD_py 60 d e h1 h2]
      exact q _ _ (out_flat fun _ _ => .bl _)
  · cases ho
theorem o2_ne : Op2 .im g (rNeAll g.K) oNe := fun H A x y d e z Q hA rx ry ho q => by
  unfold oNe at ho
  split at ho
  · rename_i hz
    cases ho
    rw [Bool.or_eq_true, Bool.and_eq_true] at hz
    rcases hz with hz | ⟨h1, h2⟩
    · obtain ⟨s, e⟩ := sc_eq rx ry hz
      exact .inl ⟨s, by rw [e]; exact q _ _ (out_flat fun _ _ => .bl _)⟩
    · refine .inr ⟨_, _, rx.dp h1, ry.dp h2, pl_shaped (by decide) h1, pl_shaped (by decide) h2, ?_⟩
      rw [eqD_py 60 d e h1 h2]
      exact q _ _ (out_flat fun _ _ => .bl _)
  · cases ho

/-! ### order -/
/-- ints, or texts -/
def oCmp (f : Int → Int → Bool) (s : List Nat → List Nat → Bool) : D → D → Option D
  | .int i, .int j => some (.bl (f i j))
  | .str a, .str b => some (.bl (s a b))
  | _, _ => none
def rCmp (f : Int → Int → Bool) (s : List Nat → List Nat → Bool) : R2 := r2or (rI0 fun i j => .bl (f i j)) (fun x y H Q => ∃ i j, x = .str i ∧ y = .str j ∧ Q (.bl (s i.cps.toList j.cps.toList)) H)
theorem o2_cmp {f : Int → Int → Bool} {s : List Nat → List Nat → Bool} : Op2 .im g (rCmp f s) (oCmp f s) := fun H A x y d e z Q hA rx ry ho q => by
  unfold oCmp at ho
  split at ho
  · cases ho
    rw [rx.int, ry.int]
    exact .inl ⟨_, _, rfl, rfl, q _ _ (out_flat fun _ _ => .bl _)⟩
  · cases ho
    rw [rx.str, ry.str]
    exact .inr ⟨_, _, rfl, rfl, q _ _ (out_flat fun _ _ => .bl _)⟩
  · cases ho
def oLt : D → D → Option D := oCmp (fun i j => decide (i < j)) fun a b => decide (a < b)
def oLe : D → D → Option D := oCmp (fun i j => decide (i ≤ j)) fun a b => !decide (b < a)
def oGt : D → D → Option D := oCmp (fun i j => decide (j < i)) fun a b => decide (b < a)
def oGe : D → D → Option D := oCmp (fun i j => decide (j ≤ i)) fun a b => !decide (a < b)
theorem op_ltA {X : Cx} : OpR X (compareOp .Lt) (rCmp (fun i j => decide (i < j)) fun a b => decide (a < b)) := OpR.or' op_lt op_lt_str
theorem op_leA {X : Cx} : OpR X (compareOp .LtE) (rCmp (fun i j => decide (i ≤ j)) fun a b => !decide (b < a)) := OpR.or' op_le op_le_str
theorem op_gtA {X : Cx} : OpR X (compareOp .Gt) (rCmp (fun i j => decide (j < i)) fun a b => decide (b < a)) := OpR.or' op_gt op_gt_str
theorem op_geA {X : Cx} : OpR X (compareOp .GtE) (rCmp (fun i j => decide (j ≤ i)) fun a b => !decide (a < b)) := OpR.or' op_ge op_ge_str
theorem o2_lt : Op2 .im g (rCmp (fun i j => decide (i < j)) fun a b => decide (a < b)) oLt := o2_cmp
theorem o2_le : Op2 .im g (rCmp (fun i j => decide (i ≤ j)) fun a b => !decide (b < a)) oLe := o2_cmp
theorem o2_gt : Op2 .im g (rCmp (fun i j => decide (j < i)) fun a b => decide (b < a)) oGt := o2_cmp
theorem o2_ge : Op2 .im g (rCmp (fun i j => decide (j ≤ i)) fun a b => !decide (a < b)) oGe := o2_cmp
/-! ### is None -/
def oIsN : D → D → Option D
  | .non, .non => some (.bl true)
  | _, .non => some (.bl false)
  | _, _ => none
def oNotN : D → D → Option D
  | .non, .non => some (.bl false)
  | _, .non => some (.bl true)
  | _, _ => none
/-! ### in -/
def flD : D → Bool
  | .non => true | .bl _ => true | .int _ => true | .str _ => true
  | _ => false
def inD (x : D) (xs : List D) : Bool := xs.any fun y => eqD y x
def oIn (neg : Bool) : D → D → Option D
  | d, .lst xs => if (flD d && xs.all flD) || (pl 60 d && pl 60 (.lst xs)) then some (.bl (if neg then !inD d xs else inD d xs)) else none
  | d, .tup xs => if flD d && xs.all flD then some (.bl (if neg then !inD d xs else inD d xs)) else none
  | d, .mt xs => if flD d && xs.all flD then some (.bl (if neg then !inD d xs else inD d xs)) else none
  | .str [c], .str z => some (.bl (if neg then !decide (c ∈ z) else decide (c ∈ z)))
  | .str a, .str z => some (.bl (if neg then !(!(Builtin.Str.occurrences (S z) (S a) 0 z.length 1).isEmpty) else !(Builtin.Str.occurrences (S z) (S a) 0 z.length 1).isEmpty))
  | _, _ => none
theorem flV {v : V} {d : D} (r : Rep g H A v d) : flatV v = flD d := by
  cases r <;> rfl
theorem flVA : ∀ {vs : List V} {ds : List D}, RepA g H A vs ds → vs.all flatV = ds.all flD
  | _, _, .nil => rfl
  | _, _, .cons h r => by rw [List.all_cons, List.all_cons, flV h, flVA r]
theorem flV_l {v : V} {d : D} (r : LRep g H A v d) (h : flD d = true) : flatV v = true := by
  rcases r with r | ⟨a, e, c⟩
  · rw [flV r]; exact h
  · cases c <;> cases h
theorem eqV_fl {v w : V} {d e : D} (r : Rep g H A v d) (q : LRep g H A w e) (h : flD d = true) (h' : flD e = true) : eqV v w = eqD d e := by
  cases r <;> first
    | exact (Bool.false_ne_true h).elim
    | (cases e <;> first
        | exact (Bool.false_ne_true h').elim
        | ((first | rw [q.non] | rw [q.int] | rw [q.bl] | rw [q.str]) <;> first | rfl | exact S_beq _ _))
theorem inV_fl {w : V} {e : D} (q : LRep g H A w e) (h' : flD e = true) : ∀ {vs : List V} {ds : List D}, RepA g H A vs ds → ds.all flD = true → inV w vs = inD e ds
  | _, _, .nil, _ => rfl
  | _, _, .cons h r, p => by
    rw [List.all_cons, Bool.and_eq_true] at p
    unfold inV inD
    rw [List.any_cons, List.any_cons, eqV_fl h q p.1 h']
    exact congrArg _ (inV_fl q h' r p.2)
theorem any_py {e : D} : ∀ {ds : List D}, pl 60 e = true → plA 60 ds = true → (toPyA ds).any (fun z => PyData.eqv z (toPy e)) = inD e ds
  | [], _, _ => rfl
  | d :: ds, h, p => by
    unfold plA at p
    rw [Bool.and_eq_true] at p
    unfold inD toPyA
    rw [List.any_cons, List.any_cons, eqD_py 60 d e p.1 h]
    exact congrArg _ (any_py h p.2)
def rInAll (K : PySem.W.Frag) : R2 := r2or (rIn K false) (r2or (rInD K) (r2or (fun x y H Q => ∃ (c : Nat) (z : Str), x = .str ⟨#[c]⟩ ∧ y = .str z ∧ Q (.bl (decide (c ∈ z.cps.toList))) H) (fun x y H Q => ∃ i j, x = .str i ∧ y = .str j ∧ Q (.bl (!(Builtin.Str.occurrences j i 0 j.length 1).isEmpty)) H)))
theorem op_inAll {X : Cx} (hu : X.A.units + 65 < cLine) : OpR X (compareOp .In) (rInAll X.K) := OpR.or' op_in_seq (OpR.or' (op_inD hu) (OpR.or' op_in_sign op_in_str))
theorem pl_lst {xs : List D} (h : pl 60 (.lst xs) = true) : plA 59 xs = true := by unfold pl at h; exact h
mutual
theorem pl_up : ∀ (n : Nat) (d : D), pl n d = true → pl (n + 1) d = true
  | n, .non, h => h
  | n, .bl _, h => h
  | n, .int _, h => h
  | n, .str x, h => by unfold pl at h ⊢; exact h
  | 0, .lst xs, h => by unfold pl at h; cases h
  | n + 1, .lst xs, h => by
    unfold pl at h ⊢
    exact plA_up n xs h
  | 0, .tup xs, h => by unfold pl at h; cases h
  | n + 1, .tup xs, h => by
    unfold pl at h ⊢
    exact plA_up n xs h
  | n, .dK _, h => by unfold pl at h; cases h
  | n, .dT _, h => by unfold pl at h; cases h
  | n, .exc _, h => by unfold pl at h; cases h
  | n, .mt _, h => by unfold pl at h; cases h
  | n, .fk _, h => by unfold pl at h; cases h
  | n, .ft _, h => by unfold pl at h; cases h
  | n, .nw _, h => by unfold pl at h; cases h
  | n, .nx _, h => by unfold pl at h; cases h
  | n, .ob _ _, h => by unfold pl at h; cases h
  | n, .ex _ _, h => by unfold pl at h; cases h
  | n, .fz _, h => by unfold pl at h; cases h
theorem plA_up : ∀ (n : Nat) (xs : List D), plA n xs = true → plA (n + 1) xs = true
  | n, [], _ => by unfold plA; rfl
  | n, x :: xs, h => by
    unfold plA at h ⊢
    rw [Bool.and_eq_true] at h ⊢
    exact ⟨pl_up n x h.1, plA_up n xs h.2⟩
end
theorem o2_in : Op2 .im g (rInAll g.K) (oIn false) := fun H A x y d e z Q hA rx ry ho q => by
  unfold oIn at ho
  split at ho
  · split at ho
    · rename_i hz
      cases ho
      rw [Bool.or_eq_true, Bool.and_eq_true, Bool.and_eq_true] at hz
      rcases hz with ⟨h1, h2⟩ | ⟨h1, h2⟩
      · obtain ⟨a, vs, rfl, ha, ra⟩ := ry.lst
        refine .inl ⟨a, vs, rfl, .inl (.inl (.inl ha)), flV_l rx h1, (flVA ra).trans h2, ?_⟩
        rw [inV_fl rx h1 ra h2]
        exact q _ _ (out_flat fun _ _ => .bl _)
      · refine .inr (.inl ⟨_, _, rx.dp h1, ry.dp h2, pl_shaped (by decide) h1, pl_shaped (by decide) h2, ?_⟩)
        rw [any_py h1 (plA_up _ _ (pl_lst h2))]
        exact q _ _ (out_flat fun _ _ => .bl _)
    · cases ho
  · split at ho
    · rename_i hz
      cases ho
      rw [Bool.and_eq_true] at hz
      obtain ⟨a, vs, rfl, ha, ra⟩ := ry.tup
      refine .inl ⟨a, vs, rfl, .inr ha.sq, flV_l rx hz.1, (flVA ra).trans hz.2, ?_⟩
      rw [inV_fl rx hz.1 ra hz.2]
      exact q _ _ (out_flat fun _ _ => .bl _)
    · cases ho
  · split at ho
    · rename_i hz
      cases ho
      rw [Bool.and_eq_true] at hz
      obtain ⟨a, vs, rfl, ha, ra⟩ := ry.mt
      refine .inl ⟨a, vs, rfl, .inr (sqT_up ha), flV_l rx hz.1, (flVA ra).trans hz.2, ?_⟩
      rw [inV_fl rx hz.1 ra hz.2]
      exact q _ _ (out_flat fun _ _ => .bl _)
    · cases ho
  · cases ho
    rw [rx.str, ry.str]
    exact .inr (.inr (.inl ⟨_, _, rfl, rfl, q _ _ (out_flat fun _ _ => .bl _)⟩))
  · cases ho
    rw [rx.str, ry.str]
    refine .inr (.inr (.inr ⟨_, _, rfl, rfl, ?_⟩))
    rw [S_len]
    exact q _ _ (out_flat fun _ _ => .bl _)
  · cases ho
end
end PL

namespace PL
open PySem PySem.Spec PyProof.Rows L2

section
variable {X : Cx} {W : WX} {g : Gc} {γ : G} {τ τ' τ1 τ2 : PS0} {σ σ' : L2.St} {H H' H1 H2 : Hp} {p : Addr} {v : V} {d : D} {k k1 k2 k3 kr : Kd} {m m1 m2 m3 : Bool} {e e1 e2 a b c : Expr} {es rest : List Expr} {f fa fb fc : M D} {t u : M Bool} {fs : M (List D)} {pos : Pos} {r r' : R2} {o o' : D → D → Option D}

/-! ### and, or, not, if else -/
def notM (t : M Bool) : M Bool := andThen t fun b => ret (!b)
def andM (t u : M Bool) : M Bool := andThen t fun b => if b = true then u else ret false
def orM (t u : M Bool) : M Bool := andThen t fun b => if b = true then ret true else u
theorem jt_not (h : JT X W m a t) : JT X W m (.UnaryOp .Not a pos) (notM t) := (pt_not h).weak fun σ H Q ⟨γ, τ, R, h⟩ => by
  unfold notM at h
  rw [fit_bind] at h
  exact ⟨γ, τ, R, h⟩
theorem JT.mt (h : JT X W m e t) : JT X W true e t := h.weak fun σ H Q ⟨γ, τ, R, q⟩ => ⟨γ, τ, R, q.mono (fun b τ' z H' _ R' k => z H' (fun z => nomatch z) R' k) fun _ _ z => z⟩
theorem JW.mt (h : JW X W m e t) : JW X W true e t := h.weak fun σ H Q ⟨γ, τ, R, q⟩ => ⟨γ, τ, R, q.mono (fun b τ' z H' _ R' k => z H' (fun z => nomatch z) R' k) fun _ _ z => z⟩
/-- the second part of a run, in its own right -/
theorem tT_go {Q : Bool → Hp → Prop} (R1 : Rel g γ τ1 σ H1) (s1 : m1 = false → Same H H1) (kp : Kp (Own τ σ H) H (Own τ1 σ H1) H1)
    (h : Fit (u τ1) (fun b τ' => ∀ H', ((m1 || m2) = false → Same H H') → Rel g γ τ' σ H' → Kp (Own τ σ H) H (Own τ' σ H') H' → Q b H') (XW g W γ τ σ H)) : tT g W m2 u σ H1 Q :=
  ⟨γ, τ1, R1, h.mono (fun b τ' q H' s R' k => q H' (or_same s1 s) R' (kp.trans k)) fun _ _ q => q.pre kp⟩
theorem tE_go {Q : VK} (R1 : Rel g γ τ1 σ H1) (s1 : m1 = false → Same H H1) (kp : Kp (Own τ σ H) H (Own τ1 σ H1) H1)
    (h : Fit (f τ1) (fun d τ' => ∀ v H', ((m1 || m2) = false → Same H H') → PostE k g γ τ σ H τ' σ H' v d → Q v H') (XW g W γ τ σ H)) : tE g W k m2 f σ H1 Q :=
  ⟨γ, τ1, R1, h.mono (fun d τ' q v H' s P => q v H' (or_same s1 s) (P.pre' kp)) fun _ _ q => q.pre kp⟩
theorem Same.of_or (s1 : m1 = false → Same H H1) : (m1 || m2) = false → Same H H1 := fun z => s1 (by rw [Bool.or_eq_false_iff] at z; exact z.1)
theorem jw_and1 (h : JT X W m a t) : JW X W m (.BoolOp .And [a] pos) t := pw_and1 h
theorem jw_or1 (h : JT X W m a t) : JW X W m (.BoolOp .Or [a] pos) t := pw_or1 h
theorem jw_and (h : JT X W m1 a t) (h2 : JW X W m2 (.BoolOp .And (b :: rest) pos) u) : JW X W (m1 || m2) (.BoolOp .And (a :: b :: rest) pos) (andM t u) := (pw_and h h2).weak fun σ H Q ⟨γ, τ, R, h⟩ => by
  unfold andM at h
  rw [fit_bind] at h
  refine ⟨γ, τ, R, h.mono (fun b τ1 h H1 s1 R1 kp => ?_) fun _ _ q => q⟩
  cases b with
  | true => exact tT_go R1 s1 kp h
  | false => exact h H1 (Same.of_or s1) R1 kp
theorem jw_or (h : JT X W m1 a t) (h2 : JW X W m2 (.BoolOp .Or (b :: rest) pos) u) : JW X W (m1 || m2) (.BoolOp .Or (a :: b :: rest) pos) (orM t u) := (pw_or h h2).weak fun σ H Q ⟨γ, τ, R, h⟩ => by
  unfold orM at h
  rw [fit_bind] at h
  refine ⟨γ, τ, R, h.mono (fun b τ1 h H1 s1 R1 kp => ?_) fun _ _ q => q⟩
  cases b with
  | false => exact tT_go R1 s1 kp h
  | true => exact h H1 (Same.of_or s1) R1 kp
theorem jt_w (h : JW X W m e t) : JT X W m e t := PW.pt h
/-- as values -/
def notE (f : M D) : M D := andThen (tst f) fun b => ret (.bl (!b))
def andE (f h : M D) : M D := andThen (tst f) fun b => if b = true then h else ret (.bl false)
def orE (f h : M D) : M D := andThen (tst f) fun b => if b = true then ret (.bl true) else h
theorem tst_fit {p : Bool → PS0 → Prop} {q : Str → PS0 → Prop} : Fit (tst f τ) p q ↔ Fit (f τ) (fun d τ' => ∃ b, asB d = some b ∧ p b τ') q := by
  unfold tst
  rw [fit_bind]
  cases f τ with
  | ok d τ' => exact fit_lift
  | exc n τ' => exact Iff.rfl
  | stuck => exact Iff.rfl
theorem asB_v {d : D} {b : Bool} {A : Addr → Prop} {v : V} (h : asB d = some b) (r : LRep g H A v d) : v = .bl b := by
  cases d with
  | bl q => cases h; exact r.bl
  | _ => cases h
theorem je_one {op : BoolOp} (h : JE X W k m a f) : JE X W k m (.BoolOp op [a] pos) f := pe_one h
theorem je_and (h : JE X W k1 m1 a fa) (h2 : JE X W .im m2 (.BoolOp .And (b :: rest) pos) fb) : JE X W .im (m1 || m2) (.BoolOp .And (a :: b :: rest) pos) (andE fa fb) := (pe_and h h2).weak fun σ H Q ⟨γ, τ, R, h⟩ => by
  unfold andE at h
  rw [fit_bind, tst_fit] at h
  refine ⟨γ, τ, R, h.mono (fun d τ1 ⟨b, eb, h⟩ v H1 s P => ?_) fun _ _ q => q⟩
  obtain ⟨R1, kp, vr⟩ := P.val
  refine ⟨b, asB_v eb vr.l, ?_⟩
  cases b with
  | true => exact tE_go R1 s kp h
  | false => exact h _ H1 (Same.of_or s) ⟨R1, kp, .bl _⟩
def iteE (t : M Bool) (fa fb : M D) : M D := andThen t fun b => if b = true then fa else fb
/-! ### a op b op c -/
def chn (o o' : D → D → Option D) (fa fb fc : M D) : M D := andThen fa fun x => andThen fb fun y => andThen (lift ((o x y).bind asB)) fun k => if k = true then andThen fc fun z => lift (o' y z) else ret (.bl false)
theorem tE_chn (hr : Op2 .im X.g r o) (hr' : Op2 .im X.g r' o') (h1 : k1 ≠ .ln ∨ m2 = false) (h2 : k2 ≠ .ln ∨ m3 = false) (σ : L2.St) (H : Hp) (Q : VK) (h : tE X.g W .im ((m1 || m2) || m3) (chn o o' fa fb fc) σ H Q) : tChain r r' (tE X.g W k1 m1 fa) (tE X.g W k2 m2 fb) (tE X.g W k3 m3 fc) σ H Q := by
  obtain ⟨γ, τ, R, h⟩ := h
  unfold chn at h
  rw [fit_bind] at h
  refine tE_bin (Kc := fun x y H2 => r x y H2 fun z H3 => ∃ k, z = .bl k ∧ (if k = true then tE X.g W k3 m3 fc σ H3 fun w' H4 => r' y w' H4 Q else Q (.bl false) H3)) h1 R (h.mono (fun d τ1 h => ?_) fun _ _ q => q)
  rw [fit_bind] at h
  refine h.mono (fun e τ2 h x y H2 s2 R2 kp vx vy => ?_) fun _ _ q => q
  rw [fit_bind, fit_lift] at h
  obtain ⟨b, eb, h⟩ := h
  cases ez : o d e with
  | none => rw [ez] at eb; cases eb
  | some z =>
    rw [ez] at eb
    have eb : asB z = some b := eb
    refine hr H2 (Av γ τ2 σ H2) x y d e z _ R2.avT vx.l vy.l ez fun v H3 ou => ?_
    have P3 := PostE.of_out (kr := .im) R2 (Kp.refl (H := H2)) (by decide) ou
    have s3 : (m1 || m2) = false → Same H H3 := fun q => (s2 q).trans ou.1
    have kp3 : Kp (Own τ σ H) H (Own τ2 σ H3) H3 := kp.trans P3.2.1
    refine ⟨b, asB_v eb (.inl P3.2.2), ?_⟩
    cases b with
    | false => exact h _ H3 (Same.of_or s3) ⟨P3.1, kp3, .bl _⟩
    | true =>
      have h : Fit (andThen fc (fun z => lift (o' e z)) τ2) _ _ := h
      rw [fit_bind] at h
      refine ⟨γ, τ2, P3.1, h.mono (fun w τ4 h w' H4 s4 P4 => ?_) fun _ _ q => q.pre kp3⟩
      obtain ⟨z4, ez4, h⟩ := fit_lift.mp h
      obtain ⟨R4, kp4, vr4⟩ := P4.val
      have vy3 : VRep k2 X.g H3 (Av γ τ2 σ H3) y e := carry (k1 := k2) (m2 := false) (.inr rfl) vy (fun _ => ou.1) P3.2.1
      have vy4 := carry (k1 := k2) h2 vy3 s4 kp4
      exact hr' H4 (Av γ τ4 σ H4) y w' e w z4 _ R4.avT vy4.l vr4.l ez4 fun v5 H5 ou5 => h v5 H5 (fun q => (or_same s3 s4 q).trans ou5.1) (PostE.of_out R4 (kp3.trans kp4) (by decide) ou5)
theorem jt_chain {op op' : CmpOp} (ho : OpR X (compareOp op) r) (hr : Op2 .im X.g r o) (ho' : OpR X (compareOp op') r') (hr' : Op2 .im X.g r' o') (ha : JE X W k1 m1 a fa) (hb : JE X W k2 m2 b fb) (hc : JE X W k3 m3 c fc)
    (h1 : k1 ≠ .ln ∨ m2 = false := by first | exact .inr rfl | exact .inl (by decide)) (h2 : k2 ≠ .ln ∨ m3 = false := by first | exact .inr rfl | exact .inl (by decide)) (hm : lastMarks [op, op'] [b, c] = false := by with_unfolding_all rfl) :
    JT X W ((m1 || m2) || m3) (.Compare a [op, op'] [b, c] pos) (tst (chn o o' fa fb fc)) := (pt_chain ho ho' ha hb hc hm).weak fun σ H Q h => by
  refine tE_chn hr hr' h1 h2 σ H _ ?_
  obtain ⟨γ, τ, R, h⟩ := h
  rw [tst_fit] at h
  refine ⟨γ, τ, R, h.mono (fun d τ' ⟨b, eb, h⟩ v H' s P => ?_) fun _ _ q => q⟩
  exact ⟨b, asB_v eb (.inl P.2.2), h H' s P.1 P.2.1⟩

/-! ### argument lists, displays -/
def argN : M (List D) := ret []
def argC (f : M D) (fs : M (List D)) : M (List D) := andThen f fun d => andThen fs fun ds => ret (d :: ds)
theorem ja_nil : JA X W false [] argN := pa_nil.weak fun σ H Q ⟨γ, τ, R, h⟩ => h [] H (fun _ => Same.refl H) R Kp.refl .nil
theorem ja_cons (h : JE X W .im m1 e f) (hs : JA X W m2 es fs) (hst : starEach (e :: es) X.env = (false, eval e X.env) :: starEach es X.env := by rfl) : JA X W (m1 || m2) (e :: es) (argC f fs) := (pa_cons h hs hst).weak fun σ H Q ⟨γ, τ, R, h⟩ => by
  unfold argC at h
  rw [fit_bind] at h
  refine ⟨γ, τ, R, h.mono (fun d τ1 h v H1 s1 P1 => ?_) fun _ _ q => q⟩
  obtain ⟨R1, kp1, r1⟩ := P1
  rw [fit_bind] at h
  refine ⟨γ, τ1, R1, h.mono (fun ds τ2 h vs H2 s2 R2 kp2 rs => ?_) fun _ _ q => q.pre kp1⟩
  exact h (v :: vs) H2 (or_same s1 s2) R2 (kp1.trans kp2) (.cons (r1.kp kp2.av) rs)
/-- (a, b, ..), [a, b, ..] -/
def tupE (fs : M (List D)) : M D := andThen fs fun ds => lift (if ds.length ≤ 16777216 then some (.tup ds) else none)
def lstE (fs : M (List D)) : M D := andThen fs fun ds => lift (if ds.length ≤ 16777216 then some (.lst ds) else none)
theorem je_tup {x1} (h : JA X W m es fs) : JE X W .im m (.Tuple es x1 pos) (tupE fs) := (pe_tup h).weak fun σ H Q ⟨γ, τ, R, h⟩ => by
  unfold tupE at h
  rw [fit_bind] at h
  refine ⟨γ, τ, R, h.mono (fun ds τ1 h vs H1 s1 R1 kp1 rs => ?_) fun _ _ q => q⟩
  obtain ⟨z, ez, h⟩ := fit_lift.mp h
  split at ez
  · rename_i hz
    cases ez
    refine ⟨by rw [rs.length]; exact hz, fun p hp => ?_⟩
    have ou := out_tup R1.avT rs hp
    exact h _ _ (fun q => (s1 q).trans ou.1) (PostE.of_out R1 kp1 (by decide) ou)
  · cases ez
theorem je_lst (h : JA X W m es fs) : JE X W .fr m (.List es pos) (lstE fs) := (pe_lst h).weak fun σ H Q ⟨γ, τ, R, h⟩ => by
  unfold lstE at h
  rw [fit_bind] at h
  refine ⟨γ, τ, R, h.mono (fun ds τ1 h vs H1 s1 R1 kp1 rs => ?_) fun _ _ q => q⟩
  obtain ⟨z, ez, h⟩ := fit_lift.mp h
  split at ez
  · rename_i hz
    cases ez
    refine ⟨by rw [rs.length]; exact hz, fun p hp => ?_⟩
    have ou := out_lst (k := .fr) (by decide) R1.avT rs hp
    exact h _ _ (fun q => (s1 q).trans ou.1) (PostE.of_out R1 kp1 (by decide) ou)
  · cases ez
end
end PL

namespace PL
open PySem PySem.Spec PyProof.Rows L2

section
variable {X : Cx} {W : WX} {g : Gc} {γ : G} {τ τ' τ1 τ2 : PS0} {σ σ' : L2.St} {H H' H1 H2 : Hp} {A : Addr → Prop} {p : Addr} {v : V} {d : D} {k k1 k2 k3 kr : Kd} {m m1 m2 m3 : Bool} {e e1 e2 a b c : Expr} {es rest : List Expr} {f fa fb fc : M D} {t u : M Bool} {fs : M (List D)} {pos : Pos} {r r' : R2} {o o' : D → D → Option D}

/-! ### xs[i] -/
theorem IxR.or' {r s : R2} (h : IxR X r) (k : IxR X s) : IxR X (r2or r s) := by
  intro value slice pins st σ H x y v u Q I rx ry q hs
  rcases q with q | q
  · exact h value slice pins st σ H x y v u Q I rx ry q hs
  · exact k value slice pins st σ H x y v u Q I rx ry q hs
def oIx : D → D → Option D
  | .lst xs, .int i => atI xs i
  | .tup xs, .int i => atI xs i
  | .fz xs, .int i => atI xs i
  | .mt xs, .int i => atI xs i
  | .str s, .int i => if s.length ≤ 16777216 then (atI s i).map fun c => .str [c] else none
  | _, _ => none
def rIxAll (K : PySem.W.Frag) : R2 := r2or (rIxL K) (r2or (rIxT K) rIxS)
theorem ix_all : IxR X (rIxAll X.K) := IxR.or' ix_list (IxR.or' ix_tup ix_str)
theorem RepA.at {vs : List V} {ds : List D} {i : Int} {d : D} (r : RepA g H A vs ds) (h : atI ds i = some d) : ∃ v, atI vs i = some v ∧ Rep g H A v d := by
  unfold atI at h ⊢
  rw [r.length]
  cases e : ixN ds.length i with
  | none => rw [e] at h; cases h
  | some j =>
    rw [e] at h
    exact r.get h
theorem o2_ix : Op2 .im g (rIxAll g.K) oIx := fun H A x y d e z Q hA rx ry ho q => by
  unfold oIx at ho
  split at ho
  · obtain ⟨a, vs, rfl, ha, ra⟩ := rx.lst
    obtain ⟨v, hv, rv⟩ := ra.at ho
    rw [ry.int]
    exact .inl ⟨a, vs, _, v, rfl, rfl, .inl (.inl ha), hv, q v H ⟨Same.refl H, rv⟩⟩
  · obtain ⟨a, vs, rfl, ha, ra⟩ := rx.tup
    obtain ⟨v, hv, rv⟩ := ra.at ho
    rw [ry.int]
    exact .inr (.inl ⟨a, vs, _, v, rfl, rfl, ha.sq, hv, q v H ⟨Same.refl H, rv⟩⟩)
  · obtain ⟨a, vs, rfl, ha, ra⟩ := rx.fz
    obtain ⟨v, hv, rv⟩ := ra.at ho
    rw [ry.int]
    exact .inl ⟨a, vs, _, v, rfl, rfl, ha.sq, hv, q v H ⟨Same.refl H, rv⟩⟩
  · obtain ⟨a, vs, rfl, ha, ra⟩ := rx.mt
    obtain ⟨v, hv, rv⟩ := ra.at ho
    rw [ry.int]
    exact .inr (.inl ⟨a, vs, _, v, rfl, rfl, sqT_up ha, hv, q v H ⟨Same.refl H, rv⟩⟩)
  · split at ho
    · rename_i s i hz
      rw [rx.str, ry.int]
      cases hc : atI s i with
      | none => rw [hc] at ho; cases ho
      | some c =>
        rw [hc] at ho
        cases ho
        exact .inr (.inr ⟨S s, i, c, rfl, rfl, by rw [S_len]; exact hz, hc, q (.str ⟨#[c]⟩) H (out_flat fun _ _ => .str [c])⟩)
    · cases ho
  · cases ho
theorem je_ix (ha : JE X W k1 m1 a fa) (hb : JE X W k2 m2 b fb) (hk : k1 ≠ .ln ∨ m2 = false := by first | exact .inr rfl | exact .inl (by decide)) (hs : PlainIx b := by exact fun _ _ => rfl) : JE X W .im (m1 || m2) (.Subscript a b pos) (op2 oIx fa fb) :=
  (pe_ix ix_all ha hb hs).weak (tE_op2 o2_ix hk (by decide))

/-! ### a[lo:hi] -/
def cutD {α : Type} (xs : List α) (lo hi : Option Int) : List α := (xs.drop (HT.sIx xs.length 0 lo)).take (HT.sIx xs.length xs.length hi - HT.sIx xs.length 0 lo)
theorem RepA.cut {vs : List V} {ds : List D} (r : RepA g H A vs ds) (lo hi : Option Int) : RepA g H A (cutV vs lo hi) (cutD ds lo hi) := by
  unfold cutV cutD
  rw [r.length]
  exact (r.drop _).take _
abbrev MO := M (Option Int)
def tO (g : Gc) (W : WX) (m : Bool) (f : MO) : TO := fun σ H Q => ∃ γ τ, Rel g γ τ σ H ∧ Fit (f τ) (fun o τ' => ∀ H', (m = false → Same H H') → Rel g γ τ' σ H' → Kp (Own τ σ H) H (Own τ' σ H') H' → Q o H') (XW g W γ τ σ H)
abbrev JO (X : Cx) (W : WX) (m : Bool) (e : Option Expr) (f : MO) : Prop := PO X e (tO X.g W m f)
theorem PO.weak {X : Cx} {e : Option Expr} {t t' : TO} (h : PO X e t) (w : ∀ σ H Q, t' σ H Q → t σ H Q) : PO X e t' := ⟨fun pins s σ H Q I q => h.run pins s σ H Q I (w σ H Q q)⟩
def asI : D → Option Int
  | .int i => some i
  | _ => none
def noP : MO := ret none
def partM (f : M D) : MO := andThen f fun d => lift ((asI d).map some)
theorem jo_none : JO X W false none noP := PO.weak po_none fun σ H Q ⟨γ, τ, R, h⟩ => h H (fun _ => Same.refl H) R Kp.refl
theorem asI_v {d : D} {i : Int} {v : V} (h : asI d = some i) (r : LRep g H A v d) : v = .int i := by
  cases d with
  | int j => cases h; exact r.int
  | _ => cases h
theorem jo_some (h : JE X W k m e f) : JO X W m (some e) (partM f) := PO.weak (po_some h) fun σ H Q ⟨γ, τ, R, h⟩ => by
  unfold partM at h
  rw [fit_bind] at h
  refine ⟨γ, τ, R, h.mono (fun d τ1 h v H1 s P => ?_) fun _ _ q => q⟩
  obtain ⟨o, eo, h⟩ := fit_lift.mp h
  obtain ⟨R1, kp, vr⟩ := P.val
  cases ei : asI d with
  | none => rw [ei] at eo; cases eo
  | some i =>
    rw [ei] at eo
    cases eo
    exact ⟨i, asI_v ei vr.l, h H1 s R1 kp⟩
def Sl (k : Kd) (g : Gc) (r : V → Option Int → Option Int → Hp → VK → Prop) (o : D → Option Int → Option Int → Option D) : Prop := ∀ (H : Hp) (A : Addr → Prop) (x : V) (d z : D) (lo hi : Option Int) (Q : VK), (∀ a, A a → ∃ u, H a = some u) → LRep g H A x d → o d lo hi = some z →
  (∀ v H', Out k g H A H' v z → Q v H') → r x lo hi H Q
def sl3 (o : D → Option Int → Option Int → Option D) (fa : M D) (fl fh : MO) : M D := andThen fa fun x => andThen fl fun lo => andThen fh fun hi => lift (o x lo hi)
theorem je_sl {rs : V → Option Int → Option Int → Hp → VK → Prop} {os : D → Option Int → Option Int → Option D} {lo hi : Option Expr} {fl fh : MO} {p2 : Pos} (hr : SlR X rs) (ho : Sl kr X.g rs os) (ha : JE X W k1 m1 a fa) (hl : JO X W m2 lo fl) (hh : JO X W m3 hi fh)
    (hk : k1 ≠ .ln ∨ (m2 || m3) = false := by first | exact .inr rfl | exact .inl (by decide)) (hkr : kr ≠ .ln := by decide) : JE X W kr ((m1 || m2) || m3) (.Subscript a (.Slice lo hi none p2) pos) (sl3 os fa fl fh) :=
  (pe_slice hr ha hl hh).weak fun σ H Q ⟨γ, τ, R, h⟩ => by
    unfold sl3 at h
    rw [fit_bind] at h
    refine ⟨γ, τ, R, h.mono (fun d τ1 h x H1 s1 P1 => ?_) fun _ _ q => q⟩
    obtain ⟨R1, kp1, v1⟩ := P1.val
    rw [fit_bind] at h
    refine ⟨γ, τ1, R1, h.mono (fun l τ2 h H2 s2 R2 kp2 => ?_) fun _ _ q => q.pre kp1⟩
    rw [fit_bind] at h
    refine ⟨γ, τ2, R2, h.mono (fun u τ3 h H3 s3 R3 kp3 => ?_) fun _ _ q => q.pre (kp1.trans kp2)⟩
    obtain ⟨z, ez, h⟩ := fit_lift.mp h
    have v3 := carry (k1 := k1) (m2 := m2 || m3) hk v1 (fun q => or_same s2 s3 q) (kp2.trans kp3)
    exact ho H3 _ x d z l u _ R3.avT v3.l ez fun v H' ou => h v H' (fun q => (or_same (or_same s1 s2) s3 q).trans ou.1) (PostE.of_out R3 ((kp1.trans kp2).trans kp3) hkr ou)
theorem S_cut (s : List Nat) (lo hi : Option Int) : cutS (S s) lo hi = S (cutD s lo hi) := by
  unfold cutS cutD
  rw [S_len, S_cps] <;> rfl
/-- a text, a list, a tuple -/
def oSl : D → Option Int → Option Int → Option D
  | .str s, lo, hi => if s.length ≤ 16777216 then some (.str (cutD s lo hi)) else none
  | .lst xs, lo, hi => some (.lst (cutD xs lo hi))
  | .fz xs, lo, hi => some (.lst (cutD xs lo hi))
  | .tup xs, lo, hi => some (.tup (cutD xs lo hi))
  | _, _, _ => none
def rSlAll (K : PySem.W.Frag) : V → Option Int → Option Int → Hp → VK → Prop := fun x lo hi H Q => rSlL K x lo hi H Q ∨ (rSlS x lo hi H Q ∨ rSlA K x lo hi H Q)
theorem sl_all : SlR X (rSlAll X.K) := SlR.or sl_list (SlR.or sl_str sl_tupA)
theorem sl_D : Sl .im g (rSlAll g.K) oSl := fun H A x d z lo hi Q hA rx ho q => by
  unfold oSl at ho
  split at ho
  · split at ho
    · rename_i hz
      cases ho
      rw [rx.str]
      refine .inr (.inl ⟨_, rfl, by rw [S_len]; exact hz, ?_⟩)
      rw [S_cut]
      exact q _ _ (out_flat fun _ _ => .str _)
    · cases ho
  · cases ho
    obtain ⟨a, vs, rfl, ha, ra⟩ := rx.lst
    exact .inl ⟨a, vs, rfl, .inl (.inl ha), fun p hp => q _ _ (out_lst (by decide) hA (ra.cut lo hi) hp)⟩
  · cases ho
    obtain ⟨a, vs, rfl, ha, ra⟩ := rx.fz
    exact .inl ⟨a, vs, rfl, ha.sq, fun p hp => q _ _ (out_lst (by decide) hA (ra.cut lo hi) hp)⟩
  · rename_i xs
    cases ho
    obtain ⟨a, vs, rfl, ha, ra⟩ := rx.tup
    refine .inr (.inr ⟨a, vs, rfl, ha.sq, fun hw => ?_, fun _ p hp => q _ _ (out_tup hA (ra.cut lo hi) hp)⟩)
    refine q _ _ ⟨Same.refl H, .tup ha ?_⟩
    have e : cutD xs lo hi = xs := by
      unfold cutD
      rw [← ra.length, hw.1, hw.2, List.drop_zero, Nat.sub_zero, ra.length, List.take_length]
    rw [e]
    exact ra
  · cases ho

/-! ### a[::-1] -/
theorem rev_idx (z : Str) : (Builtin.Str.strSliceIndices none none (-1) z.length).filterMap (z.cps[·]?) = z.cps.toList.reverse := by
  show (sliceRange ((z.cps.size : Int) - 1) (-1) (-1)).filterMap (z.cps[·]?) = _
  rw [PySem.W.krv_sliceRange, PySem.W.krv_range, List.filterMap_reverse, PySem.W.krv_all]
def tRevS (te : TE) : TE := fun σ H Q => te σ H fun x H1 => ∃ z, x = .str z ∧ z.length ≤ sizeLine ∧ Q (.str ⟨z.cps.toList.reverse.toArray⟩) H1
theorem pe_revS {e : Expr} {te : TE} {k : Nat} {p1 p2 p3 pos : Pos} (he : PE X e te) : PE X (.Subscript e (.Slice none none (some (.UnaryOp .USub (.Constant (.int 1) k p1) p2)) p3) pos) (tRevS te) := by
  refine ⟨fun pins s σ H Q I h => ?_⟩
  refine Subscript_ (thn (he.run pins s σ H _ I h) fun v s1 ⟨x, H1, I1, r1, q1⟩ => ?_)
  obtain ⟨z, ex, hx, q⟩ := q1
  subst ex
  obtain ⟨t, rfl⟩ := r1
  have hst : PO X (some (.UnaryOp .USub (.Constant (.int 1) k p1) p2)) (tPart (tUn (rU fun i => .int (-i)) (tC (.int 1)))) := po_some (pe_un un_neg pe_int)
  refine wpAny_Slice (thn (po_none.run pins s1 σ H1 (fun o H2 => o = none ∧ H2 = H1) I1 ⟨rfl, rfl⟩) fun vl s2 ⟨l, H2, I2, pl, el, e2⟩ => ?_)
  subst el e2
  refine thn (po_none.run pins s2 σ H2 (fun o H3 => o = none ∧ H3 = H2) I2 ⟨rfl, rfl⟩) fun vu s3 ⟨u, H3, I3, pu, eu, e3⟩ => ?_
  subst eu e3
  refine thn (hst.run pins s3 σ H3 (fun o H4 => o = some (-1) ∧ H4 = H3) I3 ⟨1, rfl, -1, rfl, rfl, rfl⟩) fun vs s4 ⟨o, H4, I4, ps, eo, e4⟩ => ?_
  subst eo e4
  have I5 : Inv X pins σ H4 { s4 with heap := s4.heap.push { cls := .type "slice", data := .fields #[vl, vu, vs] } } := I4.kept (t' := s4.toks) fun b ob q => Heap.get?_push_of_some _ q
  obtain ⟨l0, e1, e1'⟩ := IsPart.raw pl
  obtain ⟨u0, e2, e2'⟩ := IsPart.raw pu
  obtain ⟨o0, e3, e3'⟩ := IsPart.raw ps
  cases l0 with
  | some q => cases e1'
  | none =>
  cases u0 with
  | some q => cases e2'
  | none =>
  cases o0 with
  | none => cases e3'
  | some q =>
  obtain ⟨qi, qt⟩ := q
  cases e3'
  subst e1 e2 e3
  show wpAny (model X.prog X.w) X.A (subscriptTail e (.Slice none none (some (.UnaryOp .USub (.Constant (.int 1) k p1) p2)) p3) (.str z t) (.ref s4.heap.objs.size)) (EP X pins σ Q) X.xe _
  refine tail_any (ops := [.str z t, .ref s4.heap.objs.size]) (typeIs_str _ _ _) (F.slot_str_getitem.lookup) ?_ (by with_unfolding_all rfl)
  refine wpAny_getItem_str_slice (l := none) (u := none) (st := some (-1, qt)) ⟨_, Heap.get?_push_size _ rfl, rfl, rfl⟩ rfl ?_
  have hl : (⟨z.cps.toList.reverse.toArray⟩ : Str).length ≤ sizeLine := by
    show z.cps.toList.reverse.toArray.size ≤ sizeLine
    rw [List.size_toArray, List.length_reverse, Array.length_toList]
    exact hx
  show Made.post (Made.str ⟨((Builtin.Str.strSliceIndices none none (-1) z.length).filterMap (z.cps[·]?)).toArray⟩) (EP X pins σ Q) _
  rw [rev_idx]
  exact ⟨hl, .str _, H4, I5.tok _, ⟨_, rfl⟩, q⟩
theorem PE.or {e : Expr} {t t' : TE} (h : PE X e t) (h' : PE X e t') : PE X e (fun σ H Q => t σ H Q ∨ t' σ H Q) := ⟨fun pins s σ H Q I q => q.elim (h.run pins s σ H Q I) (h'.run pins s σ H Q I)⟩
def oRev : D → Option D
  | .str s => if s.length ≤ 16777216 then some (.str s.reverse) else none
  | .lst xs => some (.lst xs.reverse)
  | .fz xs => some (.lst xs.reverse)
  | _ => none
def op1 (o : D → Option D) (f : M D) : M D := andThen f fun x => lift (o x)
theorem je_rev {kk : Nat} {p1 p2 p3 pos : Pos} (h : JE X W k m e f) : JE X W .im m (.Subscript e (.Slice none none (some (.UnaryOp .USub (.Constant (.int 1) kk p1) p2)) p3) pos) (op1 oRev f) := (PE.or (pe_revL h) (pe_revS h)).weak fun σ H Q ⟨γ, τ, R, q⟩ => by
  unfold op1 at q
  rw [fit_bind] at q
  cases ef : f τ with
  | stuck => rw [ef] at q; exact q.elim
  | exc n τ' =>
    rw [ef] at q
    exact .inl ⟨γ, τ, R, by rw [ef]; exact q⟩
  | ok d τ1 =>
    rw [ef] at q
    obtain ⟨z, ez, q⟩ := fit_lift.mp q
    unfold oRev at ez
    split at ez
    · split at ez
      · rename_i s hz
        cases ez
        refine .inr ⟨γ, τ, R, ?_⟩
        rw [ef]
        intro v H1 s1 P1
        obtain ⟨R1, kp1, v1⟩ := P1.val
        refine ⟨_, v1.l.str, by rw [S_len]; exact hz, q _ H1 s1 ⟨R1, kp1, ?_⟩⟩
        exact .str _
      · cases ez
    · cases ez
      refine .inl ⟨γ, τ, R, ?_⟩
      rw [ef]
      intro v H1 s1 P1
      obtain ⟨R1, kp1, v1⟩ := P1.val
      obtain ⟨a, vs, rfl, ha, ra⟩ := v1.l.lst
      refine ⟨a, vs, rfl, .inl (.inl ha), fun p hp => ?_⟩
      have ou := out_lst (k := .im) (by decide) R1.avT ra.reverse hp
      exact q _ _ (fun z => (s1 z).trans ou.1) (PostE.of_out R1 kp1 (by decide) ou)
    · cases ez
      refine .inl ⟨γ, τ, R, ?_⟩
      rw [ef]
      intro v H1 s1 P1
      obtain ⟨R1, kp1, v1⟩ := P1.val
      obtain ⟨a, vs, rfl, ha, ra⟩ := v1.l.fz
      refine ⟨a, vs, rfl, ha.sq, fun p hp => ?_⟩
      have ou := out_lst (k := .im) (by decide) R1.avT ra.reverse hp
      exact q _ _ (fun z => (s1 z).trans ou.1) (PostE.of_out R1 kp1 (by decide) ou)
    · cases ez
/-! ### calls of built-in functions -/
def Fn1 (k : Kd) (g : Gc) (r : List V → Hp → VK → Prop) (o : D → Option D) : Prop := ∀ (H : Hp) (A : Addr → Prop) (x : V) (d z : D) (Q : VK), (∀ a, A a → ∃ u, H a = some u) → LRep g H A x d → o d = some z → (∀ v H', Out k g H A H' v z → Q v H') → r [x] H Q
def Fn2 (k : Kd) (g : Gc) (r : List V → Hp → VK → Prop) (o : D → D → Option D) : Prop := ∀ (H : Hp) (A : Addr → Prop) (x y : V) (d e z : D) (Q : VK), (∀ a, A a → ∃ u, H a = some u) → LRep g H A x d → LRep g H A y e → o d e = some z → (∀ v H', Out k g H A H' v z → Q v H') → r [x, y] H Q
theorem tE_fn1 {rf : List V → Hp → VK → Prop} {of : D → Option D} (hr : Fn1 kr X.g rf of) (hkr : kr ≠ .ln) (σ : L2.St) (H : Hp) (Q : VK) (h : tE X.g W kr m (op1 of f) σ H Q) : tCB rf (tCons (tE X.g W k m f) tNil) σ H Q := by
  obtain ⟨γ, τ, R, h⟩ := h
  unfold op1 at h
  rw [fit_bind] at h
  refine ⟨γ, τ, R, h.mono (fun d τ1 h v H1 s1 P1 => ?_) fun _ _ q => q⟩
  obtain ⟨z, ez, h⟩ := fit_lift.mp h
  obtain ⟨R1, kp1, v1⟩ := P1.val
  exact hr H1 (Av γ τ1 σ H1) v d z Q R1.avT v1.l ez fun v' H' o => h v' H' (fun q => (s1 q).trans o.1) (PostE.of_out R1 kp1 hkr o)
theorem tE_fn2 {rf : List V → Hp → VK → Prop} (hr : Fn2 kr X.g rf o) (hk : k1 ≠ .ln ∨ m2 = false) (hkr : kr ≠ .ln) (σ : L2.St) (H : Hp) (Q : VK) (h : tE X.g W kr (m1 || m2) (op2 o fa fb) σ H Q) : tCB rf (tCons (tE X.g W k1 m1 fa) (tCons (tE X.g W k2 m2 fb) tNil)) σ H Q := by
  obtain ⟨γ, τ, R, h⟩ := h
  unfold op2 at h
  rw [fit_bind] at h
  refine tE_bin (Kc := fun x y H2 => rf [x, y] H2 Q) hk R (h.mono (fun d τ1 h => ?_) fun _ _ q => q)
  rw [fit_bind] at h
  refine h.mono (fun e τ2 h x y H2 s2 R2 kp vx vy => ?_) fun _ _ q => q
  obtain ⟨z, ez, h⟩ := fit_lift.mp h
  exact hr H2 (Av γ τ2 σ H2) x y d e z Q R2.avT vx.l vy.l ez fun v H' o => h v H' (fun q => (s2 q).trans o.1) (PostE.of_out R2 kp hkr o)
theorem je_b1 {rf : List V → Hp → VK → Prop} {of : D → Option D} {id : String} {x : Str} {p : Pos} (hc : CallR X (.builtin id) rf) (hr : Fn1 kr X.g rf of) (hg : Gl X x) (hm : X.mg x = none) (hv : bootBuiltins x = some (.builtin id)) (ha : JE X W k m a fa) (hkr : kr ≠ .ln := by decide)
    (hn : x ≠ "__name__" := by decide) (hdb : (x == ("__debug__" : Str)) = false := by decide) (he : starEach [a] X.env = (false, eval a X.env) :: starEach [] X.env := by rfl) : JE X W kr m (.Call (.Name x p) [a] [] pos) (op1 of fa) :=
  (pe_callB hc hg hm hv (pa_cons ha pa_nil he) hn hdb he (by rfl)).weak (tE_fn1 hr hkr)
theorem je_t1 {rf : List V → Hp → VK → Prop} {of : D → Option D} {T : String} {x : Str} {p : Pos} (hc : CallR X (.type T) rf) (hr : Fn1 kr X.g rf of) (hg : Gl X x) (hm : X.mg x = none) (hv : bootBuiltins x = some (.type T)) (ha : JE X W k m a fa) (hkr : kr ≠ .ln := by decide)
    (hn : x ≠ "__name__" := by decide) (hdb : (x == ("__debug__" : Str)) = false := by decide) (he : starEach [a] X.env = (false, eval a X.env) :: starEach [] X.env := by rfl) : JE X W kr m (.Call (.Name x p) [a] [] pos) (op1 of fa) :=
  (pe_callTy hc hg hm hv (pa_cons ha pa_nil he) hn hdb he (by rfl)).weak (tE_fn1 hr hkr)
theorem je_b2 {rf : List V → Hp → VK → Prop} {id : String} {x : Str} {p : Pos} (hc : CallR X (.builtin id) rf) (hr : Fn2 kr X.g rf o) (hg : Gl X x) (hm : X.mg x = none) (hv : bootBuiltins x = some (.builtin id)) (ha : JE X W k1 m1 a fa) (hb : JE X W k2 m2 b fb)
    (hk : k1 ≠ .ln ∨ m2 = false := by first | exact .inr rfl | exact .inl (by decide)) (hkr : kr ≠ .ln := by decide)
    (hn : x ≠ "__name__" := by decide) (hdb : (x == ("__debug__" : Str)) = false := by decide) (he : starEach [a, b] X.env = (false, eval a X.env) :: starEach [b] X.env := by rfl) (he2 : starEach [b] X.env = (false, eval b X.env) :: starEach [] X.env := by rfl)
    (hpl : (backTo pos (starEach [b] X.env)).any (·.1) = false := by rfl) : JE X W kr (m1 || m2) (.Call (.Name x p) [a, b] [] pos) (op2 o fa fb) :=
  (pe_callB hc hg hm hv (pa_cons ha (pa_cons hb pa_nil he2) he) hn hdb he hpl).weak (tE_fn2 hr hk hkr)
/-- len -/
def oLen : D → Option D
  | .lst xs => some (.int xs.length)
  | .fz xs => some (.int xs.length)
  | .tup xs => some (.int xs.length)
  | .str s => if s.length ≤ 16777216 then some (.int s.length) else none
  | .dK kvs => some (.int kvs.length)
  | _ => none
def cror (r s : List V → Hp → VK → Prop) : List V → Hp → VK → Prop := fun xs H Q => r xs H Q ∨ s xs H Q
theorem CallR.or' {f : Value} {r s : List V → Hp → VK → Prop} (h : CallR X f r) (k : CallR X f s) : CallR X f (cror r s) := by
  intro pins st σ H xs us Q I rx q
  rcases q with q | q
  · exact h pins st σ H xs us Q I rx q
  · exact k pins st σ H xs us Q I rx q
def rLen (K : PySem.W.Frag) : List V → Hp → VK → Prop := cror (fun xs H Q => ∃ x n, xs = [x] ∧ LenV K x H n ∧ Q (.int n) H) (fun xs H Q => ∃ a kvs, xs = [V.ref a] ∧ H a = some (.dK kvs) ∧ Q (.int kvs.length) H)
theorem call_lenA : CallR X (.builtin "len") (rLen X.K) := CallR.or' call_len call_lenD
theorem fn_len : Fn1 .im g (rLen g.K) oLen := fun H A x d z Q hA rx ho q => by
  unfold oLen at ho
  split at ho
  · cases ho
    obtain ⟨a, vs, rfl, ha, ra⟩ := rx.lst
    rw [← ra.length] at q
    exact .inl ⟨_, vs.length, rfl, .inl ⟨vs, .inl (.inl ha), rfl⟩, q _ _ (out_flat fun _ _ => .int _)⟩
  · cases ho
    obtain ⟨a, vs, rfl, ha, ra⟩ := rx.fz
    rw [← ra.length] at q
    exact .inl ⟨_, vs.length, rfl, .inl ⟨vs, ha.sq, rfl⟩, q _ _ (out_flat fun _ _ => .int _)⟩
  · cases ho
    obtain ⟨a, vs, rfl, ha, ra⟩ := rx.tup
    rw [← ra.length] at q
    exact .inl ⟨_, vs.length, rfl, .inr ⟨vs, ha.sq, rfl⟩, q _ _ (out_flat fun _ _ => .int _)⟩
  · split at ho
    · rename_i s hz
      cases ho
      rw [rx.str]
      exact .inl ⟨_, s.length, rfl, ⟨by rw [S_len]; exact hz, (S_len s).symm⟩, q _ _ (out_flat fun _ _ => .int _)⟩
    · cases ho
  · rename_i es
    cases ho
    obtain ⟨a, kvs, rfl, ha, ek, ra⟩ := rx.dK
    have e : kvs.length = es.length := by simpa using congrArg List.length ek
    rw [← e] at q
    exact .inr ⟨a, kvs, rfl, ha, q _ _ (out_flat fun _ _ => .int _)⟩
  · cases ho
/-- int(x) -/
def intOf (s : List Nat) : Option Int := if s.length ≤ 640 then PySem.intText? (S s) else none
def oInt : D → Option D
  | .int i => some (.int i)
  | .bl b => some (.int (if b then 1 else 0))
  | .str s => (intOf s).map .int
  | _ => none
/-- max(i, j), min(i, j) -/
def oMax : D → D → Option D := oI (fun _ _ => true) fun i j => .int (if j > i then j else i)
def oMin : D → D → Option D := oI (fun _ _ => true) fun i j => .int (if j < i then j else i)
theorem fn_max : Fn2 .im g (fun xs H Q => ∃ i j, xs = [.int i, .int j] ∧ Q (.int (if j > i then j else i)) H) oMax := fun H A x y d e z Q hA rx ry ho q => by
  unfold oMax oI at ho
  split at ho
  · split at ho
    · cases ho
      rw [rx.int, ry.int]
      exact ⟨_, _, rfl, q _ _ (out_flat fun _ _ => .int _)⟩
    · cases ho
  · cases ho
theorem fn_min : Fn2 .im g (fun xs H Q => ∃ i j, xs = [.int i, .int j] ∧ Q (.int (if j < i then j else i)) H) oMin := fun H A x y d e z Q hA rx ry ho q => by
  unfold oMin oI at ho
  split at ho
  · split at ho
    · cases ho
      rw [rx.int, ry.int]
      exact ⟨_, _, rfl, q _ _ (out_flat fun _ _ => .int _)⟩
    · cases ho
  · cases ho
/-- ord(c) -/
def oOrd : D → Option D
  | .str [c] => some (.int c)
  | _ => none
theorem fn_ord : Fn1 .im g (fun xs H Q => ∃ x, xs = [.str x] ∧ x.length = 1 ∧ Q (.int (x.cps.getD 0 0 : Nat)) H) oOrd := fun H A x d z Q hA rx ho q => by
  unfold oOrd at ho
  split at ho
  · cases ho
    rw [rx.str]
    exact ⟨_, rfl, rfl, q _ _ (out_flat fun _ _ => .int _)⟩
  · cases ho
/-- isinstance(x, T), T a built-in type -/
def tyN : D → Option String
  | .non => some "NoneType" | .bl _ => some "bool" | .int _ => some "int" | .str _ => some "str" | .lst _ => some "list" | .fz _ => some "list" | .tup _ => some "tuple" | .dK _ => some "dict" | .dT _ => some "dict"
  | _ => none
theorem tyN_ok {x : V} {t : String} (r : LRep g H A x d) (h : tyN d = some t) : TyX g.K H x (.type t) := by
  unfold tyN at h
  split at h
  · cases h; rw [r.non]; exact .base .non
  · cases h; rw [r.bl]; exact .base (.bl _)
  · cases h; rw [r.int]; exact .base (.int _)
  · cases h; rw [r.str]; exact .base (.str _)
  · cases h; obtain ⟨a, vs, rfl, ha, _⟩ := r.lst; exact .base (.lst ha)
  · cases h
    obtain ⟨a, vs, rfl, ha, _⟩ := r.fz
    rcases ha with ⟨ob, ha, _⟩ | ha
    · exact .base (.frz ha)
    · rcases ha with (ha | ⟨_, ha⟩) | ⟨ob, its, n, hk, hc, _⟩
      · cases ha
      · cases ha
      · exact .kList hk hc
  · cases h
    obtain ⟨a, vs, rfl, ha, _⟩ := r.tup
    exact .base (.tup ha.1)
  · cases h; obtain ⟨a, vs, rfl, ha, _⟩ := r.dK; exact .base (.dK ha)
  · cases h; obtain ⟨a, vs, rfl, ha, _⟩ := r.dT; exact .base (.dT ha)
  · cases h
def isTy (T t : String) : Bool := t == T || (t == "bool" && T == "int")
def allTy : List String := ["NoneType", "bool", "int", "str", "list", "tuple", "dict"]
def oIsi (T : String) : D → Option D := fun d => (tyN d).map fun t => .bl (isTy T t)
theorem tyN_mem {d : D} {t : String} (h : tyN d = some t) : t ∈ allTy := by
  cases d <;> first | (cases h; done) | (cases h; decide)
theorem je_isi {T : String} {x y : Str} {p p2 : Pos} (hT : ∀ t ∈ allTy, kitB t T = some (isTy T t)) (hg : Gl X x) (hm : X.mg x = none) (hv : bootBuiltins x = some (.builtin "isinstance")) (hg2 : Gl X y) (hm2 : X.mg y = none) (hv2 : bootBuiltins y = some (.type T)) (ha : JE X W k m a fa)
    (hn : x ≠ "__name__" := by decide) (hdb : (x == ("__debug__" : Str)) = false := by decide) (hn2 : y ≠ "__name__" := by decide) (hdb2 : (y == ("__debug__" : Str)) = false := by decide) (he : starEach [a, .Name y p2] X.env = (false, eval a X.env) :: starEach [.Name y p2] X.env := by rfl)
    (he2 : starEach [.Name y p2] X.env = (false, eval (.Name y p2) X.env) :: starEach [] X.env := by rfl) (hpl : (backTo pos (starEach [.Name y p2] X.env)).any (·.1) = false := by rfl) : JE X W .im m (.Call (.Name x p) [a, .Name y p2] [] pos) (op1 (oIsi T) fa) :=
  (pe_callB call_isi hg hm hv (pa_cons ha (pa_cons (pe_bltn (v := .ty T) hg2 hm2 hv2 rfl hn2 hdb2) pa_nil he2) he) hn hdb he hpl).weak fun σ H Q ⟨γ, τ, R, h⟩ => by
    unfold op1 at h
    rw [fit_bind] at h
    refine ⟨γ, τ, R, h.mono (fun d τ1 h v H1 s1 P1 => ?_) fun _ _ q => q⟩
    obtain ⟨z, ez, h⟩ := fit_lift.mp h
    obtain ⟨R1, kp1, v1⟩ := P1.val
    unfold oIsi at ez
    cases et : tyN d with
    | none => rw [et] at ez; cases ez
    | some t =>
      rw [et] at ez
      cases ez
      exact ⟨v, .ty T, .type t, .type T, isTy T t, rfl, .ty T, tyN_ok v1.l et, kit_ty (hT t (tyN_mem et)), h _ H1 s1 ⟨R1, kp1, .bl _⟩⟩
theorem isi_str : ∀ t ∈ allTy, kitB t "str" = some (isTy "str" t) := by decide +kernel
theorem isi_list : ∀ t ∈ allTy, kitB t "list" = some (isTy "list" t) := by decide +kernel
end
end PL

namespace PL
open PySem PySem.Spec PyProof.Rows L2

section
variable {X : Cx} {W : WX} {g : Gc} {γ : G} {τ τ' τ1 τ2 : PS0} {σ σ' : L2.St} {H H' H1 H2 : Hp} {A : Addr → Prop} {p : Addr} {v : V} {d : D} {k k1 k2 k3 kr : Kd} {m m1 m2 m3 : Bool} {e e1 e2 a b c : Expr} {es rest : List Expr} {f fa fb fc : M D} {t u : M Bool} {fs : M (List D)} {pos : Pos} {r r' : R2} {o o' : D → D → Option D}

/-! ### methods of values -/
/-- texts in a list -/
def strsOf : List D → Option (List (List Nat))
  | [] => some []
  | .str s :: r => (strsOf r).map (s :: ·)
  | _ => none
theorem strsOf_eq : ∀ {xs : List D} {ss : List (List Nat)}, strsOf xs = some ss → xs = ss.map D.str
  | [], ss, h => by cases h; rfl
  | .str s :: r, ss, h => by
    unfold strsOf at h
    cases e : strsOf r with
    | none => rw [e] at h; cases h
    | some q =>
      rw [e] at h
      cases h
      rw [List.map_cons, ← strsOf_eq e]
  | .non :: _, _, h | .bl _ :: _, _, h | .int _ :: _, _, h | .lst _ :: _, _, h | .tup _ :: _, _, h | .dK _ :: _, _, h | .dT _ :: _, _, h | .exc _ :: _, _, h | .fz _ :: _, _, h => by unfold strsOf at h; cases h
def joinD (sep : List Nat) : List (List Nat) → List Nat
  | [] => []
  | q :: r => r.foldl (fun acc q => acc ++ sep ++ q) q
theorem join_S (sep : List Nat) : ∀ ss : List (List Nat), Txt.join (S sep) (ss.map S) = S (joinD sep ss)
  | [] => rfl
  | q :: r => by
    show (⟨(r.map S).foldl (fun acc p => acc ++ (S sep).cps ++ p.cps) (S q).cps⟩ : Str) = S (r.foldl (fun acc q => acc ++ sep ++ q) q)
    have h : ∀ (r : List (List Nat)) (q : List Nat), (r.map S).foldl (fun acc p => acc ++ (S sep).cps ++ p.cps) q.toArray = (r.foldl (fun acc q => acc ++ sep ++ q) q).toArray := by
      intro r
      induction r with
      | nil => intro q; rfl
      | cons x r ih =>
        intro q
        rw [List.map_cons, List.foldl_cons, List.foldl_cons, ← ih]
        congr 1
        simp [S]
    show (⟨_⟩ : Str) = ⟨_⟩
    rw [← h r q] <;> rfl
def oJoin : D → D → Option D
  | .str sep, .lst xs => match strsOf xs with
    | some ss => if (ss.map List.length).sum + ss.length * sep.length ≤ 16777216 then some (.str (joinD sep ss)) else none
    | none => none
  | _, _ => none
def tM1r (r : V → List V → Hp → VK → Prop) : R2 := fun x y H Q => (∃ a, x = .str a) ∧ r x [y] H Q
/-- a method of a text with one argument -/
theorem tE_sm1 {rm : V → List V → Hp → VK → Prop} (hr : Op2 kr X.g (tM1r rm) o) (hk : k1 ≠ .ln ∨ m2 = false) (hkr : kr ≠ .ln) (σ : L2.St) (H : Hp) (Q : VK)
    (q : tE X.g W kr (m1 || m2) (andThen fa fun x => andThen (lift (match x with | .str s => some (D.str s) | _ => none)) fun x => andThen fb fun y => lift (o x y)) σ H Q) : tM1 rm (tE X.g W k1 m1 fa) (tE X.g W k2 m2 fb) σ H Q := by
  obtain ⟨γ, τ, R, h⟩ := q
  rw [fit_bind] at h
  refine ⟨γ, τ, R, h.mono (fun d τ1 h x H1 s1 P1 => ?_) fun _ _ q => q⟩
  obtain ⟨R1, kp1, v1⟩ := P1.val
  rw [fit_bind, fit_lift] at h
  obtain ⟨d', ed, h⟩ := h
  split at ed
  · rename_i s
    cases ed
    refine ⟨⟨_, v1.l.str⟩, ?_⟩
    rw [fit_bind] at h
    refine ⟨γ, τ1, R1, h.mono (fun e τ2 h y H2 s2 P2 => ?_) fun _ _ q => q.pre kp1⟩
    obtain ⟨R2, kp2, v2⟩ := P2.val
    obtain ⟨z, ez, h⟩ := fit_lift.mp h
    have v1' := carry (k1 := k1) hk v1 s2 kp2
    exact (hr H2 (Av γ τ2 σ H2) x y _ e z Q R2.avT v1'.l v2.l ez fun v' H' ou => h v' H' (fun q => (or_same s1 s2 q).trans ou.1) (PostE.of_out R2 (kp1.trans kp2) hkr ou)).2
  · cases ed
theorem je_sm1 {id : String} {name : Str} {apos : Pos} {rm : V → List V → Hp → VK → Prop} (slot : PySem.Slot "str" name id) (ty : typeOf (.builtin id) = pure (.type "method_descriptor")) (rule : MtR X id rm) (hr : Op2 kr X.g (tM1r rm) o) (hs0 : ∀ d e z, o d e = some z → ∃ s, d = .str s) (ha : JE X W k1 m1 a fa) (hb : JE X W k2 m2 b fb)
    (hk : k1 ≠ .ln ∨ m2 = false := by first | exact .inr rfl | exact .inl (by decide)) (hkr : kr ≠ .ln := by decide)
    (hs : starEach [b] X.env = [(false, eval b X.env)] := by rfl) (hbase : attributeBase a name X.env (eval a X.env) = eval a X.env := by rfl) (hline : (apos.endLine == pos.line) = true := by rfl) :
    JE X W kr (m1 || m2) (.Call (.Attribute a name apos) [b] [] pos) (andThen fa fun x => andThen (lift (match x with | .str s => some (D.str s) | _ => none)) fun x => andThen fb fun y => lift (o x y)) := (pe_m1 slot ty rule ha hb hs hbase hline).weak (tE_sm1 hr hk hkr)
def strM (fa fb : M D) (o : D → D → Option D) : M D := andThen fa fun x => andThen (lift (match x with | .str s => some (D.str s) | _ => none)) fun x => andThen fb fun y => lift (o x y)
theorem RepA.strs' {vs : List V} {ss : List (List Nat)} (r : RepA g H A vs (ss.map D.str)) : vs = (ss.map S).map V.str := by
  rw [r.strs, List.map_map]
  rfl
theorem o2_join : Op2 .im g (tM1r fun x xs H Q => ∃ a p, ∃ ys : List Str, x = .str a ∧ xs = [.ref p] ∧ (SqL g.K H p (ys.map V.str) ∨ SqT g.K H p (ys.map V.str)) ∧ (ys.map (·.length)).sum + ys.length * a.length ≤ 16777216 ∧ Q (.str (Txt.join a ys)) H) oJoin := fun H A x y d e z Q hA rx ry ho q => by
  unfold oJoin at ho
  split at ho
  · rename_i sep xs
    split at ho
    · rename_i ss es
      split at ho
      · rename_i hz
        cases ho
        have ex := strsOf_eq es
        subst ex
        obtain ⟨a, vs, rfl, ha, ra⟩ := ry.lst
        have ev := ra.strs'
        subst ev
        rw [rx.str]
        refine ⟨⟨_, rfl⟩, S sep, a, ss.map S, rfl, rfl, .inl (.inl (.inl ha)), ?_, ?_⟩
        · rw [List.map_map, List.length_map, S_len]
          have e1 : (ss.map ((fun x : Str => x.length) ∘ S)) = ss.map List.length := List.map_congr_left fun l _ => S_len l
          rw [e1]
          exact hz
        · rw [join_S]
          exact q _ _ (out_flat fun _ _ => .str _)
      · cases ho
    · cases ho
  · cases ho
theorem je_join {apos : Pos} (ha : JE X W k1 m1 a fa) (hb : JE X W k2 m2 b fb) (hk : k1 ≠ .ln ∨ m2 = false := by first | exact .inr rfl | exact .inl (by decide))
    (hs : starEach [b] X.env = [(false, eval b X.env)] := by rfl) (hbase : attributeBase a "join" X.env (eval a X.env) = eval a X.env := by rfl) (hline : (apos.endLine == pos.line) = true := by rfl) :
    JE X W .im (m1 || m2) (.Call (.Attribute a "join" apos) [b] [] pos) (strM fa fb oJoin) :=
  je_sm1 F.slot_str_join F.type_str_join mt_join o2_join (fun d e z h => by cases d <;> first | exact ⟨_, rfl⟩ | (unfold oJoin at h; cases h)) ha hb hk (by decide) hs hbase hline

/-! ### what one owns is changed: x.append(e) .. -/
/-- what a method makes of the contents and the arguments: what it gives, the new contents -/
abbrev OMt := D → List D → Option (D × D)
def MtO (g : Gc) (T : String) (r : V → List V → Hp → VK → Prop) (o : OMt) : Prop := ∀ (H : Hp) (A : Addr → Prop) (a : Addr) (c : D) (vs : List V) (ds : List D) (z c' : D) (Q : VK), A a → Cont g H A a c → RepA g H A vs ds → o c ds = some (z, c') →
  (∀ v H', (∀ b u, b ≠ a → H b = some u → H' b = some u) → Cont g H' A a c' → Rep g H' A v z → Q v H') → r (.ref a) vs H Q
/-- the contents of a slot of one's own -/
def ownC (τ : PS0) (i : Nat) : Option D := match τ[i]? with
  | some (.ow d) => some d
  | some (.mu d) => some d
  | _ => none
def putC (τ : PS0) (i : Nat) (d : D) : PS0 := match τ[i]? with
  | some s => τ.set i (s.put d)
  | none => τ
def tyOk (T : String) : D → Bool
  | .lst _ => T == "list"
  | .dK _ => T == "dict"
  | .dT _ => T == "dict"
  | _ => false
def mutM (T : String) (i : Nat) (fs : M (List D)) (o : OMt) : M D := andThen (fun τ => match ownC τ i with
    | some c => if tyOk T c = true then .ok () τ else .stuck
    | none => .stuck) fun _ => andThen fs fun ds τ => match ownC τ i with
  | some c => match o c ds with
    | some (z, c') => .ok z (putC τ i c')
    | none => .stuck
  | none => .stuck
theorem Rel.ownC {i : Nat} {c : D} (R : Rel g γ τ σ H) (h : PL.ownC τ i = some c) : ∃ a s, τ[i]? = some s ∧ s.isSim = true ∧ σ[i]? = some (some (.ref a)) ∧ Cont g H (Av γ τ σ H) a c := by
  unfold PL.ownC at h
  split at h
  · rename_i d e
    cases h
    obtain ⟨a, e1, c⟩ := R.ow i _ e
    exact ⟨a, _, e, rfl, e1, c⟩
  · rename_i d e
    cases h
    obtain ⟨e1, c⟩ := R.mu i _ e
    exact ⟨_, _, e, rfl, e1, c⟩
  · cases h
theorem tyV_own {T : String} {c : D} {a : Addr} (h : tyOk T c = true) (ct : Cont g H A a c) : tyV g.K T (.ref a) H := by
  cases ct with
  | lst h1 r =>
    have e : T = "list" := by unfold tyOk at h; simpa using h
    exact .inl ⟨e, _, .inl (.inl h1)⟩
  | dK h1 _ r =>
    have e : T = "dict" := by unfold tyOk at h; simpa using h
    exact .inr (.inr (.inl ⟨e, .inl ⟨_, h1⟩⟩))
  | dT h1 _ r =>
    have e : T = "dict" := by unfold tyOk at h; simpa using h
    exact .inr (.inr (.inl ⟨e, .inr ⟨_, h1⟩⟩))
/-- behind a method on slot i -/
theorem put_post {i : Nat} {s : Slot} {a : Addr} {c' z : D} {v : V} (R : Rel g γ τ1 σ H1) (kp : Kp (Own τ σ H) H (Own τ1 σ H1) H1) (hs : τ1[i]? = some s) (ho : s.isSim = true) (hi : σ[i]? = some (some (.ref a)))
    (k0 : ∀ b u, b ≠ a → H1 b = some u → H' b = some u) (c : Cont g H' (Av γ τ1 σ H1) a c') (r : Rep g H' (Av γ τ1 σ H1) v z) : PostE .im g γ τ σ H (putC τ1 i c') σ H' v z := by
  have oa : OwnAt τ1 σ H1 i a := .of hs ho hi
  obtain ⟨R', k'⟩ := R.put hs ho oa k0 c
  unfold putC
  rw [hs]
  exact ⟨R', kp.trans k', r.kp (Kp.less fun b q => q.elim .inl fun z => .inr ((R.put_own hs ho oa k0).mp z))⟩
theorem tE_mut {T : String} {i : Nat} {rm : V → List V → Hp → VK → Prop} {om : OMt} (hm : MtO X.g T rm om) {ts : L2.St → Hp → (List V → Hp → Prop) → Prop}
    (hts : ∀ (σ : L2.St) (H1 : Hp) (K : List V → Hp → Prop), tA X.g W m fs σ H1 K → ts σ H1 K)
    (σ : L2.St) (H : Hp) (Q : VK) (h : tE X.g W .im true (mutM T i fs om) σ H Q) : tVar i σ H fun x H1 => tyV X.K T x H1 ∧ ts σ H1 fun xs H2 => rm x xs H2 Q := by
  obtain ⟨γ, τ, R, h⟩ := h
  unfold mutM at h
  rw [fit_bind] at h
  cases e0 : ownC τ i with
  | none => rw [e0] at h; exact h.elim
  | some c0 =>
    rw [e0] at h
    cases et : tyOk T c0 with
    | false =>
      simp only [et, Bool.false_eq_true, if_false] at h
      exact h.elim
    | true =>
      simp only [et, if_true] at h
      obtain ⟨a, s, hs, ho, hi, ct⟩ := R.ownC e0
      refine ⟨.ref a, hi, tyV_own et ct, hts σ H _ ?_⟩
      have h : Fit (andThen fs _ τ) _ _ := h
      rw [fit_bind] at h
      refine ⟨γ, τ, R, h.mono (fun ds τ1 h vs H1 s1 R1 kp1 rs => ?_) fun _ _ q => q⟩
      cases e1 : ownC τ1 i with
      | none => rw [e1] at h; exact h.elim
      | some c1 =>
        rw [e1] at h
        cases eo : om c1 ds with
        | none =>
          simp only [eo] at h
          exact h.elim
        | some zc =>
          obtain ⟨z, c'⟩ := zc
          simp only [eo] at h
          obtain ⟨a', s', hs', ho', hi', ct'⟩ := R1.ownC e1
          have ea : a' = a := by rw [hi] at hi'; cases hi'; rfl
          subst ea
          exact hm H1 (Av γ τ1 σ H1) a' c1 vs ds z c' Q (.inr ⟨i, .of hs' ho' hi'⟩) ct' rs eo fun v H2 k0 c2 r2 => h v H2 (fun z => nomatch z) (put_post R1 kp1 hs' ho' hi' k0 c2 r2)
/-- x.m(e, ..), x a name that owns -/
theorem je_mut {T id : String} {name x : Str} {apos px : Pos} {rm : V → List V → Hp → VK → Prop} {om : OMt} (i : Nat) (pa : PlainAttrs T) (slot : PySem.Slot T name id) (hty : typeOf (.builtin id) = pure (.type "method_descriptor")) (hm : MtR X id rm) (hr : MtO X.g T rm om) (ha : JA X W m (e :: es) fs)
    (hN : X.N[i]? = some x := by rfl) (hv : Vis X.env.scope x := by first | exact Or.inl rfl | exact Or.inr (Or.inl rfl) | exact Or.inr (Or.inr rfl)) (hd : (x == ("__debug__" : Str)) = false := by decide) (hcd : (x == ("__classdict__" : Str)) = false := by decide)
    (hbase : attributeBase (.Name x px) name X.env (eval (.Name x px) X.env) = eval (.Name x px) X.env := by rfl)
    (hfew : ((backTo pos (starEach (e :: es) X.env)).all (fun x => !x.1) && (backToKw pos (keywordEach [] X.env)).all (fun x => x.1.isSome)
      && decide ((e :: es).length + ([] : List Keyword).length + (if ([] : List Keyword).isEmpty then 0 else 1) < 30)) = true := by rfl)
    (hline : (apos.endLine == pos.line) = true := by rfl) (hs : starEach (e :: es) X.env = (false, eval e X.env) :: starEach es X.env := by rfl) (hplain : (backTo pos (starEach es X.env)).any (·.1) = false := by rfl) :
    JE X W .im true (.Call (.Attribute (.Name x px) name apos) (e :: es) [] pos) (mutM T i fs om) :=
  (pe_bm pa slot hty hm (pe_var hN hv hd hcd) ha hbase hfew hline hs hplain).weak (tE_mut hr fun _ _ _ h => h)
theorem upd_put {H : Hp} {A : Addr → Prop} {a : Addr} {o : HO} (hA : A a) {vs : List V} {ds : List D} (r : RepA g H A vs ds) : RepA g (upd H a o) A vs ds :=
  r.kp fun b u e n => ⟨by rw [upd_ne (fun z => by rw [z] at n; exact n hA)]; exact e, n⟩
theorem upd_keep {H : Hp} {a : Addr} {o : HO} : ∀ b u, b ≠ a → H b = some u → upd H a o b = some u := fun b u hb e => by rw [upd_ne hb]; exact e
def oAppend : OMt
  | .lst xs, [y] => if xs.length < 16777216 then some (.non, .lst (xs ++ [y])) else none
  | _, _ => none
theorem mo_append : MtO g "list" rAppend oAppend := fun H A a c vs ds z c' Q hA ct rs ho q => by
  unfold oAppend at ho
  split at ho
  · split at ho
    · rename_i xs y hz
      cases ho
      cases ct with
      | lst h r =>
        cases rs with
        | cons ry rt =>
          cases rt
          exact ⟨a, _, _, rfl, rfl, h, by rw [r.length]; exact hz, q _ _ upd_keep (.lst upd_same (upd_put hA (r.append (.cons ry .nil)))) .non⟩
    · cases ho
  · cases ho
end
end PL

namespace PL
open PySem PySem.Spec PyProof.Rows L2

/-! ### what a def makes of its arguments: what it gives, what the first one holds behind -/
inductive DR where
  | ret (d o : D) | exc (n : Str) (o : D) | stuck
def spF (g : Gc) (n : Nat) (rk : Kd) (mf : List D → DR) : Sp := fun vs H Q E => vs.length = n ∧ ∃ (A : Addr → Prop) (ds : List D), (∀ a, A a → Th H a) ∧ RepA g H A vs ds ∧ match mf ds with
  | .ret d _ => ∀ v H', Out rk g H A H' v d → Q v H'
  | .exc nm _ => ∀ H', Same H H' → ∀ c, g.mg nm = some (.ref c) → E (.ref c) none H'
  | .stuck => False
def OutU (k : Kd) (g : Gc) (H : Hp) (A : Addr → Prop) (a : Addr) (H' : Hp) (v : V) (d o : D) : Prop := (∀ b u, b ≠ a → H b = some u → H' b = some u) ∧ match k with
  | .fr => ∃ p, v = .ref p ∧ H p = none ∧ Cont g H' (fun b => A b ∨ b = p) p d ∧ Cont g H' (fun b => A b ∨ b = p) a o
  | _ => Rep g H' A v d ∧ Cont g H' A a o
def spU (g : Gc) (n : Nat) (rk : Kd) (mf : List D → DR) : Sp := fun vs H Q E => vs.length = n ∧ ∃ (A : Addr → Prop) (a : Addr) (ws : List V) (c : D) (ds : List D), vs = .ref a :: ws ∧ A a ∧ (∀ a, A a → Th H a) ∧ Cont g H A a c ∧ RepA g H A ws ds ∧ match mf (c :: ds) with
  | .ret d o => ∀ v H', OutU rk g H A a H' v d o → Q v H'
  | .exc nm o => ∀ H', (∀ b u, b ≠ a → H b = some u → H' b = some u) → Cont g H' A a o → ∀ c, g.mg nm = some (.ref c) → E (.ref c) none H'
  | .stuck => False

section
variable {X : Cx} {W : WX} {g : Gc} {γ : G} {τ τ' τ1 τ2 : PS0} {σ σ' : L2.St} {H H' H1 H2 : Hp} {A : Addr → Prop} {p : Addr} {v : V} {d : D} {k k1 k2 k3 kr : Kd} {m m1 m2 m3 : Bool} {e e1 e2 a b c : Expr} {es rest : List Expr} {f fa fb fc : M D} {t u : M Bool} {fs : M (List D)} {pos : Pos} {r r' : R2} {o o' : D → D → Option D}

/-! ### a def of the text, called -/
def LenOk (fs : M (List D)) (n : Nat) : Prop := ∀ τ ds τ', fs τ = .ok ds τ' → ds.length = n
def callF (mf : List D → DR) (fs : M (List D)) : M D := andThen fs fun ds τ => match mf ds with
  | .ret d _ => .ok d τ
  | .exc n _ => .exc n τ
  | .stuck => .stuck
theorem spF_post {n : Nat} {mf : List D → DR} {vs : List V} {ds : List D} {Q : VK} (hn : ds.length = n) (hkr : kr ≠ .ln) (R1 : Rel g γ τ1 σ H1) (kp : Kp (Own τ σ H) H (Own τ1 σ H1) H1) (s : m = false → Same H H1) (rs : RepA g H1 (Av γ τ1 σ H1) vs ds)
    (h : Fit (match mf ds with | .ret d _ => Res.ok d τ1 | .exc n _ => .exc n τ1 | .stuck => .stuck) (fun d τ' => ∀ v H', (m = false → Same H H') → PostE kr g γ τ σ H τ' σ H' v d → Q v H') (XW g W γ τ σ H)) : spF g n kr mf vs H1 Q (WE W σ) := by
  refine ⟨rs.length.trans hn, Av γ τ1 σ H1, ds, R1.avTh', rs, ?_⟩
  cases e : mf ds with
  | stuck => rw [e] at h; exact h.elim
  | ret d o =>
    rw [e] at h
    exact fun v H' ou => h v H' (fun z => (s z).trans ou.1) (PostE.of_out R1 kp hkr ou)
  | exc nm o =>
    rw [e] at h
    exact fun H' sm c hc => h H' (R1.same sm) (kp.trans (R1.kpS sm)) c hc
theorem je_call {n : Nat} {mf : List D → DR} {kk : Nat} {fa : Addr} {fd : FuncData} {ps : List Str} {x : Str} {p : Pos} (hn : LenOk fs n) (F : FnOk X.prog X.w X.K X.mg X.base (L2.CX X.prog X.w) kk fa fd ps (spF X.g n kr mf)) (hr : Room kk X.A) (hm : X.mg x = some (.ref fa)) (hk : PySem.W.keepIn X.K (.ref fa) = true)
    (hb : Binds X.K fd ps []) (tk : Takes X W) (ha : JA X W m (e :: es) fs) (hg : Gl X x := by rfl) (hkr : kr ≠ .ln := by decide) (hdb : (x == ("__debug__" : Str)) = false := by decide) (he : starEach (e :: es) X.env = (false, eval e X.env) :: starEach es X.env := by rfl)
    (hpl : (backTo pos (starEach es X.env)).any (·.1) = false := by rfl) : JE X W kr m (.Call (.Name x p) (e :: es) [] pos) (callF mf fs) :=
  (pe_callS F hr hg hm hk hb (fun σ => passAt tk σ) ha hdb he hpl).weak fun σ H Q ⟨γ, τ, R, h⟩ => by
    unfold callF at h
    rw [fit_bind] at h
    refine ⟨γ, τ, R, ?_⟩
    cases ef : fs τ with
    | stuck => rw [ef] at h; exact h.elim
    | exc nm τ1 => rw [ef] at h; exact h
    | ok ds τ1 =>
      rw [ef] at h
      exact fun vs H1 s1 R1 kp1 rs => spF_post (hn _ _ _ ef) hkr R1 kp1 s1 rs h
theorem Rel.own_updP {o : HO} (R : Rel g γ τ σ H) (hp : γ.P p) {b : Addr} : Own τ σ (upd H p o) b ↔ Own τ σ H b := R.own_iff fun b u e q => by
  rw [upd_ne (fun z => ?_)]
  · exact e
  · subst z
    exact q.elim (fun n => n (.inl hp)) fun n => (R.pal _ hp).2 n.own
/-- a P-object is written -/
theorem Rel.updP {o : HO} (R : Rel g γ τ σ H) (hp : γ.P p) (nt : ∀ vs, o ≠ .tup vs := by intro _ z; exact nomatch z) : Rel g γ τ σ (upd H p o) := by
  have nO := (R.pal p hp).2
  have ne : ∀ {b}, Own τ σ H b → b ≠ p := fun h z => (R.pal p hp).2 (z ▸ h)
  have kn : ∀ b u, H b = some u → ¬ Av γ τ σ H b ∨ NsAt τ σ H b → upd H p o b = some u := fun b u e q => by
    rw [upd_ne (fun z => ?_)]
    · exact e
    · subst z
      exact q.elim (fun n => n (.inl hp)) fun n => nO n.own
  have oe : ∀ {b}, Own τ σ (upd H p o) b ↔ Own τ σ H b := R.own_iff kn
  have k : Kp (Av γ τ σ H) H (Av γ τ σ (upd H p o)) (upd H p o) := fun b u e n => ⟨kn b u e (.inl n), fun z => n (z.imp id oe.mp)⟩
  refine ⟨R.len, fun i d h => let ⟨v, e, r⟩ := R.im i d h; ⟨v, e, r.kp k⟩, fun i d h => let ⟨b, e, c⟩ := R.ow i d h; ⟨b, e, c.mono k (upd_ne (ne ⟨i, .of h rfl e⟩))⟩, fun i d h => let ⟨e, c⟩ := R.mu i d h; ⟨e, c.mono k (upd_ne (ne ⟨i, .of h rfl e⟩))⟩,
    fun i d h => let ⟨v, e, c⟩ := R.bx i d h; ⟨v, e, c.mono k fun F hF b u m e2 => kn b u e2 (.inr ⟨i, _, v, h, rfl, e, F, hF, m⟩)⟩, fun i d h => let ⟨e, c⟩ := R.mb i d h; ⟨e, c.mono k fun F hF b u m e2 => kn b u e2 (.inr ⟨i, _, _, h, rfl, e, F, hF, m⟩)⟩,
    fun i j a h1 h2 => R.inj i j a ((R.ownAt_eq kn).mp h1) ((R.ownAt_eq kn).mp h2), fun a h => ?_⟩
  by_cases ha : a = p
  · exact ⟨⟨o, by rw [ha, upd_same], nt⟩, fun z => (R.pal a h).2 (oe.mp z)⟩
  · exact ⟨(R.pal a h).1.up fun u e => by rw [upd_ne ha]; exact e, fun z => (R.pal a h).2 (oe.mp z)⟩
def callU (i : Nat) (mf : List D → DR) (fs : M (List D)) : M D := andThen fs fun ds τ => match ownC τ i with
  | some c => match mf (c :: ds) with
    | .ret d o => .ok d (putC τ i o)
    | .exc n o => .exc n (putC τ i o)
    | .stuck => .stuck
  | none => .stuck
theorem spU_post {n : Nat} {mf : List D → DR} {vs : List V} {ds : List D} {Q : VK} {i : Nat} {a : Addr} (hi : σ[i]? = some (some (.ref a))) (hn : ds.length + 1 = n) (hkr : kr ≠ .ln) (R1 : Rel g γ τ1 σ H1) (kp : Kp (Own τ σ H) H (Own τ1 σ H1) H1) (rs : RepA g H1 (Av γ τ1 σ H1) vs ds)
    (h : Fit (match ownC τ1 i with | some c => (match mf (c :: ds) with | .ret d o => Res.ok d (putC τ1 i o) | .exc n o => .exc n (putC τ1 i o) | .stuck => .stuck) | none => .stuck) (fun d τ' => ∀ v H', (true = false → Same H H') → PostE kr g γ τ σ H τ' σ H' v d → Q v H') (XW g W γ τ σ H)) :
    spU g n kr mf (.ref a :: vs) H1 Q (WE W σ) := by
  refine ⟨by rw [List.length_cons, rs.length]; exact hn, ?_⟩
  cases e1 : ownC τ1 i with
  | none => rw [e1] at h; exact h.elim
  | some c =>
    rw [e1] at h
    obtain ⟨a', s, hs, ho, hi', ct⟩ := R1.ownC e1
    have ea : a' = a := by rw [hi] at hi'; cases hi'; rfl
    subst ea
    have oa : OwnAt τ1 σ H1 i a' := .of hs ho hi'
    have eput : ∀ o, putC τ1 i o = τ1.set i (s.put o) := fun o => by unfold putC; rw [hs]
    have av_put : ∀ {H' o b}, (∀ b w, b ≠ a' → H1 b = some w → H' b = some w) → Av γ (τ1.set i (s.put o)) σ H' b → Av γ τ1 σ H1 b := fun k0 q => q.elim .inl fun z => .inr ((R1.put_own hs ho oa k0).mp z)
    refine ⟨Av γ τ1 σ H1, a', vs, c, ds, rfl, .inr ⟨i, oa⟩, R1.avTh', ct, rs, ?_⟩
    cases e : mf (c :: ds) with
    | stuck => simp only [e] at h; exact h.elim
    | ret d o =>
      simp only [e] at h
      rw [eput] at h
      intro v H' ou
      obtain ⟨k0, ou⟩ := ou
      refine h v H' (fun z => nomatch z) ?_
      cases kr with
      | ln => exact absurd rfl hkr
      | im =>
        obtain ⟨r', c'⟩ := ou
        obtain ⟨R', k'⟩ := R1.put hs ho oa k0 c'
        exact ⟨R', kp.trans k', r'.kp (Kp.less fun b q => av_put k0 q)⟩
      | fr =>
        obtain ⟨q, rfl, nq, cq, co⟩ := ou
        obtain ⟨u, eu, nu⟩ := cq.th
        have R2 := R1.newS (H' := upd H1 q u) nq (fun b w e => by rw [upd_ne (ne_of_none e nq)]; exact e) ⟨u, upd_same, nu⟩
        have nq' : q ≠ a' := (ne_of_none (ct.there.choose_spec) nq).symm
        have sq : Same H1 (upd H1 q u) := fun b w e => by rw [upd_ne (ne_of_none e nq)]; exact e
        have av_with : ∀ {b}, Av (γ.with q) τ1 σ (upd H1 q u) b → Av γ τ1 σ H1 b ∨ b = q := fun z => z.elim (fun y => y.elim (fun x => .inl (.inl x)) .inr) fun x => .inl (.inr ((R1.own_same sq).mp x))
        have co' : Cont g H' (Av (γ.with q) τ1 σ (upd H1 q u)) a' o := co.mono (Kp.less fun b z => av_with z) rfl
        have oa2 : OwnAt τ1 σ (upd H1 q u) i a' := .of hs ho hi'
        have k02 : ∀ b w, b ≠ a' → upd H1 q u b = some w → H' b = some w := fun b w hb e => by
          by_cases hq : b = q
          · subst hq; rw [upd_same] at e; cases e; exact eu
          · rw [upd_ne hq] at e; exact k0 b w hb e
        obtain ⟨R3, k3⟩ := R2.put (H' := H') hs ho oa2 k02 co'
        refine ⟨q, rfl, R3, fun z => ?_, kp.trans fun b w e n => ?_, cq.mono (Kp.less fun b z => ?_) rfl⟩
        · obtain ⟨w, ew⟩ := (R1.pal q z).1.ex
          rw [nq] at ew; cases ew
        · have hb : b ≠ a' := fun z => n (z ▸ ⟨i, oa⟩)
          exact ⟨k0 b w hb e, fun z => z.elim (fun y => n ((R1.own_same sq).mp ((R2.put_own hs ho oa2 k02).mp y))) (ne_of_none e nq)⟩
        · exact av_with (z.elim .inl fun y => .inr ((R2.put_own hs ho oa2 k02).mp y))
    | exc nm o =>
      simp only [e] at h
      rw [eput] at h
      intro H' k0 c' cc hc
      obtain ⟨R', k'⟩ := R1.put hs ho oa k0 c'
      exact h H' R' (kp.trans k') cc hc
theorem je_callU {n : Nat} {mf : List D → DR} {kk : Nat} {fa : Addr} {fd : FuncData} {ps : List Str} {x y : Str} {p py : Pos} (i : Nat) (hn : LenOk fs (n - 1)) (hn0 : 0 < n) (F : FnOk X.prog X.w X.K X.mg X.base (L2.CX X.prog X.w) kk fa fd ps (spU X.g n kr mf)) (hr : Room kk X.A) (hm : X.mg x = some (.ref fa)) (hk : PySem.W.keepIn X.K (.ref fa) = true)
    (hb : Binds X.K fd ps []) (tk : Takes X W) (ha : JA X W m es fs) (hN : X.N[i]? = some y := by rfl) (hv : Vis X.env.scope y := by first | exact Or.inl rfl | exact Or.inr (Or.inl rfl) | exact Or.inr (Or.inr rfl)) (hg : Gl X x := by rfl) (hkr : kr ≠ .ln := by decide) (hdy : (y == ("__debug__" : Str)) = false := by decide) (hcd : (y == ("__classdict__" : Str)) = false := by decide) (hdb : (x == ("__debug__" : Str)) = false := by decide)
    (he : starEach (.Name y py :: es) X.env = (false, eval (.Name y py) X.env) :: starEach es X.env := by rfl) (hpl : (backTo pos (starEach es X.env)).any (·.1) = false := by rfl) : JE X W kr true (.Call (.Name x p) (.Name y py :: es) [] pos) (andThen (fun τ => match ownC τ i with | some _ => .ok () τ | none => .stuck) fun _ => callU i mf fs) :=
  (pe_callS F hr hg hm hk hb (fun σ => passAt tk σ) (pa_cons (pe_var hN hv hdy hcd) ha he) hdb he hpl).weak fun σ H Q ⟨γ, τ, R, h⟩ => by
    rw [fit_bind] at h
    cases e0 : ownC τ i with
    | none => simp only [e0] at h; exact h.elim
    | some c0 =>
      simp only [e0] at h
      obtain ⟨a, s, hs, ho, hi, ct⟩ := R.ownC e0
      refine ⟨.ref a, hi, γ, τ, R, ?_⟩
      have h : Fit (callU i mf fs τ) _ _ := h
      unfold callU at h
      rw [fit_bind] at h
      cases ef : fs τ with
      | stuck => rw [ef] at h; exact h.elim
      | exc nm τ1 => rw [ef] at h; exact h
      | ok ds τ1 =>
        rw [ef] at h
        exact fun vs H1 s1 R1 kp1 rs => spU_post hi (by rw [hn _ _ _ ef]; exact Nat.sub_add_cancel hn0) hkr R1 kp1 rs h
def useU (i : Nat) (mf : List D → DR) (fs : M (List D)) : M D := andThen (fun τ => match ownC τ i with | some _ => .ok () τ | none => .stuck) fun _ => callU i mf fs
theorem argN_len : LenOk argN 0 := fun _ _ _ e => by cases e; rfl
theorem argC_len {n : Nat} (h : LenOk fs n) : LenOk (argC f fs) (n + 1) := fun τ ds τ' e => by
  unfold argC andThen at e
  cases e1 : f τ with
  | stuck => rw [e1] at e; cases e
  | exc nm τ1 => rw [e1] at e; cases e
  | ok d τ1 =>
    rw [e1] at e
    cases e2 : fs τ1 with
    | stuck => simp only [e2] at e; cases e
    | exc nm τ2 => simp only [e2] at e; cases e
    | ok ds2 τ2 =>
      simp only [e2] at e
      cases e
      exact congrArg (· + 1) (h _ _ _ e2)
end
end PL

namespace PL
open PySem PySem.Spec PyProof.Rows L2

inductive SR where
  | nx (τ : PS0) | ret (d : D) (τ : PS0) | exc (n : Str) (τ : PS0) | stuck
abbrev SM := PS0 → SR
def FitS (x : SR) (p : PS0 → Prop) (r : D → PS0 → Prop) (q : Str → PS0 → Prop) : Prop := match x with
  | .nx τ => p τ
  | .ret d τ => r d τ
  | .exc n τ => q n τ
  | .stuck => False
theorem FitS.mono {x : SR} {p p' : PS0 → Prop} {r r' : D → PS0 → Prop} {q q' : Str → PS0 → Prop} (h : FitS x p r q) (hp : ∀ τ, p τ → p' τ) (hr : ∀ d τ, r d τ → r' d τ) (hq : ∀ n τ, q n τ → q' n τ) : FitS x p' r' q' := by
  cases x with
  | nx τ => exact hp τ h
  | ret d τ => exact hr d τ h
  | exc n τ => exact hq n τ h
  | stuck => exact h
def NS (g : Gc) (γ : G) (τ : PS0) (σ : L2.St) (H : Hp) (nx : L2.St → Hp → Prop) : PS0 → Prop := fun τ' => ∀ σ' H', Rel g γ τ' σ' H' → Kp (Own τ σ H) H (Own τ' σ' H') H' → nx σ' H'
def RS (g : Gc) (rk : Rk) (γ : G) (τ : PS0) (σ : L2.St) (H : Hp) (rt : VK) : D → PS0 → Prop := fun d τ' => ∀ σ' v H', PostR rk g γ τ σ H τ' σ' H' v d → rt v H'
def XS (g : Gc) (W : WX) (γ : G) (τ : PS0) (σ : L2.St) (H : Hp) : Str → PS0 → Prop := fun n τ' => ∀ σ' H', Rel g γ τ' σ' H' → Kp (Own τ σ H) H (Own τ' σ' H') H' → ∀ c, g.mg n = some (.ref c) → W (.ref c) none σ' H'
def tSt (g : Gc) (W : WX) (rk : Rk) (f : SM) : TS := fun Dn σ H => ∃ γ τ, Rel g γ τ σ H ∧ FitS (f τ) (NS g γ τ σ H Dn.nx) (RS g rk γ τ σ H Dn.rt) (XS g W γ τ σ H)
abbrev JS (X : Cx) (W : WX) (rk : Rk) (st : Stmt) (f : SM) : Prop := PS X st (tSt X.g W rk f)
abbrev JB (X : Cx) (W : WX) (rk : Rk) (st : List Stmt) (f : SM) : Prop := PSs X st (tSt X.g W rk f)

section
variable {X : Cx} {W : WX} {g : Gc} {γ : G} {τ τ' τ1 τ2 : PS0} {σ σ' σ1 : L2.St} {H H' H1 H2 : Hp} {A : Addr → Prop} {p : Addr} {v : V} {d : D} {k k1 k2 k3 kr : Kd} {rk : Rk} {m m1 m2 m3 : Bool} {e e1 e2 a b c : Expr} {es rest : List Expr} {f fa fb fc : M D} {t u : M Bool} {fs : M (List D)} {pos : Pos} {st : Stmt} {sts sts2 : List Stmt} {h h1 h2 : SM}
theorem NS.pre {nx : L2.St → Hp → Prop} (k : Kp (Own τ σ H) H (Own τ1 σ1 H1) H1) (h : NS g γ τ σ H nx τ') : NS g γ τ1 σ1 H1 nx τ' := fun σ' H' R k' => h σ' H' R (k.trans k')
theorem RS.pre {rt : VK} (k : Kp (Own τ σ H) H (Own τ1 σ1 H1) H1) (h : RS g rk γ τ σ H rt d τ') : RS g rk γ τ1 σ1 H1 rt d τ' := fun σ' v H' P => h σ' v H' (P.pre' k)
theorem XS.pre {n : Str} (k : Kp (Own τ σ H) H (Own τ1 σ1 H1) H1) (h : XS g W γ τ σ H n τ') : XS g W γ τ1 σ1 H1 n τ' := fun σ' H' R k' c hc => h σ' H' R (k.trans k') c hc
theorem XS.x {n : Str} (h : XS g W γ τ σ H n τ') : XW g W γ τ σ H n τ' := fun H' R k c hc => h σ H' R k c hc
/-- a run goes on from a later state -/
theorem tSt_go {Dn : Ends} (R1 : Rel g γ τ1 σ1 H1) (k : Kp (Own τ σ H) H (Own τ1 σ1 H1) H1) (q : FitS (f' τ1) (NS g γ τ σ H Dn.nx) (RS g rk γ τ σ H Dn.rt) (XS g W γ τ σ H)) : tSt g W rk f' Dn σ1 H1 :=
  ⟨γ, τ1, R1, q.mono (fun _ z => z.pre k) (fun _ _ z => z.pre k) fun _ _ z => z.pre k⟩

def skip : SM := fun τ => .nx τ
def seqS (x y : SM) : SM := fun τ => match x τ with
  | .nx τ' => y τ'
  | r => r
theorem fitS_seq {x y : SM} {p : PS0 → Prop} {r : D → PS0 → Prop} {q : Str → PS0 → Prop} : FitS (seqS x y τ) p r q ↔ FitS (x τ) (fun τ' => FitS (y τ') p r q) r q := by
  unfold seqS
  cases x τ <;> rfl
theorem jb_nil : JB X W rk [] skip := pss_nil.weak fun Dn σ H ⟨γ, τ, R, q⟩ => q σ H R Kp.refl
theorem jb_cons (h1' : JS X W rk st h1) (h2' : JB X W rk sts h2) : JB X W rk (st :: sts) (seqS h1 h2) := (pss_cons h1' h2').weak fun Dn σ H ⟨γ, τ, R, q⟩ => by
  rw [fitS_seq] at q
  exact ⟨γ, τ, R, q.mono (fun τ' z σ' H' R' k => tSt_go R' k z) (fun _ _ z => z) fun _ _ z => z⟩
theorem jb_one (h1' : JS X W rk st h) : JB X W rk [st] h := pss_one h1'
def ifS (t : M Bool) (x y : SM) : SM := fun τ => match t τ with
  | .ok b τ' => if b = true then x τ' else y τ'
  | .exc n τ' => .exc n τ'
  | .stuck => .stuck
theorem js_if (ht : JT X W m c t) (hx : JB X W rk sts h1) (hy : JB X W rk sts2 h2) : JS X W rk (.If c sts sts2 pos) (ifS t h1 h2) := (ps_if ht hx hy).weak fun Dn σ H ⟨γ, τ, R, q⟩ => by
  unfold ifS at q
  refine ⟨γ, τ, R, ?_⟩
  cases et : t τ with
  | stuck => rw [et] at q; exact q.elim
  | exc n τ' => rw [et] at q; exact XS.x q
  | ok b τ1 =>
    rw [et] at q
    intro H1 s1 R1 kp1
    cases b with
    | true => exact tSt_go R1 kp1 q
    | false => exact tSt_go R1 kp1 q
def exprS (f : M D) : SM := fun τ => match f τ with
  | .ok _ τ' => .nx τ'
  | .exc n τ' => .exc n τ'
  | .stuck => .stuck
theorem js_expr (he : JE X W k m e f) (hs : swapsWith e none pos.line X.env = pure false := by rfl) : JS X W rk (.Expr e pos) (exprS f) := (ps_expr he hs).weak fun Dn σ H ⟨γ, τ, R, q⟩ => by
  unfold exprS at q
  refine ⟨γ, τ, R, ?_⟩
  cases ef : f τ with
  | stuck => rw [ef] at q; exact q.elim
  | exc n τ' => rw [ef] at q; exact XS.x q
  | ok d τ1 =>
    rw [ef] at q
    intro v H1 s1 P1
    obtain ⟨R1, kp1, _⟩ := P1.val
    exact q σ H1 R1 kp1
def retS (f : M D) : SM := fun τ => match f τ with
  | .ok d τ' => .ret d τ'
  | .exc n τ' => .exc n τ'
  | .stuck => .stuck
theorem js_ret (he : JE X W k m e f) (hk : rk = k.r := by rfl) : JS X W rk (.Return (some e) pos) (retS f) := (ps_ret he).weak fun Dn σ H ⟨γ, τ, R, q⟩ => by
  unfold retS at q
  refine ⟨γ, τ, R, ?_⟩
  cases ef : f τ with
  | stuck => rw [ef] at q; exact q.elim
  | exc n τ' => rw [ef] at q; exact XS.x q
  | ok d τ1 =>
    rw [ef] at q
    exact fun v H1 s1 P1 => q σ v H1 (hk ▸ P1.r)
/-- code that is never come to -/
theorem js_never : JS X W rk st (fun _ => .stuck) := ps_never.weak fun Dn σ H ⟨γ, τ, R, q⟩ => q

/-! ### stores -/
def setS (i : Nat) (f : M D) : SM := fun τ => match f τ with
  | .ok d τ' => .nx (τ'.set i (.im d))
  | .exc n τ' => .exc n τ'
  | .stuck => .stuck
def ownS (i : Nat) (f : M D) : SM := fun τ => match f τ with
  | .ok d τ' => if i < τ'.length then .nx (τ'.set i (.ow d)) else .stuck
  | .exc n τ' => .exc n τ'
  | .stuck => .stuck
theorem asg_im {i : Nat} {Dn : Ends} {te : TE} (hte : ∀ σ H Q, tE X.g W .im m f σ H Q → te σ H Q) (σ : L2.St) (H : Hp) (q : tSt X.g W rk (setS i f) Dn σ H) : tAsg te (gName i) Dn σ H := by
  obtain ⟨γ, τ, R, q⟩ := q
  unfold setS at q
  refine hte σ H _ ⟨γ, τ, R, ?_⟩
  cases ef : f τ with
  | stuck => rw [ef] at q; exact q.elim
  | exc n τ' => rw [ef] at q; exact XS.x q
  | ok d τ1 =>
    rw [ef] at q
    intro v H1 s1 P1
    obtain ⟨R2, k2⟩ := P1.1.setIm i P1.2.2
    exact q _ H1 R2 (P1.2.1.trans k2)
theorem asg_ow {i : Nat} {Dn : Ends} {te : TE} (hte : ∀ σ H Q, tE X.g W .fr m f σ H Q → te σ H Q) (σ : L2.St) (H : Hp) (q : tSt X.g W rk (ownS i f) Dn σ H) : tAsg te (gName i) Dn σ H := by
  obtain ⟨γ, τ, R, q⟩ := q
  unfold ownS at q
  refine hte σ H _ ⟨γ, τ, R, ?_⟩
  cases ef : f τ with
  | stuck => rw [ef] at q; exact q.elim
  | exc n τ' => rw [ef] at q; exact XS.x q
  | ok d τ1 =>
    rw [ef] at q
    intro v H1 s1 P1
    obtain ⟨p, rfl, R1, np, kp, ct⟩ := P1
    by_cases hi : i < τ1.length
    · simp only [hi, if_true] at q
      obtain ⟨R2, k2⟩ := R1.setOw i hi np ct
      exact q _ H1 R2 (kp.trans k2)
    · simp only [hi, if_false] at q
      exact q.elim
theorem js_set (i : Nat) {x : Str} {pos' : Pos} (hN : X.N.Nodup) (he : JE X W .im m e f) (hi : X.N[i]? = some x := by rfl) (hx : Loc X.env.scope x := by first | exact .inl rfl | exact .inr rfl) (hs : swapsWith e (some (.Name x pos')) pos.line X.env = pure false := by rfl) (hf : X.fn x = true ∨ X.env.scope.names.lookup x = some .local := by first | exact .inl rfl | exact .inr rfl | assumption) :
    JS X W rk (.Assign [.Name x pos'] e pos) (setS i f) := (ps_set hN hi hx he hs hf).weak fun Dn σ H q => asg_im (fun _ _ _ q => q) σ H q
theorem js_own (i : Nat) {x : Str} {pos' : Pos} (hN : X.N.Nodup) (he : JE X W .fr m e f) (hi : X.N[i]? = some x := by rfl) (hx : Loc X.env.scope x := by first | exact .inl rfl | exact .inr rfl) (hs : swapsWith e (some (.Name x pos')) pos.line X.env = pure false := by rfl) (hf : X.fn x = true ∨ X.env.scope.names.lookup x = some .local := by first | exact .inl rfl | exact .inr rfl | assumption) :
    JS X W rk (.Assign [.Name x pos'] e pos) (ownS i f) := (ps_set hN hi hx he hs hf).weak fun Dn σ H q => asg_ow (fun _ _ _ q => q) σ H q
/-- x[i] = e, x a name that owns a list -/
def oSetIx : OMt
  | .lst xs, [.int i, y] => (ixN xs.length i).map fun j => (.non, .lst (xs.set j y))
  | _, _ => none
def stIx (i : Nat) (fv fi : M D) (o : OMt) : SM := fun τ => match fv τ with
  | .ok v τ1 => (match ownC τ1 i with
    | some _ => (match fi τ1 with
      | .ok j τ2 => (match ownC τ2 i with
        | some c => (match o c [j, v] with
          | some (_, c') => .nx (putC τ2 i c')
          | none => .stuck)
        | none => .stuck)
      | .exc n τ2 => .exc n τ2
      | .stuck => .stuck)
    | none => .stuck)
  | .exc n τ1 => .exc n τ1
  | .stuck => .stuck
theorem js_ix (i : Nat) {x : Str} {px p3 : Pos} {fv fi : M D} {ei ev : Expr} (hv' : JE X W .im m1 ev fv) (hi' : JE X W .im m2 ei fi) (hN : X.N[i]? = some x := by rfl) (hv : Vis X.env.scope x := by first | exact Or.inl rfl | exact Or.inr (Or.inl rfl) | exact Or.inr (Or.inr rfl)) (hd : (x == ("__debug__" : Str)) = false := by decide) (hcd : (x == ("__classdict__" : Str)) = false := by decide)
    (ha : ∀ v, assign (.Subscript (.Name x px) ei p3) X.env v = (do
      let ov ← holding [v] (eval (.Name x px) X.env)
      let iv ← holding [v, ov] (eval ei X.env)
      standAt p3
      holding [v, ov, iv] (setItem ov iv v)
      release [v, ov, iv] []) := by intro _; rfl)
    (hs : swapsWithSole [.Subscript (.Name x px) ei p3] ev pos.line X.env = pure false := by rfl) (hw : swappedStores [.Subscript (.Name x px) ei p3] ev X.env = pure none := by rfl)
    (h1 : (assignEach [.Subscript (.Name x px) ei p3] X.env).map (·.2) = [assign (.Subscript (.Name x px) ei p3) X.env] := by rfl) :
    JS X W rk (.Assign [.Subscript (.Name x px) ei p3] ev pos) (stIx i fv fi oSetIx) := (ps_asg hv' (pg_sub (pe_var hN hv hd hcd) hi' set_list ha) hs hw h1).weak fun Dn σ H ⟨γ, τ, R, q⟩ => by
  unfold stIx at q
  refine ⟨γ, τ, R, ?_⟩
  cases ef : fv τ with
  | stuck => rw [ef] at q; exact q.elim
  | exc n τ' => rw [ef] at q; exact XS.x q
  | ok d τ1 =>
    rw [ef] at q
    intro v H1 s1 P1
    obtain ⟨R1, kp1, r1⟩ := P1
    cases e1 : ownC τ1 i with
    | none => simp only [e1] at q; exact q.elim
    | some c1 =>
      simp only [e1] at q
      obtain ⟨a, s, hs, ho, hi, ct⟩ := R1.ownC e1
      refine ⟨.ref a, hi, γ, τ1, R1, ?_⟩
      cases ei' : fi τ1 with
      | stuck => simp only [ei'] at q; exact q.elim
      | exc n τ' => simp only [ei'] at q; exact (XS.x q).pre kp1
      | ok j τ2 =>
        simp only [ei'] at q
        intro iv H2 s2 P2
        obtain ⟨R2, kp2, r2⟩ := P2
        cases e2 : ownC τ2 i with
        | none => simp only [e2] at q; exact q.elim
        | some c2 =>
          simp only [e2] at q
          obtain ⟨a', s', hs', ho', hi'', ct'⟩ := R2.ownC e2
          have ea : a' = a := by rw [hi] at hi''; cases hi''; rfl
          subst ea
          cases eo : oSetIx c2 [j, d] with
          | none => simp only [eo] at q; exact q.elim
          | some zc =>
            obtain ⟨z, c'⟩ := zc
            simp only [eo] at q
            unfold oSetIx at eo
            split at eo
            · rename_i xs ii yy heq
              cases heq
              cases ek : ixN xs.length ii with
              | none => rw [ek] at eo; cases eo
              | some jj =>
                rw [ek] at eo
                cases eo
                cases ct' with
                | lst hl rl =>
                  rw [LRep.int (.inl r2)]
                  have oa : OwnAt τ2 σ H2 i a' := .of hs' ho' hi''
                  have hA : Av γ τ2 σ H2 a' := .inr ⟨i, oa⟩
                  refine ⟨a', _, ii, jj, rfl, rfl, hl, by rw [rl.length]; exact ek, ?_⟩
                  obtain ⟨R', k'⟩ := R2.put hs' ho' oa upd_keep (Cont.lst upd_same (upd_put hA (rl.set jj (r1.kp kp2.av))))
                  unfold putC at q
                  rw [hs'] at q
                  exact q σ _ R' ((kp1.trans kp2).trans k')
            · cases eo

/-! ### targets -/
def tG (g : Gc) (h : D → PS0 → Option PS0) (ts : List Nat) : TG := fun v σ H Q => ∃ γ τ d τ', Rel g γ τ σ H ∧ Rep g H (Av γ τ σ H) v d ∧ h d τ = some τ' ∧ ∀ σ', Rel g γ τ' σ' H → Kp (Own τ σ H) H (Own τ' σ' H) H → (∀ j, j ∉ ts → σ'[j]? = σ[j]?) → σ'.length = σ.length → Q σ' H
def tGs (g : Gc) (h : List D → PS0 → Option PS0) (ts : List Nat) : TGs := fun vs σ H Q => ∃ γ τ ds τ', Rel g γ τ σ H ∧ RepA g H (Av γ τ σ H) vs ds ∧ h ds τ = some τ' ∧ ∀ σ', Rel g γ τ' σ' H → Kp (Own τ σ H) H (Own τ' σ' H) H → (∀ j, j ∉ ts → σ'[j]? = σ[j]?) → σ'.length = σ.length → Q σ' H
abbrev JG (X : Cx) (tg : Expr) (h : D → PS0 → Option PS0) (ts : List Nat) : Prop := PG X tg (tG X.g h ts)
abbrev JGs (X : Cx) (tgs : List Expr) (h : List D → PS0 → Option PS0) (ts : List Nat) : Prop := PGs X tgs (tGs X.g h ts)
theorem PG.weak {X : Cx} {e : Expr} {t t' : TG} (h : PG X e t) (w : ∀ v σ H Q, t' v σ H Q → t v σ H Q) : PG X e t' := ⟨fun pins s σ H v u Q I r q => h.run pins s σ H v u Q I r (w v σ H Q q)⟩
theorem PGs.weak {X : Cx} {e : List Expr} {t t' : TGs} (h : PGs X e t) (w : ∀ v σ H Q, t' v σ H Q → t v σ H Q) : PGs X e t' := ⟨fun pins s σ H v u Q I r q => h.run pins s σ H v u Q I r (w v σ H Q q)⟩
def tgN (i : Nat) : D → PS0 → Option PS0 := fun d τ => some (τ.set i (.im d))
def tgNil : List D → PS0 → Option PS0
  | [], τ => some τ
  | _, _ => none
def tgCons (h : D → PS0 → Option PS0) (hs : List D → PS0 → Option PS0) : List D → PS0 → Option PS0
  | d :: ds, τ => (h d τ).bind (hs ds)
  | [], _ => none
def tgT (n : Nat) (hs : List D → PS0 → Option PS0) : D → PS0 → Option PS0
  | .tup ds, τ => if ds.length = n then hs ds τ else none
  | _, _ => none
theorem jg_name (i : Nat) {x : Str} (hN : X.N.Nodup) (hi : X.N[i]? = some x := by rfl) (hx : Loc X.env.scope x := by first | exact .inl rfl | exact .inr rfl) (hf : X.fn x = true ∨ X.env.scope.names.lookup x = some .local := by first | exact .inl rfl | exact .inr rfl | assumption) : JG X (.Name x pos) (tgN i) [i] :=
  PG.weak (pg_name hN hi hx hf) fun v σ H Q ⟨γ, τ, d, τ', R, r, e, q⟩ => by
    cases e
    obtain ⟨R2, k2⟩ := R.setIm i r
    exact q _ R2 k2 (fun j hj => by rw [List.getElem?_set_ne (fun z => hj (by rw [z]; exact List.mem_singleton.mpr rfl))]) List.length_set
theorem jgs_nil : JGs X [] tgNil [] := PGs.weak pgs_nil fun vs σ H Q ⟨γ, τ, ds, τ', R, r, e, q⟩ => by
  cases r with
  | nil =>
    cases e
    exact ⟨rfl, q σ R Kp.refl (fun _ _ => rfl) rfl⟩
  | cons _ _ => cases e
theorem jgs_cons {h : D → PS0 → Option PS0} {hs : List D → PS0 → Option PS0} {ts ts2 : List Nat} (h1 : JG X e h ts) (h2 : JGs X es hs ts2) (hst : (assignEach (e :: es) X.env).map (·.2) = assign e X.env :: (assignEach es X.env).map (·.2) := by rfl) : JGs X (e :: es) (tgCons h hs) (ts ++ ts2) :=
  PGs.weak (pgs_cons h1 h2 hst) fun vs σ H Q ⟨γ, τ, ds, τ', R, r, e, q⟩ => by
    cases r with
    | nil => cases e
    | @cons v vs d ds r rs =>
      have e : (h d τ).bind (hs ds) = some τ' := e
      cases e1 : h d τ with
      | none => rw [e1] at e; cases e
      | some τ1 =>
        rw [e1] at e
        refine ⟨v, vs, rfl, γ, τ, d, τ1, R, r, e1, fun σ1 R1 k1 o1 l1 => ?_⟩
        refine ⟨γ, τ1, ds, τ', R1, rs.kp k1.av, e, fun σ2 R2 k2 o2 l2 => q σ2 R2 (k1.trans k2) (fun j hj => ?_) (l2.trans l1)⟩
        rw [List.mem_append] at hj
        rw [o2 j fun z => hj (.inr z), o1 j fun z => hj (.inl z)]
theorem jg_tup {hs : List D → PS0 → Option PS0} {ts : List Nat} {kk n : Nat} (hc : X.calm = true) (h : JGs X es hs ts) (hn : (assignEach es X.env).length = n := by rfl) (hst : (assignEach es X.env).findIdx? (·.1) = none := by rfl) : JG X (.Tuple es kk pos) (tgT n hs) ts :=
  PG.weak (pg_tup hc h hn hst) fun v σ H Q ⟨γ, τ, d, τ', R, r, e, q⟩ => by
    unfold tgT at e
    split at e
    · split at e
      · rename_i ds hl
        obtain ⟨a, vs, rfl, ha, ra⟩ := LRep.tup (.inl r)
        exact ⟨a, vs, rfl, .inl (.inl ha.1), ra.length.trans hl, γ, τ, ds, τ', R, ra, e, q⟩
      · cases e
    · cases e
def tgS (h : D → PS0 → Option PS0) (f : M D) : SM := fun τ => match f τ with
  | .ok d τ1 => (match h d τ1 with
    | some τ2 => .nx τ2
    | none => .stuck)
  | .exc n τ' => .exc n τ'
  | .stuck => .stuck
theorem js_tg {tg : Expr} {h : D → PS0 → Option PS0} {ts : List Nat} (he : JE X W .im m e f) (hg : JG X tg h ts) (hs : swapsWithSole [tg] e pos.line X.env = pure false := by rfl) (hw : swappedStores [tg] e X.env = pure none := by rfl)
    (h1 : (assignEach [tg] X.env).map (·.2) = [assign tg X.env] := by rfl) : JS X W rk (.Assign [tg] e pos) (tgS h f) := (ps_asg he hg hs hw h1).weak fun Dn σ H ⟨γ, τ, R, q⟩ => by
  unfold tgS at q
  refine ⟨γ, τ, R, ?_⟩
  cases ef : f τ with
  | stuck => rw [ef] at q; exact q.elim
  | exc n τ' => rw [ef] at q; exact XS.x q
  | ok d τ1 =>
    rw [ef] at q
    intro v H1 s1 P1
    obtain ⟨R1, kp1, r1⟩ := P1
    cases eh : h d τ1 with
    | none => simp only [eh] at q; exact q.elim
    | some τ2 =>
      simp only [eh] at q
      exact ⟨γ, τ1, d, τ2, R1, r1, eh, fun σ' R2 k2 _ _ => q σ' H1 R2 (kp1.trans k2)⟩
/-- a, b = x, y -/
def parS (i j : Nat) (fs : M (List D)) : SM := fun τ => match fs τ with
  | .ok [x, y] τ1 => .nx ((τ1.set i (.im x)).set j (.im y))
  | .ok _ _ => .stuck
  | .exc n τ' => .exc n τ'
  | .stuck => .stuck
end
end PL

namespace PL
open PySem PySem.Spec PyProof.Rows L2

/-! ### what is walked -/
def ItGood (g : Gc) (J : It) (I : Hp → (Addr → Prop) → Prop) (ds : List D) : Prop := ∀ i H A, I H A → (∀ a, A a → Th H a) →
  (∀ d, ds[i]? = some d → J.go i H ∧ ∀ x H', J.yld i H x H' → Same H H' ∧ Rep g H' A x d) ∧ (ds.length ≤ i → J.stop i H)
def Lasts (I : Hp → (Addr → Prop) → Prop) : Prop := ∀ H A H2 A2, I H A → Kp A H A2 H2 → I H2 A2
def tI (g : Gc) (W : WX) (m : Bool) (f : M (List D)) : TI := fun σ H R => ∃ γ τ, Rel g γ τ σ H ∧ Fit (f τ) (fun ds τ' => ∀ J H' (I : Hp → (Addr → Prop) → Prop), (m = false → Same H H') → Rel g γ τ' σ H' → Kp (Own τ σ H) H (Own τ' σ H') H' → I H' (Av γ τ' σ H') → Lasts I → ItGood g J I ds → R J H') (XW g W γ τ σ H)
abbrev JI (X : Cx) (W : WX) (m : Bool) (tg iter : Expr) (f : M (List D)) : Prop := PI X tg iter (tI X.g W m f)

section
variable {X : Cx} {W : WX} {g : Gc} {γ : G} {τ τ' τ1 τ2 : PS0} {σ σ' σ1 : L2.St} {H H' H1 H2 : Hp} {A : Addr → Prop} {p : Addr} {v : V} {d : D} {k k1 k2 k3 kr : Kd} {rk : Rk} {m m1 m2 m3 : Bool} {e e1 e2 a b c tg iter : Expr} {es rest : List Expr} {f fa fb fc : M D} {t u : M Bool} {fs : M (List D)} {pos : Pos} {st : Stmt} {sts sts2 : List Stmt} {h h1 h2 : SM}

/-- a list, a tuple, a text -/
def oIter : D → Option (List D)
  | .lst xs => some xs
  | .fz xs => some xs
  | .tup xs => some xs
  | .mt xs => some xs
  | .str s => some (s.map fun c => .str [c])
  | _ => none
def iterM (f : M D) : M (List D) := andThen f fun d => lift (oIter d)
theorem PI.or {t t' : TI} (h : PI X tg e t) (h' : PI X tg e t') : PI X tg e (fun σ H R => t σ H R ∨ t' σ H R) := ⟨fun pins s σ H Q I q => q.elim (h.run pins s σ H Q I) (h'.run pins s σ H Q I)⟩
def AtI (g : Gc) (H : Hp) (A : Addr → Prop) (a : Addr) (ds : List D) : Prop := ∃ vs, ((H a = some (.lst vs) ∧ ¬ A a) ∨ AtF g H A a vs) ∧ RepA g H A vs ds
theorem good_list {a : Addr} {ds : List D} : ItGood g (Itl g.K a) (fun H A => AtI g H A a ds) ds := fun i H A ⟨vs, ha, ra⟩ hA => by
  have sq : SqL g.K H a vs := ha.elim (fun z => .inl (.inl z.1)) fun z => z.sq
  refine ⟨fun d hd => ?_, fun hl => ⟨vs, sq, by rw [ra.length]; exact hl⟩⟩
  obtain ⟨v, hv, rv⟩ := ra.get hd
  refine ⟨⟨vs, v, sq, hv⟩, fun x H' y => ?_⟩
  obtain ⟨e, y⟩ := y
  subst e
  have := y vs sq
  rw [hv] at this
  cases this
  exact ⟨Same.refl _, rv⟩
/-- a tuple, a module's too -/
def AtM (g : Gc) (H : Hp) (A : Addr → Prop) (a : Addr) (vs : List V) : Prop := AtT H A a vs ∨ SqT g.K (fun _ => none) a vs
theorem AtM.sq {H : Hp} {A : Addr → Prop} {a : Addr} {vs : List V} (h : AtM g H A a vs) : SqT g.K H a vs := h.elim AtT.sq sqT_up
theorem good_tup {a : Addr} {ds : List D} : ItGood g (Itt g.K a) (fun H A => ∃ vs, AtM g H A a vs ∧ RepA g H A vs ds) ds := fun i H A ⟨vs, ha, ra⟩ hA => by
  refine ⟨fun d hd => ?_, fun hl => ⟨vs, ha.sq, by rw [ra.length]; exact hl⟩⟩
  obtain ⟨v, hv, rv⟩ := ra.get hd
  refine ⟨⟨vs, v, ha.sq, hv⟩, fun x H' y => ?_⟩
  obtain ⟨e, y⟩ := y
  subst e
  have := y vs ha.sq
  rw [hv] at this
  cases this
  exact ⟨Same.refl _, rv⟩
theorem good_str {s : List Nat} : ItGood g (Its (S s)) (fun _ _ => True) (s.map fun c => D.str [c]) := fun i H A _ hA => by
  have hsz : (S s).cps.size = s.length := S_len s
  refine ⟨fun d hd => ?_, fun hl => by show (S s).cps.size ≤ i; rw [hsz]; simpa using hl⟩
  rw [List.getElem?_map] at hd
  cases e : s[i]? with
  | none => rw [e] at hd; cases hd
  | some c =>
    rw [e] at hd
    cases hd
    have hi : i < s.length := (List.getElem?_eq_some_iff.mp e).1
    refine ⟨by show i < (S s).cps.size; rw [hsz]; exact hi, fun x H' y => ?_⟩
    obtain ⟨eh, c', ec, ex⟩ := y
    subst eh
    have ec' : s[i]? = some c' := by
      have : (S s).cps[i]? = s[i]? := by simp [S]
      rw [this] at ec
      exact ec
    rw [e] at ec'
    cases ec'
    subst ex
    exact ⟨Same.refl _, .str [c]⟩
theorem lasts_list {a : Addr} {ds : List D} : Lasts (fun H A => AtI g H A a ds) := fun H A H2 A2 ⟨vs, ha, ra⟩ k => by
  rcases ha with ⟨ha, n⟩ | ⟨o, ha, n⟩ | ha
  · exact ⟨vs, .inl (k a _ ha n), ra.kp k⟩
  · exact ⟨vs, .inr (.inl ⟨o, k a _ ha n⟩), ra.kp k⟩
  · exact ⟨vs, .inr (.inr ha), ra.kp k⟩
theorem lasts_tup {a : Addr} {ds : List D} : Lasts (fun H A => ∃ vs, AtM g H A a vs ∧ RepA g H A vs ds) := fun H A H2 A2 ⟨vs, ha, ra⟩ k =>
  ⟨vs, ha.elim (fun q => .inl (k _ _ q.1 q.2)) .inr, ra.kp k⟩
theorem ji_val (he : JE X W .im m iter f) : JI X W m tg iter (iterM f) := PI.weak (PI.or (pi_list he) (PI.or (pi_tup he) (pi_str he))) fun σ H R ⟨γ, τ, Re, h⟩ => by
  unfold iterM at h
  rw [fit_bind] at h
  cases ef : f τ with
  | stuck => rw [ef] at h; exact h.elim
  | exc n τ' => rw [ef] at h; exact .inl ⟨γ, τ, Re, by rw [ef]; exact h⟩
  | ok d τ1 =>
    rw [ef] at h
    obtain ⟨ds, ed, h⟩ := fit_lift.mp h
    unfold oIter at ed
    split at ed
    · cases ed
      refine .inl ⟨γ, τ, Re, ?_⟩
      rw [ef]
      intro v H1 s1 P1
      obtain ⟨R1, kp1, r1⟩ := P1
      cases r1 with
      | lst ha n ra =>
        exact ⟨_, rfl, ⟨_, .inl (.inl ha)⟩, h _ H1 _ s1 R1 kp1 ⟨_, .inl ⟨ha, n⟩, ra⟩ lasts_list good_list⟩
    · cases ed
      refine .inl ⟨γ, τ, Re, ?_⟩
      rw [ef]
      intro v H1 s1 P1
      obtain ⟨R1, kp1, r1⟩ := P1
      cases r1 with
      | fz ha ra =>
        exact ⟨_, rfl, ⟨_, ha.sq⟩, h _ H1 _ s1 R1 kp1 ⟨_, .inr ha, ra⟩ lasts_list good_list⟩
    · cases ed
      refine .inr (.inl ⟨γ, τ, Re, ?_⟩)
      rw [ef]
      intro v H1 s1 P1
      obtain ⟨R1, kp1, r1⟩ := P1
      cases r1 with
      | tup ha ra =>
        exact ⟨_, rfl, ⟨_, .inl (.inl ha.1)⟩, h _ H1 _ s1 R1 kp1 ⟨_, .inl ha, ra⟩ lasts_tup good_tup⟩
    · cases ed
      refine .inr (.inl ⟨γ, τ, Re, ?_⟩)
      rw [ef]
      intro v H1 s1 P1
      obtain ⟨R1, kp1, r1⟩ := P1
      cases r1 with
      | mt ha ra =>
        exact ⟨_, rfl, ⟨_, sqT_up ha⟩, h _ H1 _ s1 R1 kp1 ⟨_, .inr ha, ra⟩ lasts_tup good_tup⟩
    · cases ed
      refine .inr (.inr ⟨γ, τ, Re, ?_⟩)
      rw [ef]
      intro v H1 s1 P1
      obtain ⟨R1, kp1, r1⟩ := P1
      cases r1
      exact ⟨_, rfl, h _ H1 _ s1 R1 kp1 trivial (fun _ _ _ _ _ _ => trivial) good_str⟩
    · cases ed
/-- range -/
def rangeD (lo : Int) (n : Nat) : List D := (List.range n).map fun (i : Nat) => D.int (lo + (i : Int))
def oRange1 : D → Option (List D)
  | .int j => if -(2 ^ 62) ≤ j ∧ j < 2 ^ 62 then some (rangeD 0 j.toNat) else none
  | _ => none
def rng1M (f : M D) : M (List D) := andThen f fun d => lift (oRange1 d)
theorem good_range {lo : Int} {n : Nat} : ItGood g (Itr lo n) (fun _ _ => True) (rangeD lo n) := fun i H A _ hA => by
  unfold rangeD
  refine ⟨fun d hd => ?_, fun hl => by show n ≤ i; simpa using hl⟩
  rw [List.getElem?_map] at hd
  cases e : (List.range n)[i]? with
  | none => rw [e] at hd; cases hd
  | some j =>
    rw [e] at hd
    cases hd
    obtain ⟨hi, ej⟩ := List.getElem?_eq_some_iff.mp e
    rw [List.getElem_range] at ej
    subst ej
    rw [List.length_range] at hi
    refine ⟨hi, fun x H' y => ?_⟩
    obtain ⟨eh, ex⟩ := y
    subst eh ex
    exact ⟨Same.refl _, .int _⟩
theorem tI_rng1 (σ : L2.St) (H : Hp) (R : It → Hp → Prop) (q : tI X.g W m (rng1M fa) σ H R) : iRng1 (tCons (tE X.g W k m fa) tNil) σ H R := by
  obtain ⟨γ, τ, Re, h⟩ := q
  unfold rng1M at h
  rw [fit_bind] at h
  refine ⟨γ, τ, Re, h.mono (fun d τ1 h v H1 s1 P1 => ?_) fun _ _ q => q⟩
  obtain ⟨ds, ed, h⟩ := fit_lift.mp h
  obtain ⟨R1, kp1, v1⟩ := P1.val
  unfold oRange1 at ed
  split at ed
  · split at ed
    · rename_i j hz
      cases ed
      rw [v1.l.int]
      exact ⟨j, rfl, hz.1, hz.2, h _ H1 _ s1 R1 kp1 trivial (fun _ _ _ _ _ _ => trivial) good_range⟩
    · cases ed
  · cases ed
theorem ji_range1 {p : Pos} (hg : Gl X "range") (hm : X.mg "range" = none) (ha : JE X W k m a fa) (hs : starEach [a] X.env = [(false, eval a X.env)] := by rfl) : JI X W m tg (.Call (.Name "range" p) [a] [] pos) (rng1M fa) :=
  PI.weak (pi_range1 hg hm (pa_cons ha pa_nil hs) hs) tI_rng1
def oRange2 : D → D → Option (List D)
  | .int i, .int j => if -(2 ^ 62) ≤ i ∧ i < 2 ^ 62 ∧ -(2 ^ 62) ≤ j ∧ j < 2 ^ 62 then some (rangeD i (j - i).toNat) else none
  | _, _ => none
def rng2M (fa fb : M D) : M (List D) := andThen fa fun x => andThen fb fun y => lift (oRange2 x y)
/-- enumerate of a list; zip of two lists -/
def enumD : Nat → List D → List D
  | _, [] => []
  | i, d :: r => .tup [.int i, d] :: enumD (i + 1) r
theorem new_pair {H : Hp} {T : Addr} {vs : List V} {ds : List D} (hA : ∀ a, A a → ∃ o, H a = some o) (hT : H T = none) (r : RepA g H A vs ds) : Same H (upd H T (.tup vs)) ∧ Rep g (upd H T (.tup vs)) A (.ref T) (.tup ds) := by
  have := out_tup (g := g) hA r hT
  exact ⟨this.1, this.2⟩
def zipD : List D → List D → List D
  | x :: xs, y :: ys => .tup [x, y] :: zipD xs ys
  | _, _ => []
theorem zipD_get : ∀ {xs ys : List D} {i : Nat}, (zipD xs ys)[i]? = (xs[i]?).bind fun x => (ys[i]?).map fun y => .tup [x, y]
  | [], _, _ => by simp [zipD]
  | _ :: _, [], i => by
    unfold zipD
    cases h : (_ :: _ : List D)[i]? <;> simp [h]
  | x :: xs, y :: ys, 0 => by simp [zipD]
  | x :: xs, y :: ys, i + 1 => by
    unfold zipD
    rw [List.getElem?_cons_succ, List.getElem?_cons_succ, List.getElem?_cons_succ, zipD_get]
theorem zipD_len : ∀ {xs ys : List D}, (zipD xs ys).length = min xs.length ys.length
  | [], _ => by simp [zipD]
  | _ :: _, [] => by simp [zipD]
  | x :: xs, y :: ys => by
    unfold zipD
    rw [List.length_cons, zipD_len, List.length_cons, List.length_cons]
    omega
def oZip : D → D → Option (List D)
  | .lst xs, .lst ys => some (zipD xs ys)
  | .fz xs, .lst ys => some (zipD xs ys)
  | _, _ => none
def zipM (fa fb : M D) : M (List D) := andThen fa fun x => andThen fb fun y => lift (oZip x y)
theorem at_of_rep {v : V} {d : D} {xs : List D} (r : Rep g H A v d) (h : d = .lst xs ∨ d = .fz xs) : ∃ a vs, v = .ref a ∧ SqL g.K H a vs ∧ AtI g H A a xs := by
  rcases h with rfl | rfl
  · cases r with
    | lst ha n ra => exact ⟨_, _, rfl, .inl (.inl ha), _, .inl ⟨ha, n⟩, ra⟩
  · cases r with
    | fz ha ra => exact ⟨_, _, rfl, ha.sq, _, .inr ha, ra⟩
/-! ### for -/
def forL (h : D → PS0 → Option PS0) (body : SM) : List D → SM
  | [], τ => .nx τ
  | d :: ds, τ => match h d τ with
    | some τ1 => (match body τ1 with
      | .nx τ2 => forL h body ds τ2
      | r => r)
    | none => .stuck
def forS (fs : M (List D)) (h : D → PS0 → Option PS0) (body : SM) : SM := fun τ => match fs τ with
  | .ok ds τ' => forL h body ds τ'
  | .exc n τ' => .exc n τ'
  | .stuck => .stuck
theorem tSt_for {h : D → PS0 → Option PS0} {ts : List Nat} {body : SM} (Dn : Ends) (σ : L2.St) (H : Hp) (q : tSt X.g W rk (forS fs h body) Dn σ H) : tFor (tI X.g W m fs) (tG X.g h ts) (tSt X.g W rk body) Dn σ H := by
  obtain ⟨γ, τ, R, q⟩ := q
  unfold forS at q
  refine ⟨γ, τ, R, ?_⟩
  cases ef : fs τ with
  | stuck => rw [ef] at q; exact q.elim
  | exc n τ' => rw [ef] at q; exact XS.x q
  | ok ds τ1 =>
    rw [ef] at q
    intro J H1 I s1 R1 kp1 i1 la gd
    refine ⟨fun i mm σ' H' => mm = ds.length - i ∧ i ≤ ds.length ∧ ∃ τi, Rel X.g γ τi σ' H' ∧ Kp (Own τ σ H) H (Own τi σ' H') H' ∧ I H' (Av γ τi σ' H') ∧ FitS (forL h body (ds.drop i) τi) (NS X.g γ τ σ H Dn.nx) (RS X.g rk γ τ σ H Dn.rt) (XS X.g W γ τ σ H),
      ⟨ds.length, by simp, Nat.zero_le _, τ1, R1, kp1, i1, q⟩, ?_⟩
    rintro i mm σ' H' ⟨rfl, hi', τi, Ri, ki, ii, qi⟩
    have G := gd i H' (Av γ τi σ' H') ii Ri.avTh'
    by_cases hl : i < ds.length
    · have ed : ds.drop i = ds[i] :: ds.drop (i + 1) := List.drop_eq_getElem_cons hl
      rw [ed] at qi
      have hd : ds[i]? = some ds[i] := List.getElem?_eq_getElem hl
      obtain ⟨go, yl⟩ := G.1 _ hd
      refine .inr ⟨go, fun σ2 H2 => ∃ mm', mm' < ds.length - i ∧ (mm' = ds.length - (i + 1) ∧ i + 1 ≤ ds.length ∧ ∃ τi, Rel X.g γ τi σ2 H2 ∧ Kp (Own τ σ H) H (Own τi σ2 H2) H2 ∧ I H2 (Av γ τi σ2 H2) ∧ FitS (forL h body (ds.drop (i + 1)) τi) (NS X.g γ τ σ H Dn.nx) (RS X.g rk γ τ σ H Dn.rt) (XS X.g W γ τ σ H)), fun _ _ z => z, fun x H2 y => ?_⟩
      obtain ⟨sm, rx⟩ := yl x H2 y
      have Ri2 := Ri.same sm
      have ks : Kp (Own τi σ' H') H' (Own τi σ' H2) H2 := Ri.kpS sm
      have rx := rx.kp (Av := Av γ τi σ' H') (Av' := Av γ τi σ' H2) (Kp.less fun a q => (Ri.av_same sm).mp q)
      have ii2 : I H2 (Av γ τi σ' H2) := la _ _ _ _ ii ks.av
      unfold forL at qi
      cases eh : h ds[i] τi with
      | none => rw [eh] at qi; exact qi.elim
      | some τh =>
        rw [eh] at qi
        refine ⟨γ, τi, ds[i], τh, Ri2, rx, eh, fun σ3 R3 k3 _ _ => ?_⟩
        have kk := (ki.trans ks).trans k3
        refine ⟨γ, τh, R3, ?_⟩
        cases eb : body τh with
        | stuck => simp only [eb] at qi; exact qi.elim
        | ret dr τr => simp only [eb] at qi; exact RS.pre kk qi
        | exc n τr => simp only [eb] at qi; exact XS.pre kk qi
        | nx τn =>
          simp only [eb] at qi
          exact fun σ4 H4 R4 k4 => ⟨ds.length - (i + 1), by omega, rfl, hl, τn, R4, kk.trans k4, la _ _ _ _ (la _ _ _ _ ii2 k3.av) k4.av, qi⟩
    · have e : i = ds.length := by omega
      subst e
      rw [List.drop_length] at qi
      exact .inl ⟨G.2 (Nat.le_refl _), qi σ' H' Ri ki⟩
theorem js_for {h : D → PS0 → Option PS0} {ts : List Nat} {body : SM} (hp : PassesOwn (model X.prog X.w) X.A X.env X.xe) (hc : X.calm = true) (hi : JI X W m tg iter fs) (hg : JG X tg h ts) (hb : JB X W rk sts body)
    (hs : ∀ x, foldedSetIterable iter X.env x = pure x := by intro _; rfl) : JS X W rk (.For tg iter sts [] pos) (forS fs h body) := (ps_for hp hc hi hg hb hs).weak tSt_for
end
end PL

namespace PL
open PySem PySem.Spec PyProof.Rows L2

section
variable {X : Cx} {W : WX} {g : Gc} {γ : G} {τ τ' τ1 τ2 : PS0} {σ σ' σ1 σ2 : L2.St} {H H' H1 H2 : Hp} {A : Addr → Prop} {p : Addr} {v : V} {d : D} {k k1 k2 k3 kr : Kd} {rk : Rk} {m m1 m2 m3 : Bool} {e e1 e2 a b c tg iter elt : Expr} {es rest : List Expr} {f fa fb fc : M D} {t u : M Bool} {fs : M (List D)} {pos : Pos} {st : Stmt} {sts sts2 : List Stmt} {h h1 h2 : SM}

/-! ### a comprehension's own names -/
def wipeP (τ : PS0) : List Nat → PS0
  | [] => τ
  | v :: vs => (wipeP τ vs).set v .no
def backP (τ τb : PS0) : List Nat → PS0
  | [] => τb
  | v :: vs => match τ[v]? with
    | some s => (backP τ τb vs).set v s
    | none => backP τ τb vs
/-- none of these slots owns -/
def freeP (τ : PS0) (vs : List Nat) : Bool := vs.all fun v => match τ[v]? with
  | some s => !s.isOwn
  | none => true
theorem backP_len {τb : PS0} : ∀ vs : List Nat, (backP τ τb vs).length = τb.length
  | [] => rfl
  | v :: vs => by
    unfold backP
    split
    · rw [List.length_set, backP_len vs]
    · exact backP_len vs
theorem backP_get {τb : PS0} {j : Nat} : ∀ {vs : List Nat}, j ∉ vs → (backP τ τb vs)[j]? = τb[j]?
  | [], _ => rfl
  | v :: vs, h => by
    unfold backP
    have h1 : j ∉ vs := fun z => h (List.mem_cons_of_mem _ z)
    have h2 : v ≠ j := fun z => h (by rw [z]; exact List.mem_cons_self)
    split
    · rw [List.getElem?_set_ne h2, backP_get h1]
    · exact backP_get h1
theorem backP_in {τb : PS0} {j : Nat} (hl : τb.length = τ.length) : ∀ {vs : List Nat}, j ∈ vs → (backP τ τb vs)[j]? = τ[j]?
  | v :: vs, h => by
    unfold backP
    by_cases e : j = v
    · subst e
      cases ej : τ[j]? with
      | none =>
        have : (backP τ τb vs).length = τ.length := (backP_len vs).trans hl
        rw [List.getElem?_eq_none_iff] at ej
        rw [List.getElem?_eq_none_iff.mpr (by rw [this]; exact ej)]
      | some s =>
        have lt : j < τ.length := (List.getElem?_eq_some_iff.mp ej).1
        show ((backP τ τb vs).set j s)[j]? = some s
        rw [List.getElem?_set_self (by rw [backP_len, hl]; exact lt)]
    · have h' : j ∈ vs := (List.mem_cons.mp h).resolve_left e
      split
      · rw [List.getElem?_set_ne (fun z => e z.symm), backP_in hl h']
      · exact backP_in hl h'
theorem Rel.wipe (R : Rel g γ τ σ H) : ∀ vs : List Nat, Rel g γ (wipeP τ vs) (L2.wipe σ vs) H ∧ Kp (Own τ σ H) H (Own (wipeP τ vs) (L2.wipe σ vs) H) H
  | [] => ⟨R, Kp.refl⟩
  | v :: vs => by
    obtain ⟨R1, k1⟩ := R.wipe vs
    obtain ⟨R2, k2⟩ := R1.setNo v .no none rfl fun d e => nomatch e
    exact ⟨R2, k1.trans k2⟩
theorem Rel.back {vs : List Nat} {τb : PS0} (R : Rel g γ τ σ H) (R2 : Rel g γ τb σ2 H2) (hf : freeP τ vs = true) (hσ : ∀ j, j ∉ vs → σ2[j]? = σ[j]?) (hl : σ2.length = σ.length) (k : Kp (Own τ σ H) H (Own τb σ2 H2) H2) :
    Rel g γ (backP τ τb vs) σ H2 ∧ Kp (Own τ σ H) H (Own (backP τ τb vs) σ H2) H2 := by
  have ll : τb.length = τ.length := by rw [← R2.len, hl, R.len]
  have own_in : ∀ {j a}, j ∈ vs → ¬ OwnAt (backP τ τb vs) σ H2 j a := fun {j a} hj ⟨s, v, hs, hv, hft⟩ => by
    have ho := Slot.foot_own hft
    rw [backP_in ll hj] at hs
    have := List.all_eq_true.mp hf j hj
    rw [hs] at this
    simp [ho] at this
  have own_out : ∀ {j a}, j ∉ vs → OwnAt (backP τ τb vs) σ H2 j a → OwnAt τb σ2 H2 j a := fun {j a} hj ⟨s, v, hs, hv, hft⟩ => ⟨s, v, by rw [← backP_get hj]; exact hs, by rw [hσ j hj]; exact hv, hft⟩
  have sub : ∀ a, Own (backP τ τb vs) σ H2 a → Own τb σ2 H2 a := fun a ⟨j, h⟩ => by
    by_cases hj : j ∈ vs
    · exact absurd h (own_in hj)
    · exact ⟨j, own_out hj h⟩
  have kl : Kp (Own τb σ2 H2) H2 (Own (backP τ τb vs) σ H2) H2 := Kp.less sub
  refine ⟨⟨by rw [backP_len, ll]; exact R.len, fun j d h => ?_, fun j d h => ?_, fun j d h => ?_, fun j d h => ?_, fun j d h => ?_, fun i j a h1 h2 => ?_, fun a h => ⟨(R2.pal a h).1, fun z => (R2.pal a h).2 (sub a z)⟩⟩, k.trans kl⟩
  · by_cases hj : j ∈ vs
    · rw [backP_in ll hj] at h
      obtain ⟨v, e, r⟩ := R.im j d h
      exact ⟨v, e, r.kp (k.trans kl).av⟩
    · rw [backP_get hj] at h
      obtain ⟨v, e, r⟩ := R2.im j d h
      exact ⟨v, by rw [← hσ j hj]; exact e, r.kp kl.av⟩
  · by_cases hj : j ∈ vs
    · obtain ⟨s, q⟩ : ∃ s, τ[j]? = some s ∧ s.isOwn = true := ⟨.ow d, by rw [← backP_in ll hj]; exact h, rfl⟩
      have := List.all_eq_true.mp hf j hj
      rw [q.1] at this
      simp [q.2] at this
    · rw [backP_get hj] at h
      obtain ⟨a, e, c⟩ := R2.ow j d h
      exact ⟨a, by rw [← hσ j hj]; exact e, c.mono kl.av rfl⟩
  · by_cases hj : j ∈ vs
    · obtain ⟨s, q⟩ : ∃ s, τ[j]? = some s ∧ s.isOwn = true := ⟨.mu d, by rw [← backP_in ll hj]; exact h, rfl⟩
      have := List.all_eq_true.mp hf j hj
      rw [q.1] at this
      simp [q.2] at this
    · rw [backP_get hj] at h
      obtain ⟨e, c⟩ := R2.mu j d h
      exact ⟨by rw [← hσ j hj]; exact e, c.mono kl.av rfl⟩
  · by_cases hj : j ∈ vs
    · obtain ⟨s, q⟩ : ∃ s, τ[j]? = some s ∧ s.isOwn = true := ⟨.bx d, by rw [← backP_in ll hj]; exact h, rfl⟩
      have := List.all_eq_true.mp hf j hj
      rw [q.1] at this
      simp [q.2] at this
    · rw [backP_get hj] at h
      obtain ⟨a, e, c⟩ := R2.bx j d h
      exact ⟨a, by rw [← hσ j hj]; exact e, c.mono kl.av fun _ _ _ _ _ q => q⟩
  · by_cases hj : j ∈ vs
    · obtain ⟨s, q⟩ : ∃ s, τ[j]? = some s ∧ s.isOwn = true := ⟨.mb d, by rw [← backP_in ll hj]; exact h, rfl⟩
      have := List.all_eq_true.mp hf j hj
      rw [q.1] at this
      simp [q.2] at this
    · rw [backP_get hj] at h
      obtain ⟨e, c⟩ := R2.mb j d h
      exact ⟨by rw [← hσ j hj]; exact e, c.mono kl.av fun _ _ _ _ _ q => q⟩
  · by_cases hi : i ∈ vs
    · exact absurd h1 (own_in hi)
    · by_cases hj : j ∈ vs
      · exact absurd h2 (own_in hj)
      · exact R2.inj i j a (own_out hi h1) (own_out hj h2)
theorem wipe_eq {vs : List Nat} (hl : σ2.length = σ.length) (h : ∀ j, j ∉ vs → σ2[j]? = σ[j]?) : L2.wipe σ2 vs = L2.wipe σ vs := by
  apply List.ext_getElem?
  intro j
  by_cases hj : j ∈ vs
  · have aux : ∀ (σ : L2.St) (vs : List Nat), j ∈ vs → (L2.wipe σ vs)[j]? = if j < σ.length then some none else none := by
      intro σ vs
      induction vs with
      | nil => intro h; cases h
      | cons v vs ih =>
        intro h
        show ((L2.wipe σ vs).set v none)[j]? = _
        by_cases e : j = v
        · subst e
          by_cases hh : j < σ.length
          · rw [List.getElem?_set_self (by rw [wipe_length]; exact hh), if_pos hh]
          · rw [List.getElem?_eq_none_iff.mpr (by rw [List.length_set, wipe_length]; omega), if_neg hh]
        · rw [List.getElem?_set_ne (Ne.symm e)]
          exact ih ((List.mem_cons.mp h).resolve_left e)
    rw [aux σ2 vs hj, aux σ vs hj, hl]
  · have out : ∀ (σ : L2.St) (vs : List Nat), j ∉ vs → (L2.wipe σ vs)[j]? = σ[j]? := by
      intro σ vs
      induction vs with
      | nil => intro _; rfl
      | cons v vs ih =>
        intro h
        show ((L2.wipe σ vs).set v none)[j]? = _
        rw [List.getElem?_set_ne (fun z => h (by rw [z]; exact List.mem_cons_self)), ih fun z => h (List.mem_cons_of_mem _ z)]
    rw [out σ2 vs hj, out σ vs hj, h j hj]
/-! ### [elt for tg in iter if t] -/
def lcL (vs : List Nat) (h : D → PS0 → Option PS0) (t : M Bool) (el : M D) : List D → List D → PS0 → Res D
  | [], acc, τ => .ok (.lst acc) τ
  | d :: ds, acc, τ => match h d (wipeP τ vs) with
    | none => .stuck
    | some τb => (match t τb with
      | .ok true τc => (match el τc with
        | .ok y τd => if acc.length < 16777216 then lcL vs h t el ds (acc ++ [y]) (backP τ τd vs) else .stuck
        | _ => .stuck)
      | .ok false τc => lcL vs h t el ds acc (backP τ τc vs)
      | _ => .stuck)
def lcE (vs : List Nat) (fs : M (List D)) (h : D → PS0 → Option PS0) (t : M Bool) (el : M D) : M D := fun τ => match fs τ with
  | .ok ds τ1 => if freeP τ1 vs = true then lcL vs h t el ds [] τ1 else .stuck
  | .exc n τ' => .exc n τ'
  | .stuck => .stuck
theorem freeP_back {vs : List Nat} {τb : PS0} (hl : τb.length = τ.length) (hf : freeP τ vs = true) : freeP (backP τ τb vs) vs = true := by
  unfold freeP at hf ⊢
  rw [List.all_eq_true] at hf ⊢
  intro v hv
  rw [backP_in hl hv]
  exact hf v hv
abbrev W0 : WX := fun _ _ _ _ => False
/-- a clause's tests -/
abbrev JTs (X : Cx) (W : WX) (m : Bool) (ifs : List Expr) (t : M Bool) : Prop := PTs X ifs (tT X.g W m t)
theorem PTs.weak {ifs : List Expr} {t t' : TT} (h : PTs X ifs t) (w : ∀ σ H Q, t' σ H Q → t σ H Q) : PTs X ifs t' := ⟨fun pins s σ H Q I q => h.run pins s σ H Q I (w σ H Q q)⟩
theorem jts_nil : JTs X W false [] (ret true) := PTs.weak pts_nil fun σ H Q ⟨γ, τ, R, h⟩ => h H (fun _ => Same.refl H) R Kp.refl
theorem jts_one (h : JT X W m c t) : JTs X W m [c] t := pts_one h
theorem tE_lc {vs ts : List Nat} {h : D → PS0 → Option PS0} {el : M D} {mt me : Bool} (hts : ∀ j, j ∈ ts → j ∈ vs) (σ : L2.St) (H : Hp) (Q : VK) (q : tE g W .fr true (lcE vs fs h t el) σ H Q) : tLc (tI g W m fs) (tG g h ts) (tT g W0 mt t) (tE g W0 .im me el) vs σ H Q := by
  obtain ⟨γ, τ, R, q⟩ := q
  unfold lcE at q
  refine ⟨γ, τ, R, ?_⟩
  cases ef : fs τ with
  | stuck => rw [ef] at q; exact q.elim
  | exc n τ' => rw [ef] at q; exact q
  | ok ds τ1 =>
    rw [ef] at q
    intro J H1 I s1 R1 kp1 i1 la gd
    intro L hL
    cases hfr : freeP τ1 vs with
    | false => simp only [hfr, Bool.false_eq_true, if_false] at q; exact q.elim
    | true =>
    simp only [hfr, if_true] at q
    have sL : Same H1 (upd H1 L (.lst [])) := fun b o e => by rw [upd_ne (ne_of_none e hL)]; exact e
    have RL := R1.newS hL sL ⟨_, upd_same, fun _ z => nomatch z⟩
    have nPL : ¬ γ.P L := fun z => by
      obtain ⟨u, e⟩ := (R1.pal L z).1.ex
      rw [hL] at e; cases e
    refine ⟨fun i mm H' => mm = ds.length - i ∧ i ≤ ds.length ∧ ∃ τi vsD acc, Rel g (γ.with L) τi σ H' ∧ Kp (Own τ σ H) H (fun a => Own τi σ H' a ∨ a = L) H' ∧ H' L = some (.lst vsD) ∧ RepA g H' (Av (γ.with L) τi σ H') vsD acc ∧ I H' (Av (γ.with L) τi σ H') ∧ freeP τi vs = true ∧
        Fit (lcL vs h t el (ds.drop i) acc τi) (fun d τ' => ∀ v H', (true = false → Same H H') → PostE .fr g γ τ σ H τ' σ H' v d → Q v H') (XW g W γ τ σ H),
      ⟨ds.length, by simp, Nat.zero_le _, τ1, [], [], RL, kp1.trans fun b o e n => ⟨sL b o e, fun z => z.elim (fun q => n ((R1.own_same sL).mp q)) (ne_of_none e hL)⟩, upd_same, .nil, ?_, hfr, q⟩, ?_⟩
    · refine la _ _ _ _ i1 fun b o e n => ⟨sL b o e, fun z => z.elim (fun y => y.elim (fun x => n (.inl x)) (ne_of_none e hL)) fun y => n (.inr ((R1.own_same sL).mp y))⟩
    rintro i mm H' ⟨rfl, hi', τi, vsD, acc, Ri, ki, hLi, ra, ii, hfi, qi⟩
    have G := gd i H' (Av (γ.with L) τi σ H') ii Ri.avTh'
    by_cases hl : i < ds.length
    · have ed : ds.drop i = ds[i] :: ds.drop (i + 1) := List.drop_eq_getElem_cons hl
      rw [ed] at qi
      have hd : ds[i]? = some ds[i] := List.getElem?_eq_getElem hl
      obtain ⟨go, yl⟩ := G.1 _ hd
      refine .inr ⟨go, fun H2 => ∃ mm', mm' < ds.length - i ∧ (mm' = ds.length - (i + 1) ∧ i + 1 ≤ ds.length ∧ ∃ τi vsD acc, Rel g (γ.with L) τi σ H2 ∧ Kp (Own τ σ H) H (fun a => Own τi σ H2 a ∨ a = L) H2 ∧ H2 L = some (.lst vsD) ∧ RepA g H2 (Av (γ.with L) τi σ H2) vsD acc ∧ I H2 (Av (γ.with L) τi σ H2) ∧ freeP τi vs = true ∧
          Fit (lcL vs h t el (ds.drop (i + 1)) acc τi) (fun d τ' => ∀ v H', (true = false → Same H H') → PostE .fr g γ τ σ H τ' σ H' v d → Q v H') (XW g W γ τ σ H)), fun _ z => z, fun x H2 y => ?_⟩
      obtain ⟨sm, rx⟩ := yl x H2 y
      have Ri2 := Ri.same sm
      have ks : Kp (Own τi σ H') H' (Own τi σ H2) H2 := Ri.kpS sm
      have rx := rx.kp (Av := Av (γ.with L) τi σ H') (Av' := Av (γ.with L) τi σ H2) (Kp.less fun a q => (Ri.av_same sm).mp q)
      have ii2 : I H2 (Av (γ.with L) τi σ H2) := la _ _ _ _ ii ks.av
      have hL2 : H2 L = some (.lst vsD) := sm _ _ hLi
      have ra2 : RepA g H2 (Av (γ.with L) τi σ H2) vsD acc := ra.kp ks.av
      have ki2 : Kp (Own τ σ H) H (fun a => Own τi σ H2 a ∨ a = L) H2 := ki.trans (Same.kp sm fun _ z => z.imp (Ri.own_same sm).mp id)
      have nOL : ∀ {τx : PS0} {σx : L2.St} {Hx : Hp}, Rel g (γ.with L) τx σx Hx → ¬ Own τx σx Hx L := fun Rx => (Rx.pal L (.inr rfl)).2
      unfold lcL at qi
      obtain ⟨Rw, kw⟩ := Ri2.wipe vs
      cases eh : h ds[i] (wipeP τi vs) with
      | none => rw [eh] at qi; exact qi.elim
      | some τb =>
        rw [eh] at qi
        refine ⟨γ.with L, wipeP τi vs, ds[i], τb, Rw, rx.kp kw.av, eh, fun σ3 R3 k3 o3 l3 => ?_⟩
        have oσ : ∀ j, j ∉ vs → σ3[j]? = σ[j]? := fun j hj => (o3 j fun z => hj (hts j z)).trans (wipe_out hj)
        have lσ : σ3.length = σ.length := l3.trans (wipe_length σ vs)
        refine ⟨?_, ?_⟩
        · have e1 := wipe_eq (σ := L2.wipe σ vs) (σ2 := σ3) (vs := vs) (by rw [l3]) fun j hj => o3 j fun z => hj (hts j z)
          have e2 := wipe_eq (σ := σ) (σ2 := L2.wipe σ vs) (vs := vs) (wipe_length σ vs) fun j hj => wipe_out hj
          exact e1.trans e2
        refine ⟨γ.with L, τb, R3, ?_⟩
        have k03 : Kp (Own τi σ H2) H2 (Own τb σ3 H2) H2 := kw.trans k3
        -- what stands behind the turn
        have turn : ∀ {τd : PS0} {H4 : Hp}, Rel g (γ.with L) τd σ3 H4 → Kp (Own τb σ3 H2) H2 (Own τd σ3 H4) H4 →
            Rel g (γ.with L) (backP τi τd vs) σ H4 ∧ Kp (Own τi σ H2) H2 (Own (backP τi τd vs) σ H4) H4 ∧ freeP (backP τi τd vs) vs = true := fun {τd H4} R4 k4 => by
          obtain ⟨Rb, kb⟩ := Ri2.back R4 hfi oσ lσ (k03.trans k4)
          exact ⟨Rb, kb, freeP_back (by rw [← R4.len, lσ, Ri2.len]) hfi⟩
        have kpL : ∀ {τd : PS0} {H4 : Hp}, Kp (Own τi σ H2) H2 (Own τd σ H4) H4 → Kp (Own τ σ H) H (fun a => Own τd σ H4 a ∨ a = L) H4 := fun {τd H4} k4 => ki2.trans fun b o e n => by
          obtain ⟨e', n'⟩ := k4 b o e fun z => n (.inl z)
          exact ⟨e', fun z => z.elim n' fun y => n (.inr y)⟩
        cases et : t τb with
        | stuck => simp only [et] at qi; exact qi.elim
        | exc n τ' => simp only [et] at qi; exact qi.elim
        | ok bb τc =>
          simp only [et] at qi
          intro H3 _ R3' k3'
          cases bb with
          | false =>
            simp only [Bool.false_eq_true, if_false] at qi ⊢
            obtain ⟨Rb, kb, fb⟩ := turn R3' k3'
            exact ⟨ds.length - (i + 1), by omega, rfl, hl, backP τi τc vs, vsD, acc, Rb, kpL kb, (kb L _ hL2 (nOL Ri2)).1, ra2.kp kb.av, la _ _ _ _ ii2 kb.av, fb, qi⟩
          | true =>
            simp only [if_true] at qi ⊢
            refine ⟨γ.with L, τc, R3', ?_⟩
            cases ee : el τc with
            | stuck => simp only [ee] at qi; exact qi.elim
            | exc n τ' => simp only [ee] at qi; exact qi.elim
            | ok yv τd =>
              simp only [ee] at qi
              intro v H4 _ P4
              obtain ⟨R4, k4, r4⟩ := P4
              obtain ⟨Rb, kb, fb⟩ := turn R4 (k3'.trans k4)
              by_cases hz : acc.length < 16777216
              · simp only [hz, if_true] at qi
                have hL4 : H4 L = some (.lst vsD) := (kb L _ hL2 (nOL Ri2)).1
                refine ⟨vsD, hL4, by rw [ra2.length]; exact hz, ds.length - (i + 1), by omega, rfl, hl, backP τi τd vs, vsD ++ [v], acc ++ [yv], Rb.updP (.inr rfl), ?_, upd_same, ?_, ?_, fb, qi⟩
                · refine (kpL kb).trans fun b o e n => ⟨?_, fun z => n (z.imp (Rb.own_updP (.inr rfl)).mp id)⟩
                  rw [upd_ne fun z => n (.inr z)]; exact e
                · have rv : Rep g H4 (Av (γ.with L) (backP τi τd vs) σ H4) v yv := r4.kp (Kp.less fun b z => by
                    rcases z with z | ⟨j, z⟩
                    · exact .inl z
                    · refine .inr ⟨j, ?_⟩
                      by_cases hj : j ∈ vs
                      · exfalso
                        obtain ⟨s, _, hs, _, hft⟩ := z
                        have ho := Slot.foot_own hft
                        rw [backP_in (by rw [← R4.len, lσ, Ri2.len]) hj] at hs
                        have := List.all_eq_true.mp hfi j hj
                        rw [hs] at this
                        simp [ho] at this
                      · obtain ⟨s, w, hs, hw, hft⟩ := z
                        exact ⟨s, w, by rw [← backP_get hj]; exact hs, by rw [oσ j hj]; exact hw, hft⟩)
                  have hA : Av (γ.with L) (backP τi τd vs) σ H4 L := .inl (.inr rfl)
                  exact RepA.kp (Kp.less fun b z => z.imp id (Rb.own_updP (.inr rfl)).mp) (upd_put hA ((ra2.kp kb.av).append (.cons rv .nil)))
                · refine la _ _ _ _ (la _ _ _ _ ii2 kb.av) fun b o e n => ⟨?_, fun z => n (z.imp id (Rb.own_updP (.inr rfl)).mp)⟩
                  rw [upd_ne fun z => n (.inl (.inr z))]; exact e
              · simp only [hz, if_false] at qi
                exact qi.elim
    · have e : i = ds.length := by omega
      subst e
      rw [List.drop_length] at qi
      refine .inl ⟨G.2 (Nat.le_refl _), qi (.ref L) H' (fun z => nomatch z) ⟨L, rfl, Ri, nPL, ki, .lst hLi ra⟩⟩
theorem je_lc {ifs : List Expr} {scope : Scope} {own : List (Str × Nat)} {ts : List Nat} {h : D → PS0 → Option PS0} {el : M D} {mt me : Bool} (hc : X.calm = true) (hN : X.N.Nodup) (hi : JI X W m tg iter fs) (ok : BlkOk X.N X.env.scope scope own)
    (hg : ∀ (s : Shared) (H : Hp) (C : Addr) (cl : List (Str × Addr)) (fp : List Addr), JG (X.blk s H scope (compEnvC scope cl C X.env) fp) tg h ts) (ht : ∀ (s : Shared) (H : Hp) (C : Addr) (cl : List (Str × Addr)) (fp : List Addr), JTs (X.blk s H scope (compEnvC scope cl C X.env) fp) W0 mt ifs t)
    (he : ∀ (s : Shared) (H : Hp) (C : Addr) (cl : List (Str × Addr)) (fp : List Addr), JE (X.blk s H scope (compEnvC scope cl C X.env) fp) W0 .im me elt el) (hts : ∀ j, j ∈ ts → j ∈ own.map (·.2) := by decide) (hs : ∀ x, foldedSetIterable iter X.env x = pure x := by intro _; rfl) :
    JE X W .fr true (.ListComp elt [⟨tg, iter, ifs, 0⟩] scope pos) (lcE (own.map (·.2)) fs h t el) := (pe_lc hc hN hi ok hg ht he hs).weak (tE_lc hts)
/-- x = [..] on one line -/
theorem js_setLc (i : Nat) {x : Str} {ifs : List Expr} {scope : Scope} {own : List (Str × Nat)} {ts : List Nat} {h : D → PS0 → Option PS0} {el : M D} {mt me : Bool} {py spos : Pos} (hc : X.calm = true) (hN : X.N.Nodup) (hy : X.N[i]? = some x) (hyl : X.env.scope.names.lookup x = some .local)
    (hsw : swapsWith (.ListComp elt [⟨tg, iter, ifs, 0⟩] scope pos) (some (.Name x py)) spos.line X.env = pure true) (hi : JI X W m tg iter fs) (ok : BlkOk X.N X.env.scope scope own)
    (hg : ∀ (s : Shared) (H : Hp) (C : Addr) (cl : List (Str × Addr)) (fp : List Addr), JG (X.blk s H scope (compEnvC scope cl C X.env) fp) tg h ts) (ht : ∀ (s : Shared) (H : Hp) (C : Addr) (cl : List (Str × Addr)) (fp : List Addr), JTs (X.blk s H scope (compEnvC scope cl C X.env) fp) W0 mt ifs t)
    (he : ∀ (s : Shared) (H : Hp) (C : Addr) (cl : List (Str × Addr)) (fp : List Addr), JE (X.blk s H scope (compEnvC scope cl C X.env) fp) W0 .im me elt el) (hts : ∀ j, j ∈ ts → j ∈ own.map (·.2) := by decide) (hs : ∀ x, foldedSetIterable iter X.env x = pure x := by intro _; rfl) :
    JS X W rk (.Assign [.Name x py] (.ListComp elt [⟨tg, iter, ifs, 0⟩] scope pos) spos) (setS i (lcE (own.map (·.2)) fs h t el)) := (L2.ps_setLc hc hN hy hyl hsw hi ok hg ht he hs).weak fun Dn σ H q =>
  asg_im (m := true) (f := lcE (own.map (·.2)) fs h t el) (fun σ H Q q => tE_lc hts σ H Q (by
    obtain ⟨γ, τ, R, q⟩ := q
    exact ⟨γ, τ, R, q.mono (fun d τ' z v H' s P => z v H' s P.toIm) fun _ _ z => z⟩)) σ H q
end
end PL

namespace PL
open PySem PySem.Spec PyProof.Rows L2

section
variable {X : Cx} {W : WX} {g : Gc} {γ : G} {τ τ' τ1 τ2 : PS0} {σ σ' σ1 σ2 : L2.St} {H H' H1 H2 : Hp} {rk : Rk} {pos : Pos}
/-! ### raise X('..') -/
def raiseS (n : Str) : SM := fun τ => .exc n τ
/-! ### a def by its body -/
def muP : PS0 → Option D
  | .mu o :: _ => some o
  | _ => none
theorem muP_at {o : D} (h : muP τ = some o) : τ[0]? = some (.mu o) := by
  unfold muP at h
  split at h
  · cases h; rfl
  · cases h
/-- an answer with what the first argument holds -/
def withM (d : D) (o : Option D) : DR := match o with
  | some o => .ret d o
  | none => .stuck
def excM (n : Str) (o : Option D) : DR := match o with
  | some o => .exc n o
  | none => .stuck
def runF (n : Nat) (rk : Kd) (body : SM) (ds : List D) : DR := match body (ds.map .im ++ List.replicate (n - ds.length) .no) with
  | .nx τ => if rk = .im then .ret .non .non else .stuck
  | .ret d τ => .ret d .non
  | .exc n τ => .exc n .non
  | .stuck => .stuck
def runU (n : Nat) (rk : Kd) (body : SM) (ds : List D) : DR := match ds with
  | c :: ds => match body (.mu c :: (ds.map .im ++ List.replicate (n - (ds.length + 1)) .no)) with
    | .nx τ => if rk = .im then withM .non (muP τ) else .stuck
    | .ret d τ => withM d (muP τ)
    | .exc n τ => excM n (muP τ)
    | .stuck => .stuck
  | [] => .stuck
theorem start_im {vs : List V} {ds : List D} (n : Nat) (r : RepA g H γ.P vs ds) (hP : ∀ a, γ.P a → Th H a) : Rel g γ (ds.map .im ++ List.replicate n .no) (vs.map some ++ List.replicate n none) H := by
  have sl : ∀ {i : Nat} {s : Slot}, (ds.map Slot.im ++ List.replicate n .no)[i]? = some s → s.isOwn = false := fun {i s} h => by
    have hm := List.mem_of_getElem? h
    rcases List.mem_append.mp hm with q | q
    · obtain ⟨d, _, e⟩ := List.mem_map.mp q
      subst e; rfl
    · rw [List.eq_of_mem_replicate q]; rfl
  have nO : ∀ a, ¬ Own (ds.map Slot.im ++ List.replicate n .no) (vs.map some ++ List.replicate n none) H a := fun a ⟨i, s, _, hs, _, hf⟩ => foot_no (sl hs) hf
  have kA : Kp γ.P H (Av γ (ds.map Slot.im ++ List.replicate n .no) (vs.map some ++ List.replicate n none) H) H := Kp.less fun a q => q.elim (fun z => z) fun z => absurd z (nO a)
  refine ⟨by simp [r.length], fun i d h => ?_, fun i d h => ?_, fun i d h => ?_, fun i d h => (nomatch sl h), fun i d h => (nomatch sl h), fun i j a h1 _ => absurd ⟨i, h1⟩ (nO a), fun a h => ⟨hP a h, nO a⟩⟩
  · by_cases hi : i < ds.length
    · rw [List.getElem?_append_left (by simpa using hi), List.getElem?_map] at h
      cases e : ds[i]? with
      | none => rw [e] at h; cases h
      | some d' =>
        rw [e] at h
        cases h
        obtain ⟨v, hv, rv⟩ := r.get e
        refine ⟨v, ?_, rv.kp kA⟩
        rw [List.getElem?_append_left (by rw [List.length_map, r.length]; exact hi), List.getElem?_map, hv]
        rfl
    · rw [List.getElem?_append_right (by rw [List.length_map]; omega)] at h
      have := List.mem_of_getElem? h
      exact nomatch List.eq_of_mem_replicate this
  · have := sl h
    cases this
  · have := sl h
    cases this
theorem cons_get {α : Type} {x : α} {xs : List α} {i : Nat} {s : α} (h : (x :: xs)[i]? = some s) : (i = 0 ∧ s = x) ∨ ∃ j, i = j + 1 ∧ xs[j]? = some s := by
  cases i with
  | zero => exact .inl ⟨rfl, by simpa using h.symm⟩
  | succ j => exact .inr ⟨j, rfl, by simpa using h⟩
theorem start_mu {vs : List V} {ds : List D} {A : Addr → Prop} {a : Addr} {c : D} (n : Nat) (r : RepA g H A vs ds) (hA : ∀ a, A a → Th H a) (ha : A a) (ct : Cont g H A a c) :
    Rel g ⟨fun b => A b ∧ b ≠ a, a, a⟩ (.mu c :: (ds.map .im ++ List.replicate n .no)) (some (.ref a) :: (vs.map some ++ List.replicate n none)) H ∧
      (∀ b, Own (.mu c :: (ds.map .im ++ List.replicate n .no)) (some (.ref a) :: (vs.map some ++ List.replicate n none)) H b ↔ b = a) := by
  have sl : ∀ {i : Nat} {s : Slot}, (ds.map Slot.im ++ List.replicate n .no)[i]? = some s → s.isOwn = false := fun {i s} h => by
    have hm := List.mem_of_getElem? h
    rcases List.mem_append.mp hm with q | q
    · obtain ⟨d, _, e⟩ := List.mem_map.mp q
      subst e; rfl
    · rw [List.eq_of_mem_replicate q]; rfl
  have oAt : ∀ {i b}, OwnAt (.mu c :: (ds.map Slot.im ++ List.replicate n .no)) (some (.ref a) :: (vs.map some ++ List.replicate n none)) H i b → i = 0 ∧ b = a := fun {i b} ⟨s, v, hs, e, hf⟩ => by
    rcases cons_get hs with ⟨rfl, rfl⟩ | ⟨j, rfl, hj⟩
    · refine ⟨rfl, ?_⟩
      cases e
      cases (show V.ref a = V.ref b from hf)
      rfl
    · exact (foot_no (sl hj) hf).elim
  have hO : ∀ b, Own (.mu c :: (ds.map Slot.im ++ List.replicate n .no)) (some (.ref a) :: (vs.map some ++ List.replicate n none)) H b ↔ b = a := fun b =>
    ⟨fun ⟨i, h⟩ => (oAt h).2, fun e => ⟨0, .of (s := .mu c) rfl rfl (by rw [e]; rfl)⟩⟩
  have kA : Kp A H (Av ⟨fun b => A b ∧ b ≠ a, a, a⟩ (.mu c :: (ds.map Slot.im ++ List.replicate n .no)) (some (.ref a) :: (vs.map some ++ List.replicate n none)) H) H := Kp.less fun b q => by
    rcases q with q | q
    · exact q.1
    · rw [(hO b).mp q]; exact ha
  refine ⟨⟨by simp [r.length], fun i d h => ?_, fun i d h => ?_, fun i d h => ?_, fun i d h => (cons_get h).elim (fun z => nomatch z.2) (fun ⟨j, _, hj⟩ => nomatch sl hj), fun i d h => (cons_get h).elim (fun z => nomatch z.2) (fun ⟨j, _, hj⟩ => nomatch sl hj), fun i j b h1 h2 => (oAt h1).1.trans (oAt h2).1.symm, fun b h => ⟨hA b h.1, fun z => h.2 ((hO b).mp z)⟩⟩, hO⟩
  · rcases cons_get h with ⟨_, e⟩ | ⟨j, rfl, hj⟩
    · cases e
    by_cases hi : j < ds.length
    · rw [List.getElem?_append_left (by simpa using hi), List.getElem?_map] at hj
      cases e : ds[j]? with
      | none => rw [e] at hj; cases hj
      | some d' =>
        rw [e] at hj
        cases hj
        obtain ⟨v, hv, rv⟩ := r.get e
        refine ⟨v, ?_, rv.kp kA⟩
        rw [List.getElem?_cons_succ, List.getElem?_append_left (by rw [List.length_map, r.length]; exact hi), List.getElem?_map, hv]
        rfl
    · rw [List.getElem?_append_right (by rw [List.length_map]; omega)] at hj
      have := List.mem_of_getElem? hj
      exact nomatch List.eq_of_mem_replicate this
  · rcases cons_get h with ⟨_, e⟩ | ⟨j, rfl, hj⟩
    · cases e
    · have := sl hj
      cases this
  · rcases cons_get h with ⟨rfl, e⟩ | ⟨j, rfl, hj⟩
    · cases e
      exact ⟨rfl, ct.mono kA rfl⟩
    · have := sl hj
      cases this
variable {P : Program} {w : World} {K : PySem.W.Frag} {mg : Str → Option Value} {base : Heap}
theorem fn_F {x qual : Str} {st : Stmt} {f : Addr} {fd : FuncData} {N ps : List Str} {k : Nat} {rk : Kd} {body : SM} (F : Fun K x qual st f fd) (S : FnScope N ps (defScope st)) (hrk : rk ≠ .ln)
    (hb : ∀ (cdv : Value) (A : Around) (outer : List Env) (s : Shared) (H : Hp) (E : XK), Room k (A.deeper (envOfC qual (defScope st) s.heap.objs.size f cdv)) → JB (cxOf (L2.CX P w) P w K mg base N qual (defScope st) f cdv A outer s H E) (fun c d _ H => E c d H) rk.r (defBody st) body) :
    FnOk P w K mg base (L2.CX P w) (k + 1) f fd ps (spF ⟨K, mg⟩ ps.length rk (runF N.length rk body)) := by
  refine F.okX S (fun vs H Q E h => h.1) (fun cdv A outer s H vs Q E hr h => ⟨_, hb cdv A outer s H E hr, ?_⟩)
  obtain ⟨hl, A, ds, hA, rs, h⟩ := h
  have R := start_im (γ := ⟨A, 0, 0⟩) (N.length - vs.length) rs hA
  refine ⟨⟨A, 0, 0⟩, _, R, ?_⟩
  have nO : ∀ a, ¬ Own (ds.map Slot.im ++ List.replicate (N.length - vs.length) .no) (start N vs) H a := fun a ⟨i, s, _, hs, _, hf⟩ => by
    have ho := Slot.foot_own hf
    have hm := List.mem_of_getElem? hs
    rcases List.mem_append.mp hm with q | q
    · obtain ⟨d, _, e⟩ := List.mem_map.mp q
      subst e; cases ho
    · rw [List.eq_of_mem_replicate q] at ho; cases ho
  have e0 : N.length - vs.length = N.length - ds.length := by rw [rs.length]
  unfold runF at h
  rw [← e0] at h
  have same : ∀ {τ' : PS0} {σ' : L2.St} {H' : Hp}, Kp (Own (ds.map Slot.im ++ List.replicate (N.length - vs.length) .no) (start N vs) H) H (Own τ' σ' H') H' → Same H H' := fun k a o e => (k a o e (nO a)).1
  cases eb : body (ds.map .im ++ List.replicate (N.length - vs.length) .no) with
  | stuck => rw [eb] at h; exact h.elim
  | nx τ' =>
    rw [eb] at h
    intro σ' H' R' k'
    cases rk with
    | im => exact h .non H' ⟨same k', .non⟩
    | ln => exact h.elim
    | fr => exact h.elim
  | exc n τ' =>
    rw [eb] at h
    exact fun σ' H' R' k' c hc => h H' (same k') c hc
  | ret d τ' =>
    rw [eb] at h
    intro σ' v H' P'
    refine h v H' ?_
    cases rk with
    | ln => exact absurd rfl hrk
    | im => exact ⟨same P'.2.1, P'.2.2.kp (Kp.less fun a z => .inl z)⟩
    | fr =>
      obtain ⟨p, rfl, R', np, k', c⟩ := P'
      refine ⟨fun a o e => (k' a o e (nO a)).1, p, rfl, ?_, c.mono (Kp.less fun a z => z.elim (fun y => .inl (.inl y)) fun y => .inl (.inr y)) rfl⟩
      cases e : H p with
      | none => rfl
      | some o => exact absurd (.inr rfl) (k' p o e (nO p)).2
theorem fn_U {x qual : Str} {st : Stmt} {f : Addr} {fd : FuncData} {N ps : List Str} {k : Nat} {rk : Kd} {body : SM} (F : Fun K x qual st f fd) (S : FnScope N ps (defScope st)) (hrk : rk ≠ .ln) (hN : 0 < N.length)
    (hb : ∀ (cdv : Value) (A : Around) (outer : List Env) (s : Shared) (H : Hp) (E : XK), Room k (A.deeper (envOfC qual (defScope st) s.heap.objs.size f cdv)) → JB (cxOf (L2.CX P w) P w K mg base N qual (defScope st) f cdv A outer s H E) (fun c d _ H => E c d H) rk.r (defBody st) body) :
    FnOk P w K mg base (L2.CX P w) (k + 1) f fd ps (spU ⟨K, mg⟩ ps.length rk (runU N.length rk body)) := by
  refine F.okX S (fun vs H Q E h => h.1) (fun cdv A outer s H vs Q E hr h => ⟨_, hb cdv A outer s H E hr, ?_⟩)
  obtain ⟨hl, A, a, ws, c, ds, rfl, ha, hA, ct, rs, h⟩ := h
  obtain ⟨R, hO⟩ := start_mu (N.length - (ws.length + 1)) rs hA ha ct
  have e1 : start N (.ref a :: ws) = some (.ref a) :: (ws.map some ++ List.replicate (N.length - (ws.length + 1)) none) := rfl
  rw [e1]
  refine ⟨_, _, R, ?_⟩
  have e0 : N.length - (ws.length + 1) = N.length - (ds.length + 1) := by rw [rs.length]
  unfold runU at h
  simp only [] at h
  rw [← e0] at h
  have keep : ∀ {O' : Addr → Prop} {H' : Hp}, Kp (Own (.mu c :: (ds.map Slot.im ++ List.replicate (N.length - (ws.length + 1)) .no)) (some (.ref a) :: (ws.map some ++ List.replicate (N.length - (ws.length + 1)) none)) H) H O' H' → ∀ b u, b ≠ a → H b = some u → H' b = some u := fun k b u hb e => (k b u e fun z => hb ((hO b).mp z)).1
  have less : ∀ {τ' : PS0} {σ' : L2.St} {γ' : G} {H' : Hp} {o : D}, Rel ⟨K, mg⟩ γ' τ' σ' H' → τ'[0]? = some (.mu o) → γ'.M = a → (∀ b, A b → b ≠ a → γ'.P b) → ∀ b, A b → Av γ' τ' σ' H' b := fun {τ' σ' γ' H' o} R' e0 hM hP b hb => by
    by_cases q : b = a
    · subst q
      obtain ⟨e2, _⟩ := R'.mu 0 o e0
      rw [hM] at e2
      exact .inr ⟨0, .of e0 rfl e2⟩
    · exact .inl (hP b hb q)
  cases eb : body (.mu c :: (ds.map .im ++ List.replicate (N.length - (ws.length + 1)) .no)) with
  | stuck => rw [eb] at h; exact h.elim
  | nx τ' =>
    rw [eb] at h
    intro σ' H' R' k'
    cases rk with
    | ln => exact h.elim
    | fr => exact h.elim
    | im =>
      simp only [if_true] at h
      cases eo : muP τ' with
      | none => rw [eo] at h; exact h.elim
      | some o =>
        rw [eo] at h
        have e2 := muP_at eo
        obtain ⟨e3, ct3⟩ := R'.mu 0 _ e2
        exact h .non H' ⟨keep k', .non, ct3.mono (Kp.less fun b z => less R' e2 rfl (fun b hb hn => ⟨hb, hn⟩) b z) rfl⟩
  | exc n τ' =>
    rw [eb] at h
    intro σ' H' R' k' cc hc
    simp only [] at h
    cases eo : muP τ' with
    | none => rw [eo] at h; exact h.elim
    | some o =>
      rw [eo] at h
      have e2 := muP_at eo
      obtain ⟨e3, ct3⟩ := R'.mu 0 _ e2
      exact h H' (keep k') (ct3.mono (Kp.less fun b z => less R' e2 rfl (fun b hb hn => ⟨hb, hn⟩) b z) rfl) cc hc
  | ret d τ' =>
    rw [eb] at h
    intro σ' v H' P'
    simp only [] at h
    cases eo : muP τ' with
    | none => rw [eo] at h; exact h.elim
    | some o =>
      rw [eo] at h
      have e2 := muP_at eo
      cases rk with
      | ln => exact absurd rfl hrk
      | im =>
        obtain ⟨R', k', r'⟩ := P'
        obtain ⟨e3, ct3⟩ := R'.mu 0 _ e2
        have lz : Kp (Av _ τ' σ' H') H' A H' := Kp.less fun b z => less R' e2 rfl (fun b hb hn => ⟨hb, hn⟩) b z
        exact h v H' ⟨keep k', r'.kp lz, ct3.mono lz rfl⟩
      | fr =>
        obtain ⟨p, rfl, R', np, k', c'⟩ := P'
        obtain ⟨e3, ct3⟩ := R'.mu 0 _ e2
        have lz : ∀ b, (A b ∨ b = p) → Av (G.with _ p) τ' σ' H' b := fun b z => z.elim (fun y => less R' e2 rfl (fun b hb hn => .inl ⟨hb, hn⟩) b y) fun y => .inl (.inr y)
        refine h _ H' ⟨keep k', p, rfl, ?_, c'.mono (Kp.less lz) rfl, ct3.mono (Kp.less lz) rfl⟩
        cases e : H p with
        | none => rfl
        | some u =>
          by_cases hp : p = a
          · exfalso
            refine (R'.pal p (.inr rfl)).2 ⟨0, .of e2 rfl ?_⟩
            rw [hp]; exact e3
          · exact absurd (.inr rfl) (k' p u e fun z => hp ((hO p).mp z)).2
end
end PL

namespace PL
open PySem PySem.Spec PyProof.Rows L2

section
variable {X : Cx} {W : WX} {g : Gc} {τ τ' : PS0} {σ σ' : L2.St} {H H' : Hp} {A : Addr → Prop} {k k1 k2 k3 kr : Kd} {rk : Rk} {m m1 m2 m3 : Bool} {e a b c : Expr} {es : List Expr} {f fa fb fc : M D} {pos : Pos}
/-! ### text * int, list * int -/
def repD {α : Type} (n : Nat) (s : List α) : List α := (List.replicate n s).flatten
theorem foldl_app {α : Type} : ∀ (n : Nat) (s : List α) (acc : List α), (List.replicate n s.toArray).foldl (· ++ ·) acc.toArray = (acc ++ (List.replicate n s).flatten).toArray
  | 0, s, acc => by simp
  | n + 1, s, acc => by
    rw [List.replicate_succ, List.foldl_cons, List.replicate_succ, List.flatten_cons]
    have : acc.toArray ++ s.toArray = (acc ++ s).toArray := by simp
    rw [this, foldl_app n s (acc ++ s), List.append_assoc]
def rMulS : R2 := fun x y H Q => ∃ (s : List Nat) (n : Int), x = .str (S s) ∧ y = .int n ∧ -(2 ^ 31) < n ∧ n < 2 ^ 31 ∧ s.length * n.toNat ≤ 16777216 ∧ Q (.str (S (repD n.toNat s))) H
theorem op_mulS : OpR X (binaryOp .Mult) rMulS := by
  intro pins st σ H x y v u Q I rx ry h
  obtain ⟨s, n, rfl, rfl, h1, h2, h3, q⟩ := h
  obtain ⟨t, rfl⟩ := rx
  obtain ⟨t', rfl⟩ := ry
  have hl : (S s).length = s.length := S_len s
  refine PySem.P.mul_str ?_ (fun hn _ => ?_) (fun hn _ => ?_) ?_
  · have a1 : ¬ n < -(2 ^ 63 : Int) := by omega
    have a2 : ¬ n ≥ 2 ^ 63 := by omega
    rw [decide_eq_false a1, decide_eq_false a2]; rfl
  · rw [hl]
    have hn1 : 1 ≤ n := by omega
    have hb : (s.length : Int) * n ≤ 16777216 := by
      have : (s.length : Int) * n = ((s.length * n.toNat : Nat) : Int) := by
        rw [Int.natCast_mul, Int.toNat_of_nonneg (by omega)]
      rw [this]; omega
    have hs : (s.length : Int) ≤ 16777216 := Int.le_trans (by
      have := Int.mul_le_mul_of_nonneg_left hn1 (Int.natCast_nonneg s.length)
      omega) hb
    have : (16777216 : Int) ≤ (2 ^ 63 - 1) / n := by
      rw [Int.le_ediv_iff_mul_le (by omega)]
      omega
    omega
  · rw [hl]
    unfold Builtin.Str.tooLong
    simp only [decide_eq_false_iff_not]
    rw [sizeLine_eq]
    omega
  · by_cases hn : n < 1
    · rw [if_pos hn]
      have e : repD n.toNat s = [] := by
        have : n.toNat = 0 := by omega
        rw [this]; rfl
      rw [e] at q
      exact ⟨by decide, .str (S []), H, I.tok _, ⟨_, rfl⟩, q⟩
    · rw [if_neg hn]
      by_cases hc : (n == 1 || (S s).length == 0) = true
      · rw [if_pos hc]
        have e : repD n.toNat s = s := by
          rw [Bool.or_eq_true, beq_iff_eq, beq_iff_eq, hl] at hc
          rcases hc with hc | hc
          · subst hc
            show (List.replicate 1 s).flatten = s
            simp
          · have : s = [] := List.length_eq_zero_iff.mp hc
            subst this
            unfold repD
            simp
        rw [e] at q
        exact ⟨.str (S s), H, I, ⟨t, rfl⟩, q⟩
      · rw [if_neg hc]
        have e : (List.replicate n.toNat (S s).cps).foldl (· ++ ·) #[] = (S (repD n.toNat s)).cps := by
          have := foldl_app n.toNat s []
          exact this
        rw [e]
        refine ⟨?_, .str (S (repD n.toNat s)), H, I.tok _, ⟨_, rfl⟩, q⟩
        show (S (repD n.toNat s)).length ≤ sizeLine
        rw [S_len, sizeLine_eq]
        unfold repD
        rw [List.length_flatten, List.map_replicate, List.sum_replicate_nat]
        rw [Nat.mul_comm]
        exact h3
def oMulA : D → D → Option D
  | .int i, .int j => if i.natAbs.log2 + j.natAbs.log2 < 1000000 then some (.int (i * j)) else none
  | .str s, .int n => if -(2 ^ 31) < n ∧ n < 2 ^ 31 ∧ s.length * n.toNat ≤ 16777216 then some (.str (repD n.toNat s)) else none
  | .lst xs, .int n => if -(2 ^ 31) < n ∧ n < 2 ^ 31 ∧ xs.length * n.toNat ≤ 16777216 then some (.lst (repD n.toNat xs)) else none
  | _, _ => none
def rMulAll : R2 := r2or (rI CMulW fun i j => .int (i * j)) (r2or rMulS rRep)
theorem op_mulAll : OpR X (binaryOp .Mult) rMulAll := OpR.or' op_mulW (OpR.or' op_mulS op_rep)
theorem RepA.rep {vs : List V} {ds : List D} (r : RepA g H A vs ds) : ∀ n : Nat, RepA g H A (List.replicate n vs).flatten (repD n ds)
  | 0 => .nil
  | n + 1 => by
    unfold repD
    rw [List.replicate_succ, List.flatten_cons, List.replicate_succ, List.flatten_cons]
    exact r.append (r.rep n)
theorem o2_mulA : Op2 .im g rMulAll oMulA := fun H A x y d e z Q hA rx ry ho q => by
  unfold oMulA at ho
  split at ho
  · split at ho
    · rename_i hz
      cases ho
      rw [rx.int, ry.int]
      exact .inl ⟨_, _, rfl, rfl, hz, q _ _ (out_flat fun _ _ => .int _)⟩
    · cases ho
  · split at ho
    · rename_i hz
      cases ho
      rw [rx.str, ry.int]
      exact .inr (.inl ⟨_, _, rfl, rfl, hz.1, hz.2.1, hz.2.2, q _ _ (out_flat fun _ _ => .str _)⟩)
    · cases ho
  · split at ho
    · rename_i hz
      cases ho
      obtain ⟨a, vs, rfl, ha, ra⟩ := rx.lst
      rw [ry.int]
      exact .inr (.inr ⟨a, _, vs, rfl, rfl, ha, by omega, by omega, by rw [ra.length, sizeLine_eq]; exact hz.2.2, fun p hp => q _ _ (out_lst (by decide) hA (ra.rep _) hp)⟩)
    · cases ho
  · cases ho
/-! ### is True -/
/-! ### -x -/
def oNeg : D → Option D
  | .int i => some (.int (-i))
  | _ => none
/-! ### what the module holds -/
structure GC (g : Gc) (x : Str) (d : D) : Prop where
  ex : ∃ (u : Value) (v : V), g.mg x = some u ∧ RelV v u ∧ ∀ H A, Rep g H A v d
theorem je_glob {x : Str} {d : D} (h : GC X.g x d) (hg : Gl X x := by rfl) (hd : (x == ("__debug__" : Str)) = false := by decide) : JE X W .im false (.Name x pos) (ret d) := by
  obtain ⟨u, v, hm, r, rp⟩ := h.ex
  exact je_c (pe_glob hg hm r hd) rp
/-! ### short words -/
theorem u65 {A : Around} {k : Nat} (r : Room k A) : A.units + 65 < cLine := by have := r.un; omega
/-- a def that is proved: where it stands, how it is called, what it promises -/
structure Kn (P : Program) (w : World) (K : PySem.W.Frag) (mg : Str → Option Value) (base : Heap) (x : Str) (ps : List Str) (f : Addr) (fd : FuncData) (k : Nat) (sp : Sp) : Prop where
  g : mg x = some (.ref f)
  kp : PySem.W.keepIn K (.ref f) = true
  b : Binds K fd ps []
  ok : FnOk P w K mg base (L2.CX P w) k f fd ps sp
/-- .. as the head gives it -/
structure FnT (K : PySem.W.Frag) (mg : Str → Option Value) (x : Str) (st : Stmt) (ps : List Str) (f : Addr) (fd : FuncData) : Prop where
  F : Fun K x x st f fd
  b : Binds K fd ps []
  g : mg x = some (.ref f)
end
end PL

namespace PL
open PySem PySem.Spec PyProof.Rows L2

section
variable {X : Cx} {W : WX} {g : Gc} {τ τ' : PS0} {σ σ' : L2.St} {H H' : Hp} {A : Addr → Prop} {k k1 k2 k3 kr : Kd} {rk : Rk} {m m1 m2 m3 : Bool} {e a b c : Expr} {es : List Expr} {f fa fb fc : M D} {pos : Pos}
/-! ### list(text) -/
def oListA : D → Option D
  | .lst xs => some (.lst xs)
  | .fz xs => some (.lst xs)
  | .tup xs => some (.lst xs)
  | .str s => if s.length ≤ 16777216 then some (.lst (s.map fun c => .str [c])) else none
  | _ => none
/-! ### enumerate(text) -/
def oEnumA : D → Option (List D)
  | .lst xs => some (enumD 0 xs)
  | .fz xs => some (enumD 0 xs)
  | .str s => some (enumD 0 (s.map fun c => .str [c]))
  | _ => none
def enumA (f : M D) : M (List D) := andThen f fun d => lift (oEnumA d)
end
end PL

namespace PL
open PySem PySem.Spec PyProof.Rows L2

section
variable {P : Program} {w : World} {K : PySem.W.Frag} {mg : Str → Option Value} {base h : Heap}
/-! ### the end of a law -/
def spLaw (K : PySem.W.Frag) : Sp := fun vs H Q _ => ∃ (a : Addr) (ns : List Int), vs = [.ref a] ∧ SqL K H a (ns.map V.int) ∧ ns.length ≤ 63 ∧ Only H ∧ ∀ H', Q (.bl true) H'
theorem repA_ints {g : Gc} {H : Hp} {A : Addr → Prop} : ∀ ns : List Int, RepA g H A (ns.map V.int) (ns.map D.int)
  | [] => .nil
  | n :: ns => .cons (.int n) (repA_ints ns)
theorem law_imp {k : Nat} {f : Addr} {fd : FuncData} {m : List D → DR} (F : FnOk P w K mg base (L2.CX P w) k f fd ["script"] (spF ⟨K, mg⟩ 1 .im m)) (h : ∀ ns : List Int, ns.length ≤ 63 → m [.fz (ns.map .int)] = .ret (.bl true) .non) :
    FnOk P w K mg base (L2.CX P w) k f fd ["script"] (spLaw K) := F.imp fun vs H Q E q => by
  obtain ⟨a, ns, rfl, hS, hl, hO, q⟩ := q
  have hf : AtF ⟨K, mg⟩ H (fun _ => False) a (ns.map V.int) := by
    rcases hS with (z | z) | z
    · rcases hO a with y | ⟨o, xs, y⟩
      · rw [y] at z; cases z
      · rw [y] at z; cases z
    · obtain ⟨o, z⟩ := z
      exact .inl ⟨o, z, fun z => z⟩
    · exact .inr (.inr z)
  refine ⟨rfl, fun _ => False, [.fz (ns.map .int)], fun _ z => z.elim, .cons (.fz hf (repA_ints ns)) .nil, ?_⟩
  rw [h ns hl]
  intro v H' o
  have := o.2
  cases this
  exact q H'
/-! ### constants of the module -/
theorem gc_str {x : Str} {l : List Nat} {t : Tok} (m : mg x = some (.str (S l) t)) : GC ⟨K, mg⟩ x (.str l) := ⟨_, .str (S l), m, ⟨_, rfl⟩, fun _ _ => .str l⟩
theorem gc_int {x : Str} {i : Int} {t : Tok} (m : mg x = some (.int i t)) : GC ⟨K, mg⟩ x (.int i) := ⟨_, .int i, m, ⟨_, rfl⟩, fun _ _ => .int i⟩
/-! ### own errors -/
structure Xc (K : PySem.W.Frag) (mg : Str → Option Value) (x : Str) (C : Addr) : Prop where
  q : PySem.W.excIn K C [.type "ValueError", .type "Exception", .type "BaseException", .type "object"] "ValueError.__new__" = true
  g : mg x = some (.ref C)
  k : PySem.W.keepIn K (.ref C) = true
  h1 : PySem.W.subIn K (.ref C) (.type "BaseException") = some true
  h2 : PySem.W.typeIn K (.ref C) = some (.type "type")
end
end PL

/-! PL17: a caught error that outlives its suite: it is tracked from the suite's start on. -/
namespace PL
open PySem PySem.Spec PyProof.Rows L2

section
variable {X : Cx} {pins : List (Addr × Obj)} {σ : L2.St} {H : Hp} {s : Shared}
end

section
variable {X : Cx} {x n : Str} {c : Value} {i : Nat} {body suite : List Stmt} {st₀ : Stmt} {np pos pos' : Pos} {tb : WX → TS} {ts : TS} {Wout : WX}
end
end PL

/-! PL18: try .. except X as e as a pure statement; isinstance of errors of own classes. -/
namespace PL
open PySem PySem.Spec PyProof.Rows L2

/-- cl tells of an error whether it is caught here (none: not known) -/
def tryS (i : Nat) (cl : Str → Option Bool) (body suite : SM) : SM := fun τ => match body τ with
  | .exc n τ1 => (match cl n with
    | some true => (match suite (τ1.set i (.im (.exc n))) with
      | .nx τ2 => .nx (τ2.set i .no)
      | .ret d τ2 => .ret d τ2
      | _ => .stuck)
    | some false => .exc n τ1
    | none => .stuck)
  | r => r
section
variable {X : Cx} {W : WX} {x n : Str} {c : Value} {i : Nat} {body suite : List Stmt} {st₀ : Stmt} {np pos pos' : Pos} {rk : Rk} {fb fs : SM} {cl : Str → Option Bool}
end
/-! ### isinstance -/
section
variable {X : Cx} {pins : List (Addr × Obj)} {σ : L2.St} {H : Hp} {s : Shared}
end
def oIsE (f : Str → Option Bool) : D → Option D
  | .exc n => (f n).map .bl
  | .non => some (.bl false)
  | _ => none
section
variable {X : Cx} {W : WX} {k : Kd} {m : Bool} {a : Expr} {fa : M D} {p p2 pos : Pos} {f : Str → Option Bool}
end
end PL

/-! PL19: what the head tells of the own classes of errors. -/
namespace PL
open PySem PySem.Spec PyProof.Rows L2
section
variable {K : PySem.W.Frag} {mg : Str → Option Value}
/-- an error n that isinstance may be asked of -/
structure Kx (K : PySem.W.Frag) (mg : Str → Option Value) (cu : Value) (p : Str × Bool) : Prop where
  ex : ∃ C, mg p.1 = some (.ref C) ∧ ExcC K C ∧ PySem.W.kitOne K (.ref C) cu = some p.2
structure Kxs (K : PySem.W.Frag) (mg : Str → Option Value) (us : List Value) (p : Str × Bool) : Prop where
  ex : ∃ C, mg p.1 = some (.ref C) ∧ ExcC K C ∧ PySem.W.kitAny K (.ref C) us = some p.2
structure Kh (K : PySem.W.Frag) (mg : Str → Option Value) (c : Value) (p : Str × Bool) : Prop where
  ex : ∃ C, mg p.1 = some (.ref C) ∧ PySem.W.exmOne K (.ref C) c = some p.2
structure IsA (K : PySem.W.Frag) (mg : Str → Option Value) (y : Str) (l : List (Str × Bool)) (C : Addr) : Prop where
  g : mg y = some (.ref C)
  t : ∀ p, p ∈ l → Kx K mg (.ref C) p
  n0 : PySem.W.kitOne K (.type "NoneType") (.ref C) = some false
structure IsB (K : PySem.W.Frag) (mg : Str → Option Value) (T : String) (l : List (Str × Bool)) : Prop where
  t : ∀ p, p ∈ l → Kx K mg (.type T) p
structure Hd (K : PySem.W.Frag) (mg : Str → Option Value) (y : Str) (l : List (Str × Bool)) (C : Addr) : Prop where
  g : mg y = some (.ref C)
  t : ∀ p, p ∈ l → Kh K mg (.ref C) p
end
section
variable {X : Cx} {p : Pos}
end
end PL

/-! PL20: dicts with keys ints and texts: displays. -/
namespace PL
open PySem PySem.Spec PyProof.Rows L2
def putD (es : List (Key × D)) (k : Key) (d : D) : List (Key × D) :=
  if (es.any fun kv => decide (kv.1 = k)) = true then es.map (fun kv => if kv.1 = k then (kv.1, d) else kv) else es ++ [(k, d)]
def getD' (es : List (Key × D)) (k : Key) : Option D := (es.find? fun kv => decide (kv.1 = k)).map (·.2)
def keyD : D → Option Key
  | .int i => some (.inl i)
  | .str s => some (.inr (S s))
  | _ => none
def keysD : List (D × D) → Option (List (Key × D))
  | [] => some []
  | (k, d) :: r => (keyD k).bind fun k => (keysD r).map fun r => (k, d) :: r
def mergeD (es more : List (Key × D)) : List (Key × D) := more.foldl (fun acc kv => putD acc kv.1 kv.2) es
def oDisp (ps : List (D × D)) : Option D := if ps.length ≤ 15 then (keysD ps).map fun r => .dK (mergeD [] r) else none
section
variable {g : Gc} {H H' : Hp} {A B : Addr → Prop}
structure RepK (g : Gc) (H : Hp) (A : Addr → Prop) (kvs : List (Key × V)) (es : List (Key × D)) : Prop where
  k : kvs.map (·.1) = es.map (·.1)
  v : RepA g H A (kvs.map (·.2)) (es.map (·.2))
theorem RepK.nil : RepK g H A [] [] := ⟨rfl, .nil⟩
theorem RepK.cons {k : Key} {v : V} {d : D} {kvs : List (Key × V)} {es : List (Key × D)} (r : Rep g H A v d) (h : RepK g H A kvs es) : RepK g H A ((k, v) :: kvs) ((k, d) :: es) :=
  ⟨by rw [List.map_cons, List.map_cons, h.k], .cons r h.v⟩
theorem RepK.un : ∀ {kvs : List (Key × V)} {es : List (Key × D)}, RepK g H A kvs es → (kvs = [] ∧ es = []) ∨ ∃ k v d kvs' es', kvs = (k, v) :: kvs' ∧ es = (k, d) :: es' ∧ Rep g H A v d ∧ RepK g H A kvs' es'
  | [], [], _ => .inl ⟨rfl, rfl⟩
  | [], _ :: _, h => by have := h.k; simp at this
  | _ :: _, [], h => by have := h.k; simp at this
  | (k, v) :: kvs, (j, d) :: es, h => by
    have hk := h.k
    rw [List.map_cons, List.map_cons] at hk
    obtain ⟨e1, e2⟩ := List.cons.inj hk
    have e1 : k = j := e1
    subst e1
    have hv := h.v
    rw [List.map_cons, List.map_cons] at hv
    cases hv with
    | cons r rs => exact .inr ⟨k, v, d, kvs, es, rfl, rfl, r, e2, rs⟩
theorem RepK.append {k : Key} {v : V} {d : D} (r : Rep g H A v d) : ∀ {kvs : List (Key × V)} {es : List (Key × D)}, RepK g H A kvs es → RepK g H A (kvs ++ [(k, v)]) (es ++ [(k, d)])
  | [], _, h => by
    rcases h.un with ⟨_, rfl⟩ | ⟨_, _, _, _, _, e, _⟩
    · exact .cons r .nil
    · cases e
  | p :: kvs, _, h => by
    rcases h.un with ⟨e, _⟩ | ⟨_, _, _, _, _, e, rfl, r2, h2⟩
    · cases e
    · cases e
      exact .cons r2 (RepK.append r h2)
theorem RepK.map {k : Key} {v : V} {d : D} (r : Rep g H A v d) : ∀ {kvs : List (Key × V)} {es : List (Key × D)}, RepK g H A kvs es → RepK g H A (kvs.map fun kv => if kv.1 = k then (kv.1, v) else kv) (es.map fun kv => if kv.1 = k then (kv.1, d) else kv)
  | [], _, h => by
    rcases h.un with ⟨_, rfl⟩ | ⟨_, _, _, _, _, e, _⟩
    · exact .nil
    · cases e
  | p :: kvs, _, h => by
    rcases h.un with ⟨e, _⟩ | ⟨j, v2, d2, _, _, e, rfl, r2, h2⟩
    · cases e
    · cases e
      rw [List.map_cons, List.map_cons]
      by_cases hj : j = k
      · rw [if_pos hj, if_pos hj]
        exact .cons r (RepK.map r h2)
      · rw [if_neg hj, if_neg hj]
        exact .cons r2 (RepK.map r h2)
theorem RepK.any {k : Key} : ∀ {kvs : List (Key × V)} {es : List (Key × D)}, RepK g H A kvs es → (kvs.any fun kv => decide (kv.1 = k)) = (es.any fun kv => decide (kv.1 = k))
  | [], _, h => by
    rcases h.un with ⟨_, rfl⟩ | ⟨_, _, _, _, _, e, _⟩
    · rfl
    · cases e
  | p :: kvs, _, h => by
    rcases h.un with ⟨e, _⟩ | ⟨j, v2, d2, _, _, e, rfl, r2, h2⟩
    · cases e
    · cases e
      rw [List.any_cons, List.any_cons, RepK.any h2]
theorem RepK.put {k : Key} {v : V} {d : D} {kvs : List (Key × V)} {es : List (Key × D)} (h : RepK g H A kvs es) (r : Rep g H A v d) : RepK g H A (putK kvs k v) (putD es k d) := by
  unfold putK putD
  rw [h.any]
  split
  · exact h.map r
  · exact h.append r
theorem RepK.merge : ∀ {more : List (Key × V)} {es : List (Key × D)} {kvs : List (Key × V)} {ds : List (Key × D)}, RepK g H A more es → RepK g H A kvs ds → RepK g H A (mergeK kvs more) (mergeD ds es)
  | [], _, _, _, h, q => by
    rcases h.un with ⟨_, rfl⟩ | ⟨_, _, _, _, _, e, _⟩
    · exact q
    · cases e
  | p :: more, _, kvs, ds, h, q => by
    rcases h.un with ⟨e, _⟩ | ⟨j, v2, d2, _, _, e, rfl, r2, h2⟩
    · cases e
    · cases e
      exact RepK.merge (kvs := putK kvs j v2) (ds := putD ds j d2) h2 (q.put r2)
theorem RepK.kp {kvs : List (Key × V)} {es : List (Key × D)} (k : Kp A H B H') (h : RepK g H A kvs es) : RepK g H' B kvs es := ⟨h.k, h.v.kp k⟩
theorem keys_of : ∀ {vs : List (V × V)} {ps : List (D × D)} {r : List (Key × D)}, RepA g H A (vs.map (·.1)) (ps.map (·.1)) → RepA g H A (vs.map (·.2)) (ps.map (·.2)) → keysD ps = some r →
    ∃ kvs : List (Key × V), vs = kvs.map (fun kv => (kV kv.1, kv.2)) ∧ RepK g H A kvs r ∧ kvs.length = ps.length
  | [], [], r, _, _, h => by cases h; exact ⟨[], rfl, .nil, rfl⟩
  | [], _ :: _, _, r1, _, _ => by cases r1
  | _ :: _, [], _, r1, _, _ => by cases r1
  | (x, y) :: vs, (k, d) :: ps, r, r1, r2, h => by
    rw [List.map_cons, List.map_cons] at r1 r2
    cases r1 with
    | cons a1 b1 =>
      cases r2 with
      | cons a2 b2 =>
        unfold keysD at h
        cases ek : keyD k with
        | none => rw [ek] at h; cases h
        | some kk =>
          cases er : keysD ps with
          | none => rw [ek, er] at h; cases h
          | some rr =>
            rw [ek, er] at h
            cases h
            obtain ⟨kvs, e, rk, hl⟩ := keys_of b1 b2 er
            have ex : x = kV kk := by
              unfold keyD at ek
              split at ek
              · cases ek; cases a1; rfl
              · cases ek; cases a1; rfl
              · cases ek
            refine ⟨(kk, y) :: kvs, by rw [List.map_cons, e, ex], .cons a2 rk, by rw [List.length_cons, List.length_cons, hl]⟩
end
/-! ### the pairs of a display -/
def tP (g : Gc) (W : WX) (m : Bool) (f : M (List (D × D))) (σ : L2.St) (H : Hp) (Q : List (V × V) → Hp → Prop) : Prop := ∃ γ τ, Rel g γ τ σ H ∧ Fit (f τ) (fun ps τ' => ∀ vs H', (m = false → Same H H') → Rel g γ τ' σ H' → Kp (Own τ σ H) H (Own τ' σ H') H' →
  RepA g H' (Av γ τ' σ H') (vs.map (·.1)) (ps.map (·.1)) → RepA g H' (Av γ τ' σ H') (vs.map (·.2)) (ps.map (·.2)) → Q vs H') (XW g W γ τ σ H)
structure JP (X : Cx) (W : WX) (m : Bool) (pos : Pos) (ks : List (Option Expr)) (vs : List Expr) (f : M (List (D × D))) : Prop where
  ex : ∃ trs, PPs X pos ks vs trs ∧ ∀ σ H Q, tP X.g W m f σ H Q → tPairs trs σ H Q
def prN : M (List (D × D)) := ret []
def prC (fk fv : M D) (f : M (List (D × D))) : M (List (D × D)) := andThen fk fun k => andThen fv fun v => andThen f fun ps => ret ((k, v) :: ps)
section
variable {X : Cx} {W : WX} {pos : Pos} {ks : List (Option Expr)} {vs : List Expr} {f : M (List (D × D))} {fk fv : M D} {m m1 m2 : Bool} {k v : Expr}
theorem jp_nil : JP X W false pos [] [] prN := ⟨[], pps_nil, fun σ H Q ⟨γ, τ, R, h⟩ => h [] H (fun _ => Same.refl H) R Kp.refl .nil .nil⟩
theorem jp_cons (hk : JE X W .im m1 k fk) (hv : JE X W .im m2 v fv) (h : JP X W m pos ks vs f) : JP X W ((m1 || m2) || m) pos (some k :: ks) (v :: vs) (prC fk fv f) := by
  obtain ⟨trs, pp, w⟩ := h.ex
  refine ⟨_, pps_cons hk hv pp, fun σ H Q ⟨γ, τ, R, h⟩ => ?_⟩
  unfold prC at h
  rw [fit_bind] at h
  refine ⟨γ, τ, R, h.mono (fun d τ1 h x H1 s1 P1 => ?_) fun _ _ q => q⟩
  obtain ⟨R1, kp1, r1⟩ := P1
  rw [fit_bind] at h
  refine ⟨γ, τ1, R1, h.mono (fun e τ2 h y H2 s2 P2 => ?_) fun _ _ q => q.pre kp1⟩
  obtain ⟨R2, kp2, r2⟩ := P2
  rw [fit_bind] at h
  refine w σ H2 _ ⟨γ, τ2, R2, h.mono (fun ps τ3 h vs H3 s3 R3 kp3 a b => ?_) fun _ _ q => q.pre (kp1.trans kp2)⟩
  exact h ((x, y) :: vs) H3 (or_same (or_same s1 s2) s3) R3 ((kp1.trans kp2).trans kp3) (.cons ((r1.kp kp2.av).kp kp3.av) a) (.cons (r2.kp kp3.av) b)
def dispE (f : M (List (D × D))) : M D := andThen f fun ps => lift (oDisp ps)
theorem je_dict0 : JE X W .fr true (.Dict [] [] pos) (ret (.dK [])) := pe_dnewK.weak fun σ H Q ⟨γ, τ, R, h⟩ p hp => by
  have sm : Same H (upd H p (.dK [])) := fun b u e => by
    rw [upd_ne (ne_of_none e hp)]
    exact e
  exact h (.ref p) _ (fun z => nomatch z) (PostE.of_out R Kp.refl (by decide) ⟨sm, p, rfl, hp, .dK upd_same rfl .nil⟩)
end
end PL

/-! PL21: tuple(text), text.upper(). -/
namespace PL
open PySem PySem.Spec PyProof.Rows L2
section
variable {X : Cx} {W : WX} {g : Gc} {k : Kd} {m : Bool} {a : Expr} {f : M D} {pos apos : Pos}
/-! ### text.upper() -/
end
end PL

/-! PL22: zip of lists and texts, mixed. -/
namespace PL
open PySem PySem.Spec PyProof.Rows L2
/-- what stands at i in a list or a text; that nothing does; the iterator over it -/
def zAt (K : PySem.W.Frag) (H : Hp) (v : V) (i : Nat) (u : V) : Prop := match v with
  | .ref a => ∃ xs, SqL K H a xs ∧ xs[i]? = some u
  | .str x => ∃ c, x.cps[i]? = some c ∧ u = .str ⟨#[c]⟩
  | _ => False
def zAll (K : PySem.W.Frag) (H : Hp) (v : V) (i : Nat) (u : V) : Prop := match v with
  | .ref a => ∀ xs, SqL K H a xs → xs[i]? = some u
  | .str x => ∃ c, x.cps[i]? = some c ∧ u = .str ⟨#[c]⟩
  | _ => False
def zEnd (K : PySem.W.Frag) (H : Hp) (v : V) (i : Nat) : Prop := match v with
  | .ref a => ∃ xs, SqL K H a xs ∧ xs.length ≤ i
  | .str x => x.cps.size ≤ i
  | _ => False
def zSt (v : V) (it : Addr) (i : Nat) (h : Heap) : Prop := match v with
  | .ref a => h.IsListIter it a i
  | .str x => ∃ t, h.IsStrIter it (strIterType x) x t i
  | _ => False
def zFp (v : V) (it : Addr) : List Addr := match v with
  | .ref a => [it, a]
  | _ => [it]
section
variable {X : Cx} {pins : List (Addr × Obj)} {σ : L2.St} {H : Hp} {s : Shared} {v u : V} {it : Addr} {i : Nat}
theorem str_type {x : Str} : strIterType x = "str_ascii_iterator" ∨ strIterType x = "str_iterator" := by
  unfold strIterType
  split
  · exact .inl rfl
  · exact .inr rfl
theorem str_draws {P : Program} {w : World} {A : Around} (hh : A.handled = none) (it : Addr) (x : Str) (t : Tok) : Draws P w A it [it] x.cps.size (fun i v => ∃ c u, x.cps[i]? = some c ∧ v = .str ⟨#[c]⟩ u) (fun i h => h.IsStrIter it (strIterType x) x t i) := by
  rcases str_type (x := x) with z | z
  · rw [z]; exact Draws.strAscii hh it x t
  · rw [z]; exact Draws.strWide hh it x t
theorem str_over {P : Program} {w : World} {A : Around} (hh : A.handled = none) (it : Addr) (x : Str) (t : Tok) (hi : x.cps.size ≤ i) : Draws P w A it [it] i (fun _ _ => False) (fun j h => j = i ∧ h.IsStrIter it (strIterType x) x t j) where
  live := fun _ _ st => let ⟨_, o, ho, _⟩ := st; ⟨o, ho⟩
  frame := fun _ _ _ st hk => let ⟨e, o, ho, r⟩ := st; ⟨e, o, hk it (by simp) o ho, r⟩
  item := fun j s Q E hj st _ => absurd st.1 (Nat.ne_of_lt hj)
  done := fun s Q E st hE => by
    have hx : x.cps[i]? = none := by simp [hi]
    have st2 := st.2
    rcases str_type (x := x) with z | z
    · rw [z] at st2; exact wpAny_nextOf_ascii_end hh st2 hx hE
    · rw [z] at st2; exact wpAny_nextOf_wide_end hh st2 hx hE
theorem list_over {P : Program} {w : World} {A : Around} (hh : A.handled = none) (it l : Addr) (hne : l ≠ it) (items : Array Value) (hi : items.size ≤ i) : Draws P w A it [it, l] i (fun _ _ => False) (fun j h => j = i ∧ h.IsListIter it l j ∧ h.IsList l items) where
  live := fun _ _ st => let ⟨_, ⟨o, ho, _⟩, _⟩ := st; ⟨o, ho⟩
  frame := fun _ _ _ st hk => ⟨st.1, st.2.1.at fun o e => hk it (by simp) o e, st.2.2.at fun o e => hk l (by simp) o e⟩
  item := fun j s Q E hj st _ => absurd st.1 (Nat.ne_of_lt hj)
  done := fun s Q E st hE => wpAny_nextOf_list_end hh st.2.1 st.2.2 (by simp [hi]) hE
theorem z_go (I : L2.Inv X pins σ H s) (hh : X.A.in1.handled = none) (st : zSt v it i s.heap) (ha : zAt X.K H v i u) (hne : ∀ a, v = .ref a → a ≠ it) :
    ∃ n P St, Draws X.prog X.w X.A.in1 it (zFp v it) n P St ∧ St i s.heap ∧ i < n ∧ (∀ y, P i y → RelV u y) ∧ ∀ h, St (i + 1) h → zSt v it (i + 1) h := by
  cases v with
  | ref a =>
    obtain ⟨xs, hq, hx⟩ := ha
    obtain ⟨its, rv, p, hz⟩ := I.list hq
    obtain ⟨y, hy, ry⟩ := rv.get hx
    refine ⟨_, _, _, Draws.list hh it a (hne a rfl) its.toArray, ⟨st, p.isList⟩, by simpa using (List.getElem?_eq_some_iff.mp hy).1, fun z e => ?_, fun h q => q.1⟩
    have e' : its[i]? = some z := by simpa using e
    rw [hy] at e'
    cases e'
    exact ry
  | str x =>
    obtain ⟨c, hc, rfl⟩ := ha
    obtain ⟨t, st⟩ := st
    have hl : i < x.cps.size := (Array.getElem?_eq_some_iff.mp hc).1
    refine ⟨_, _, _, str_draws hh it x t, st, hl, fun z e => ?_, fun h q => ⟨t, q⟩⟩
    obtain ⟨c2, u2, e2, rfl⟩ := e
    rw [hc] at e2
    cases e2
    exact ⟨u2, rfl⟩
  | _ => exact ha.elim
theorem z_all (I : L2.Inv X pins σ H s) (ha : zAt X.K H v i u) : zAll X.K H v i u := by
  cases v with
  | ref a =>
    obtain ⟨xs, hq, hx⟩ := ha
    intro ys hy
    rw [I.list_inj hy hq]
    exact hx
  | str x => exact ha
  | _ => exact ha.elim
theorem z_end (I : L2.Inv X pins σ H s) (hh : X.A.in1.handled = none) (st : zSt v it i s.heap) (ha : zEnd X.K H v i) (hne : ∀ a, v = .ref a → a ≠ it) :
    ∃ P St, Draws X.prog X.w X.A.in1 it (zFp v it) i P St ∧ St i s.heap := by
  cases v with
  | ref a =>
    obtain ⟨xs, hq, hx⟩ := ha
    obtain ⟨its, rv, p, hz⟩ := I.list hq
    have hl : xs.length = its.length := L2.Vals.length rv
    exact ⟨_, _, list_over hh it a (hne a rfl) its.toArray (by simp; omega), rfl, st, p.isList⟩
  | str x =>
    obtain ⟨t, st⟩ := st
    exact ⟨_, _, str_over hh it x t ha, rfl, st⟩
  | _ => exact ha.elim
end
def Itzz (K : PySem.W.Frag) (v1 v2 : V) : It :=
  ⟨fun i H => ∃ u1 u2, zAt K H v1 i u1 ∧ zAt K H v2 i u2, fun i H v H' => ∃ T u1 u2, v = .ref T ∧ H T = none ∧ H' = upd H T (.tup [u1, u2]) ∧ zAll K H v1 i u1 ∧ zAll K H v2 i u2,
    fun i H => ((∃ u, zAt K H v1 i u) ∨ zEnd K H v1 i) ∧ ((∃ u, zAt K H v2 i u) ∨ zEnd K H v2 i) ∧ (zEnd K H v1 i ∨ zEnd K H v2 i)⟩
theorem zSt_at {v : V} {it : Addr} {i : Nat} {h h' : Heap} (st : zSt v it i h) (k : ∀ o, h.get? it = some o → h'.get? it = some o) : zSt v it i h' := by
  cases v with
  | ref a => exact L2H_at st k
  | str x =>
    obtain ⟨t, o, ho, r⟩ := st
    exact ⟨t, o, k o ho, r⟩
  | _ => exact st.elim
where L2H_at {a it : Addr} {i : Nat} {h h' : Heap} (st : h.IsListIter it a i) (k : ∀ o, h.get? it = some o → h'.get? it = some o) : h'.IsListIter it a i := st.at k
theorem zSt_obj {v : V} {it : Addr} {i : Nat} {h : Heap} (st : zSt v it i h) : ∃ o, h.get? it = some o ∧ ∀ w, o.data ≠ .cell w := by
  cases v with
  | ref a =>
    obtain ⟨o, e, _, d⟩ := st
    exact ⟨o, e, fun w q => by rw [d] at q; cases q⟩
  | str x =>
    obtain ⟨t, o, e, _, d⟩ := st
    exact ⟨o, e, fun w q => by rw [d] at q; cases q⟩
  | _ => exact st.elim
theorem turn_zz {P : Program} {w : World} {K : PySem.W.Frag} {elts : List Expr} {kk : Nat} {tpos : Pos} {v1 v2 : V} {z TI TO i1 i2 : Addr} (D : ZipSep2 z TI TO i1 i2 (zFp v1 i1) (zFp v2 i2)) (n1 : ∀ a, v1 = .ref a → a ≠ i1) (n2 : ∀ a, v2 = .ref a → a ≠ i2) :
    Turn P w K (.Tuple elts kk tpos) (Itzz K v1 v2) [z, TI, TO, i1, i2] z (fun i h => IsZip h z TI TO .none ∧ IsTupOf2 h TI (.ref i1) (.ref i2) ∧ (∃ x y, IsTupOf2 h TO x y) ∧ zSt v1 i1 i h ∧ zSt v2 i2 i h) where
  mem := by simp
  obj := fun i h st c hc => by
    obtain ⟨hz, hTI, ⟨x, y, hTO⟩, h1, h2⟩ := st
    simp only [List.mem_cons, List.not_mem_nil, or_false] at hc
    rcases hc with rfl | rfl | rfl | rfl | rfl
    · exact ⟨_, hz, fun v q => nomatch q⟩
    · exact ⟨_, hTI, fun v q => nomatch q⟩
    · exact ⟨_, hTO, fun v q => nomatch q⟩
    · exact zSt_obj h1
    · exact zSt_obj h2
  keep := fun i h h' st k => by
    obtain ⟨hz, hTI, ⟨x, y, hTO⟩, h1, h2⟩ := st
    exact ⟨k z (by simp) _ hz, k TI (by simp) _ hTI, ⟨x, y, k TO (by simp) _ hTO⟩, zSt_at h1 fun o q => k i1 (by simp) o q, zSt_at h2 fun o q => k i2 (by simp) o q⟩
  item := by
    intro X hP hw hK hc i pins s σ H E I hf st hg
    subst hP hw hK
    obtain ⟨hz, hTI, ⟨x0, y0, hTO⟩, h1, h2⟩ := st
    obtain ⟨u1, u2, g1, g2⟩ := hg
    have hh : X.A.in1.handled = none := I.ok.hd hc
    obtain ⟨m1, P1, St1, D1, s1, l1, r1, e1⟩ := z_go I hh h1 g1 n1
    obtain ⟨m2, P2, St2, D2, s2, l2, r2, e2⟩ := z_go I hh h2 g2 n2
    have hzl : z < s.heap.objs.size := Heap.lt_size hz
    refine wpAny_pyNext_zipD2_item D D1 D2 hz hTI hTO s1 s2 l1 l2 fun y1 y2 h' tk p1 p2 z' TO' t1 t2 hT hsz hk => ?_
    refine ⟨_, rfl, wpAny_letOwnedTupleGo_zip (s := { s with heap := h', toks := tk }) z' fun h'' z'' sb => ?_⟩
    have hT2 : h''.get? s.heap.objs.size = some { cls := .type "tuple", data := .seq #[y1, y2] } := (sb.2 _ (Nat.ne_of_gt hzl)).trans hT
    have new : ObjOk X.prog X.w (upd H s.heap.objs.size (.tup [u1, u2])) h'' s.heap.objs.size (.tup [u1, u2]) :=
      ⟨by show 2 ≤ sizeLine; decide, [y1, y2], .cons (r1 _ p1) (.cons (r2 _ p2) .nil), ⟨_, hT2, rfl, _, rfl⟩⟩
    have I1 : L2.Inv X pins σ (upd H s.heap.objs.size (.tup [u1, u2])) { s with heap := h'', toks := tk } :=
      I.turnedNew (t' := tk) (ch := [z, TI, TO, i1, i2]) (fun c o hb q => by
        simp only [List.mem_cons, List.not_mem_nil, or_false, not_or] at hb
        exact (sb.2 c hb.1).trans (hk c o hb.1 hb.2.2.1 hb.2.2.2.1 hb.2.2.2.2 q)) hf (Nat.le_refl _) new
    refine ⟨.ref s.heap.objs.size, _, I1, rfl, ⟨_, u1, u2, rfl, I.hok.fresh (Nat.le_refl _), rfl, z_all I g1, z_all I g2⟩, ⟨z'', ?_, ⟨y1, y2, ?_⟩, ?_, ?_⟩, fun c hcm => ?_⟩
    · exact (sb.2 _ D.TIz).trans (hk _ _ D.TIz D.TITO D.TIi1 D.TIi2 hTI)
    · exact (sb.2 _ D.TOz).trans TO'
    · exact zSt_at (e1 _ t1) fun o q => (sb.2 _ D.zi1.symm).trans q
    · exact zSt_at (e2 _ t2) fun o q => (sb.2 _ D.zi2.symm).trans q
    · have hlt : c < s.heap.objs.size := by
        simp only [List.mem_cons, List.not_mem_nil, or_false] at hcm
        rcases hcm with rfl | rfl | rfl | rfl | rfl
        · exact hzl
        · exact Heap.lt_size hTI
        · exact Heap.lt_size hTO
        · obtain ⟨o, e, _⟩ := zSt_obj h1; exact Heap.lt_size e
        · obtain ⟨o, e, _⟩ := zSt_obj h2; exact Heap.lt_size e
      rw [upd_ne (Nat.ne_of_lt hlt)]
      exact (hf c hcm).1
  done := by
    intro X hP hw hK hc i pins s σ H E I hf st hg
    subst hP hw hK
    obtain ⟨hz, hTI, ⟨x0, y0, hTO⟩, h1, h2⟩ := st
    have hh : X.A.in1.handled = none := I.ok.hd hc
    have fin : ∀ {m1 m2 : Nat} {P1 P2 : Nat → Value → Prop} {St1 St2 : Nat → Heap → Prop}, Draws X.prog X.w X.A.in1 i1 (zFp v1 i1) m1 P1 St1 → Draws X.prog X.w X.A.in1 i2 (zFp v2 i2) m2 P2 St2 → St1 i s.heap → St2 i s.heap → i ≤ m1 → i ≤ m2 → (i = m1 ∨ i = m2) → wpAny (model X.prog X.w) X.A (pyNext (.ref z)) (fun r s1 => r = none ∧ L2.Inv X pins σ H s1) E s := fun {m1 m2 P1 P2 St1 St2} D1 D2 t1 t2 l1 l2 e =>
      wpAny_pyNext_zipD2_end D D1 D2 hz hTI hTO t1 t2 l1 l2 e fun h' tk hk => ⟨rfl, I.turnedL (t' := tk) (ch := [z, TI, TO, i1, i2]) (fun c o hb q => by
        simp only [List.mem_cons, List.not_mem_nil, or_false, not_or] at hb
        exact hk c o hb.1 hb.2.2.1 hb.2.2.2.1 hb.2.2.2.2 q) hf⟩
    obtain ⟨k1, k2, ke⟩ := hg
    rcases ke with ke | ke
    · obtain ⟨P1, St1, D1, t1⟩ := z_end I hh h1 ke n1
      rcases k2 with ⟨u, k2⟩ | k2
      · obtain ⟨m2, P2, St2, D2, t2, l2, _, _⟩ := z_go I hh h2 k2 n2
        exact fin D1 D2 t1 t2 (Nat.le_refl _) (Nat.le_of_lt l2) (.inl rfl)
      · obtain ⟨P2, St2, D2, t2⟩ := z_end I hh h2 k2 n2
        exact fin D1 D2 t1 t2 (Nat.le_refl _) (Nat.le_refl _) (.inl rfl)
    · obtain ⟨P2, St2, D2, t2⟩ := z_end I hh h2 ke n2
      rcases k1 with ⟨u, k1⟩ | k1
      · obtain ⟨m1, P1, St1, D1, t1, l1, _, _⟩ := z_go I hh h1 k1 n1
        exact fin D1 D2 t1 t2 (Nat.le_of_lt l1) (Nat.le_refl _) (.inr rfl)
      · obtain ⟨P1, St1, D1, t1⟩ := z_end I hh h1 k1 n1
        exact fin D1 D2 t1 t2 (Nat.le_refl _) (Nat.le_refl _) (.inr rfl)
  self := fun A i s Q E st h => wpAny_pyIter_zip st.1 h
/-! ### zip made -/
section
variable {prog : Program} {w : World} {A : Around} {E : Value → Shared → Prop} {s : Shared}
abbrev zh (h : Heap) (o1 o2 : Obj) : Heap := (h.push o1).push o2
abbrev zh3 (h : Heap) (o1 o2 : Obj) : Heap := (zh h o1 o2).push { cls := .type "tuple", data := .seq #[.ref h.objs.size, .ref (h.push o1).objs.size] }
abbrev zh4 (h : Heap) (o1 o2 : Obj) : Heap := (zh3 h o1 o2).push { cls := .type "tuple", data := .seq #[.none, .none] }
abbrev zh5 (h : Heap) (o1 o2 : Obj) : Heap := (zh4 h o1 o2).push { cls := .type "zip", data := .fields #[.none, .bool false, .bool false, .ref (zh h o1 o2).objs.size, .ref (zh3 h o1 o2).objs.size] }
abbrev oS (x : Str) (t : Tok) : Obj := { cls := .type (strIterType x), data := .fields #[.str x t, .int 0 0] }
abbrev oL (l : Addr) : Obj := { cls := .type "list_iterator", data := .fields #[.ref l, .int 0 0] }
set_option maxHeartbeats 2000000 in
theorem meets_zss (x1 x2 : Str) (t1 t2 : Tok) :
    Meets (Builtin.«zip.__new__» ⟨[.type "zip", .str x1 t1, .str x2 t2], []⟩) (fun _ R s => R (.ok (.ret (.ref (zh4 s.heap (oS x1 t1) (oS x2 t2)).objs.size))) { s with heap := zh5 s.heap (oS x1 t1) (oS x2 t2) }) :=
  .of_wp fun prog w A R s h => by
    obtain ⟨hp, g, d, tk, os⟩ := s
    have sub := sub_zip
    wp_walk using wpAny_pyIter_strU, wpAny_pyIter_strU
    exact ⟨_, rfl, h⟩
set_option maxHeartbeats 2000000 in
theorem meets_zsl (x1 : Str) (t1 : Tok) (l : Addr) (items : Array Value) :
    Meets (Builtin.«zip.__new__» ⟨[.type "zip", .str x1 t1, .ref l], []⟩) (fun _ R s => s.heap.IsList l items ∧ R (.ok (.ret (.ref (zh4 s.heap (oS x1 t1) (oL l)).objs.size))) { s with heap := zh5 s.heap (oS x1 t1) (oL l) }) :=
  .of_wp fun prog w A R s h => by
    obtain ⟨hp, g, d, tk, os⟩ := s
    obtain ⟨hl, h⟩ := h
    have sub := sub_zip
    have hl2 : Heap.IsList (Shared.heap ⟨hp.push (oS x1 t1), g, d, tk, os⟩) l items := Heap.IsList.push hl _
    wp_walk using wpAny_pyIter_strU, wpAny_pyIter_list hl2
    exact ⟨_, rfl, h⟩
end
end PL

namespace PL
open PySem PySem.Spec PyProof.Rows L2
section
variable {prog : Program} {w : World} {A : Around} {E : Value → Shared → Prop} {s : Shared}
/-- what stands behind the making of a zip -/
structure Zip0 (h h' : Heap) (o1 o2 : Obj) : Prop where
  z : IsZip h' (h.objs.size + 4) (h.objs.size + 2) (h.objs.size + 3) .none
  ti : IsTupOf2 h' (h.objs.size + 2) (.ref h.objs.size) (.ref (h.objs.size + 1))
  to : IsTupOf2 h' (h.objs.size + 3) .none .none
  a : h'.get? h.objs.size = some o1
  b : h'.get? (h.objs.size + 1) = some o2
  k : ∀ c o, h.get? c = some o → h'.get? c = some o
theorem zip0 (h : Heap) (o1 o2 : Obj) (f1 : (h.push o1).get? h.objs.size = some o1) (f2 : ((h.push o1).push o2).get? (h.push o1).objs.size = some o2) : Zip0 h (zh5 h o1 o2) o1 o2 := by
  have z1 : (h.push o1).objs.size = h.objs.size + 1 := Heap.size_push ..
  have z2 : (zh h o1 o2).objs.size = h.objs.size + 2 := by rw [Heap.size_push, z1]
  have z3 : (zh3 h o1 o2).objs.size = h.objs.size + 3 := by rw [Heap.size_push, z2]
  have z4 : (zh4 h o1 o2).objs.size = h.objs.size + 4 := by rw [Heap.size_push, z3]
  have g5 : (zh5 h o1 o2).get? (zh4 h o1 o2).objs.size = some _ := Heap.get?_push_size _ rfl
  have g4 : (zh5 h o1 o2).get? (zh3 h o1 o2).objs.size = some _ := Heap.get?_push_of_some _ (Heap.get?_push_size _ rfl)
  have g3 : (zh5 h o1 o2).get? (zh h o1 o2).objs.size = some _ := Heap.get?_push_of_some _ (Heap.get?_push_of_some _ (Heap.get?_push_size _ rfl))
  have up : ∀ c o, (zh h o1 o2).get? c = some o → (zh5 h o1 o2).get? c = some o := fun c o e => Heap.get?_push_of_some _ (Heap.get?_push_of_some _ (Heap.get?_push_of_some _ e))
  rw [z2, z3, z4] at g5
  rw [z1, z2] at g3
  rw [z3] at g4
  rw [z1] at f2
  exact ⟨g5, g3, g4, up _ _ (Heap.get?_push_of_some _ f1), up _ _ f2, fun c o e => up _ _ (Heap.get?_push_of_some _ (Heap.get?_push_of_some _ e))⟩
theorem call_zss {x1 x2 : Str} {t1 t2 : Tok} {Q : Value → Shared → Prop} (h : ∀ h', Zip0 s.heap h' (oS x1 t1) (oS x2 t2) → Q (.ref (s.heap.objs.size + 4)) { s with heap := h' }) :
    wpAny (model prog w) A (call (.type "zip") [.str x1 t1, .str x2 t2]) Q E s := by
  refine callType_new F.called_zip (by decide) (F.typeCall_zip_2 _ _) (F.newCall_zip_2 _ _) (fun obj => F.args_object_init_3 obj _ _) F.entry_zip_new (meets_zss x1 x2 t1 t2) ?_
  have q := zip0 s.heap (oS x1 t1) (oS x2 t2) (Heap.get?_push_size _ rfl) (Heap.get?_push_size _ rfl)
  have z4 : (zh4 s.heap (oS x1 t1) (oS x2 t2)).objs.size = s.heap.objs.size + 4 := by rw [Heap.size_push, Heap.size_push, Heap.size_push, Heap.size_push]
  show _ ∧ _
  rw [z4]
  exact ⟨⟨_, q.z, rfl⟩, h _ q⟩
theorem call_zsl {x1 : Str} {t1 : Tok} {l : Addr} {items : Array Value} {Q : Value → Shared → Prop} (hl : s.heap.IsList l items) (h : ∀ h', Zip0 s.heap h' (oS x1 t1) (oL l) → Q (.ref (s.heap.objs.size + 4)) { s with heap := h' }) :
    wpAny (model prog w) A (call (.type "zip") [.str x1 t1, .ref l]) Q E s := by
  refine callType_new F.called_zip (by decide) (F.typeCall_zip_2 _ _) (F.newCall_zip_2 _ _) (fun obj => F.args_object_init_3 obj _ _) F.entry_zip_new (meets_zsl x1 t1 l items) ⟨hl, ?_⟩
  have q := zip0 s.heap (oS x1 t1) (oL l) (Heap.get?_push_size _ rfl) (Heap.get?_push_size _ rfl)
  have z4 : (zh4 s.heap (oS x1 t1) (oL l)).objs.size = s.heap.objs.size + 4 := by rw [Heap.size_push, Heap.size_push, Heap.size_push, Heap.size_push]
  show _ ∧ _
  rw [z4]
  exact ⟨⟨_, q.z, rfl⟩, h _ q⟩
end
/-! ### zip walked -/
section
variable {X : Cx} {pins : List (Addr × Obj)} {σ : L2.St} {H : Hp} {s : Shared}
theorem sep_of {I : Addr} {v1 v2 : V} (h1 : ∀ a, v1 = .ref a → a < I) (h2 : ∀ a, v2 = .ref a → a < I) : ZipSep2 (I + 4) (I + 2) (I + 3) I (I + 1) (zFp v1 I) (zFp v2 (I + 1)) := by
  have e1 : ∀ c, c ∈ zFp v1 I → c = I ∨ c < I := fun c hc => by
    cases v1 with
    | ref a =>
      have hc' : c ∈ [I, a] := hc
      simp only [List.mem_cons, List.not_mem_nil, or_false] at hc'
      rcases hc' with rfl | rfl
      · exact .inl rfl
      · exact .inr (h1 _ rfl)
    | _ => exact .inl (List.mem_singleton.mp hc)
  have e2 : ∀ c, c ∈ zFp v2 (I + 1) → c = I + 1 ∨ c < I := fun c hc => by
    cases v2 with
    | ref a =>
      have hc' : c ∈ [I + 1, a] := hc
      simp only [List.mem_cons, List.not_mem_nil, or_false] at hc'
      rcases hc' with rfl | rfl
      · exact .inl rfl
      · exact .inr (h2 _ rfl)
    | _ => exact .inl (List.mem_singleton.mp hc)
  have m1 : I ∈ zFp v1 I := by cases v1 <;> exact List.mem_cons_self
  have m2 : I + 1 ∈ zFp v2 (I + 1) := by cases v2 <;> exact List.mem_cons_self
  have L : ∀ {a b : Nat}, a ≠ b → (a : Addr) ≠ b := fun h => h
  refine ⟨L (by omega), L (by omega), L (by omega), L (by omega), m1, fun q => ?_, fun q => ?_, L (by omega), m2, fun q => ?_, fun q => ?_, fun q => ?_, fun q => ?_⟩
  · rcases e1 _ q with z | z <;> exact absurd z (by first | exact L (by omega) | exact Nat.not_lt.mpr (Nat.le_add_right I 4))
  · rcases e1 _ q with z | z <;> exact absurd z (by first | exact L (by omega) | exact Nat.not_lt.mpr (Nat.le_add_right I 3))
  · rcases e2 _ q with z | z <;> exact absurd z (by first | exact L (by omega) | exact Nat.not_lt.mpr (Nat.le_add_right I 4))
  · rcases e2 _ q with z | z <;> exact absurd z (by first | exact L (by omega) | exact Nat.not_lt.mpr (Nat.le_add_right I 3))
  · rcases e2 _ q with z | z <;> exact absurd z (by first | exact L (by omega) | exact Nat.lt_irrefl I)
  · rcases e1 _ q with z | z <;> exact absurd z (by first | exact L (by omega) | exact Nat.not_lt.mpr (Nat.le_add_right I 1))
def iZipA (K : PySem.W.Frag) (ta : TA) : TI := fun σ H R => ta σ H fun vs H1 => (∃ a b xs ys, vs = [.ref a, .ref b] ∧ SqL K H1 a xs ∧ SqL K H1 b ys ∧ R (Itzz K (.ref a) (.ref b)) H1) ∨
  (∃ x y, vs = [.str x, .str y] ∧ R (Itzz K (.str x) (.str y)) H1) ∨ ∃ x b ys, vs = [.str x, .ref b] ∧ SqL K H1 b ys ∧ R (Itzz K (.str x) (.ref b)) H1
theorem zip_turns {v1 v2 : V} {o1 o2 : Obj} {h' : Heap} {R : It → Hp → Prop} {elts : List Expr} {kk : Nat} {tpos : Pos} (I : L2.Inv X pins σ H s) (h1 : ∀ a, v1 = .ref a → a < s.heap.objs.size) (h2 : ∀ a, v2 = .ref a → a < s.heap.objs.size) (q : Zip0 s.heap h' o1 o2)
    (s1 : zSt v1 s.heap.objs.size 0 h') (s2 : zSt v2 (s.heap.objs.size + 1) 0 h') (r : R (Itzz X.K v1 v2) H) :
    PIE X pins σ (.Tuple elts kk tpos) R (.ref (s.heap.objs.size + 4)) { s with heap := h' } := by
  have I2 : L2.Inv X pins σ H { s with heap := h' } := I.kept (t' := s.toks) q.k
  refine ⟨s.heap.objs.size + 4, [s.heap.objs.size + 4, s.heap.objs.size + 2, s.heap.objs.size + 3, s.heap.objs.size, s.heap.objs.size + 1], _, _, H, rfl, I2,
    turn_zz (sep_of h1 h2) (fun a e => Nat.ne_of_lt (h1 a e)) (fun a e => Nat.ne_of_lt (Nat.lt_of_lt_of_le (h2 a e) (Nat.le_add_right _ _))), ⟨q.z, q.ti, ⟨_, _, q.to⟩, s1, s2⟩, fun c hc => ?_, r⟩
  have hle : s.heap.objs.size ≤ c := by
    simp only [List.mem_cons, List.not_mem_nil, or_false] at hc
    rcases hc with rfl | rfl | rfl | rfl | rfl <;> first | exact Nat.le_add_right _ _ | exact Nat.le_refl _
  exact I.fpOk hle (I.hok.fresh hle)
end
theorem pi_zipA {X : Cx} {e e2 : Expr} {ta : TA} {p pos tpos : Pos} {elts : List Expr} {kk : Nat} (hg : Gl X "zip") (hm : X.mg "zip" = none) (ha : PA X [e, e2] ta)
    (hs : starEach [e, e2] X.env = (false, eval e X.env) :: starEach [e2] X.env := by rfl) (hpl : (backTo pos (starEach [e2] X.env)).any (·.1) = false := by rfl) : PI X (.Tuple elts kk tpos) (.Call (.Name "zip" p) [e, e2] [] pos) (iZipA X.K ta) := by
  refine ⟨fun pins s σ H R I h => Call_ (ld_blt I hg hm PyProof.Rows.boot_zip (PyProof.Rows.callWith_type1 (thn (ha.run pos pins s σ H _ I h) fun us s1 ⟨vs, H1, I1, r1, q1⟩ => ?_) hs hpl))⟩
  rcases q1 with ⟨a, b, xs, ys, ex, sa, sb, q⟩ | ⟨x, y, ex, q⟩ | ⟨x, b, ys, ex, sb, q⟩
  · subst ex
    obtain ⟨u1, u2, rfl, r, r'⟩ := vals2 r1
    cases (show u1 = Value.ref a from r)
    cases (show u2 = Value.ref b from r')
    obtain ⟨_, _, p1, _⟩ := I1.list sa
    obtain ⟨_, _, p2, _⟩ := I1.list sb
    refine call_zip_2 p1.isList p2.isList fun h' hz hTI hTO h1 h2 hsz hk => wpAny_pyIter_zip hz ?_
    obtain ⟨o1, g1, c1⟩ := id h1
    obtain ⟨o2, g2, c2⟩ := id h2
    exact zip_turns (v1 := .ref a) (v2 := .ref b) I1 (fun _ e => by cases e; exact p1.lt) (fun _ e => by cases e; exact p2.lt) ⟨hz, hTI, hTO, g1, g2, hk⟩ h1 h2 q
  · subst ex
    obtain ⟨u1, u2, rfl, r, r'⟩ := vals2 r1
    obtain ⟨t1, rfl⟩ := r
    obtain ⟨t2, rfl⟩ := r'
    exact call_zss fun h' z => wpAny_pyIter_zip z.z (zip_turns (v1 := .str x) (v2 := .str y) I1 (fun _ e => nomatch e) (fun _ e => nomatch e) z ⟨t1, _, z.a, rfl, rfl⟩ ⟨t2, _, z.b, rfl, rfl⟩ q)
  · subst ex
    obtain ⟨u1, u2, rfl, r, r'⟩ := vals2 r1
    obtain ⟨t1, rfl⟩ := r
    cases (show u2 = Value.ref b from r')
    obtain ⟨_, _, p2, _⟩ := I1.list sb
    exact call_zsl p2.isList fun h' z => wpAny_pyIter_zip z.z (zip_turns (v1 := .str x) (v2 := .ref b) I1 (fun _ e => nomatch e) (fun _ e => by cases e; exact p2.lt) z ⟨t1, _, z.a, rfl, rfl⟩ ⟨_, z.b, rfl, rfl⟩ q)
/-- what a walked value stands for -/
def AtZ (g : Gc) (H : Hp) (A : Addr → Prop) (v : V) (ds : List D) : Prop := match v with
  | .ref a => AtI g H A a ds
  | .str x => ds = x.cps.toList.map fun c => .str [c]
  | _ => False
theorem lasts_z {v : V} {ds : List D} : Lasts (fun H A => AtZ g H A v ds) := fun H A H2 A2 h k => by
  cases v with
  | ref a => exact lasts_list H A H2 A2 h k
  | str x => exact h
  | _ => exact h.elim
theorem at_some {g : Gc} {H : Hp} {A : Addr → Prop} {v : V} {ds : List D} {i : Nat} {d : D} (h : AtZ g H A v ds) (hd : ds[i]? = some d) : ∃ u, zAt g.K H v i u ∧ ∀ u', zAll g.K H v i u' → Rep g H A u' d := by
  cases v with
  | ref a =>
    obtain ⟨vs, ha, ra⟩ := h
    have sq : SqL g.K H a vs := ha.elim (fun z => .inl (.inl z.1)) fun z => z.sq
    obtain ⟨u, hu, ru⟩ := ra.get hd
    refine ⟨u, ⟨vs, sq, hu⟩, fun u' q => ?_⟩
    have := q vs sq
    rw [hu] at this
    cases this
    exact ru
  | str x =>
    have h' : ds = x.cps.toList.map fun c => D.str [c] := h
    rw [h', List.getElem?_map] at hd
    cases e : x.cps.toList[i]? with
    | none => rw [e] at hd; cases hd
    | some c =>
      rw [e] at hd
      cases hd
      have e' : x.cps[i]? = some c := by simpa using e
      refine ⟨_, ⟨c, e', rfl⟩, fun u' q => ?_⟩
      obtain ⟨c2, e2, rfl⟩ := q
      rw [e'] at e2
      cases e2
      exact .str [c]
  | _ => exact h.elim
theorem at_none {g : Gc} {H : Hp} {A : Addr → Prop} {v : V} {ds : List D} {i : Nat} (h : AtZ g H A v ds) (hd : ds.length ≤ i) : zEnd g.K H v i := by
  cases v with
  | ref a =>
    obtain ⟨vs, ha, ra⟩ := h
    have sq : SqL g.K H a vs := ha.elim (fun z => .inl (.inl z.1)) fun z => z.sq
    exact ⟨vs, sq, by rw [ra.length]; exact hd⟩
  | str x =>
    have h' : ds = x.cps.toList.map fun c => D.str [c] := h
    rw [h', List.length_map] at hd
    show x.cps.size ≤ i
    simpa using hd
  | _ => exact h.elim
theorem at_known {g : Gc} {H : Hp} {A : Addr → Prop} {v : V} {ds : List D} (i : Nat) (h : AtZ g H A v ds) : (∃ u, zAt g.K H v i u) ∨ zEnd g.K H v i := by
  by_cases hi : i < ds.length
  · obtain ⟨u, q, _⟩ := at_some h (List.getElem?_eq_getElem hi)
    exact .inl ⟨u, q⟩
  · exact .inr (at_none h (Nat.le_of_not_lt hi))
theorem good_zz {g : Gc} {v1 v2 : V} {xs ys : List D} : ItGood g (Itzz g.K v1 v2) (fun H A => AtZ g H A v1 xs ∧ AtZ g H A v2 ys) (zipD xs ys) := fun i H A ⟨h1, h2⟩ hA => by
  refine ⟨fun d hd => ?_, fun hl => ⟨at_known i h1, at_known i h2, ?_⟩⟩
  · rw [zipD_get] at hd
    cases e : xs[i]? with
    | none => rw [e] at hd; cases hd
    | some x =>
      cases e' : ys[i]? with
      | none => rw [e, e'] at hd; cases hd
      | some y =>
        rw [e, e'] at hd
        cases hd
        obtain ⟨u1, a1, b1⟩ := at_some h1 e
        obtain ⟨u2, a2, b2⟩ := at_some h2 e'
        refine ⟨⟨u1, u2, a1, a2⟩, fun z H' yd => ?_⟩
        obtain ⟨T, w1, w2, rfl, hT, rfl, q1, q2⟩ := yd
        exact new_pair (fun a h => (hA a h).ex) hT (.cons (b1 _ q1) (.cons (b2 _ q2) .nil))
  · rw [zipD_len] at hl
    by_cases hx : xs.length ≤ i
    · exact .inl (at_none h1 hx)
    · exact .inr (at_none h2 (by omega))
def chars (s : List Nat) : List D := s.map fun c => .str [c]
def oZipA : D → D → Option (List D)
  | .lst xs, .lst ys => some (zipD xs ys)
  | .str x, .str y => some (zipD (chars x) (chars y))
  | .str x, .lst ys => some (zipD (chars x) ys)
  | _, _ => none
def zipA (fa fb : M D) : M (List D) := andThen fa fun x => andThen fb fun y => lift (oZipA x y)
section
variable {X : Cx} {W : WX} {m1 m2 : Bool} {a b : Expr} {fa fb : M D} {pos : Pos}
theorem chars_S {s : List Nat} : chars s = (S s).cps.toList.map fun c => D.str [c] := rfl
theorem ji_zipA {p tpos : Pos} {elts : List Expr} {kk : Nat} (hg : Gl X "zip") (hm : X.mg "zip" = none) (ha : JE X W .im m1 a fa) (hb : JE X W .im m2 b fb) (hs : starEach [a, b] X.env = (false, eval a X.env) :: starEach [b] X.env := by rfl) (hs2 : starEach [b] X.env = (false, eval b X.env) :: starEach [] X.env := by rfl)
    (hpl : (backTo pos (starEach [b] X.env)).any (·.1) = false := by rfl) : JI X W (m1 || m2) (.Tuple elts kk tpos) (.Call (.Name "zip" p) [a, b] [] pos) (zipA fa fb) :=
  PI.weak (pi_zipA hg hm (pa_cons ha (pa_cons hb pa_nil hs2) hs) hs hpl) fun σ H R ⟨γ, τ, Re, h⟩ => by
    unfold zipA at h
    rw [fit_bind] at h
    refine tE_bin (Kc := fun x y H2 => (∃ a b xs ys, [x, y] = [V.ref a, V.ref b] ∧ SqL X.K H2 a xs ∧ SqL X.K H2 b ys ∧ R (Itzz X.K (.ref a) (.ref b)) H2) ∨ (∃ x' y', [x, y] = [V.str x', V.str y'] ∧ R (Itzz X.K (.str x') (.str y')) H2) ∨ ∃ x' b ys, [x, y] = [V.str x', V.ref b] ∧ SqL X.K H2 b ys ∧ R (Itzz X.K (.str x') (.ref b)) H2) (k1 := .im) (k2 := .im) (.inl (by decide)) Re (h.mono (fun d τ1 h => ?_) fun _ _ q => q)
    rw [fit_bind] at h
    refine h.mono (fun e τ2 h x y H2 s2 R2 kp vx vy => ?_) fun _ _ q => q
    obtain ⟨ds, ed, h⟩ := fit_lift.mp h
    have both : ∀ {v1 v2 : V} {xs ys : List D}, Lasts (fun H A => AtZ X.g H A v1 xs ∧ AtZ X.g H A v2 ys) := fun {v1 v2 xs ys} H A H2 A2 q k => ⟨lasts_z H A H2 A2 q.1 k, lasts_z H A H2 A2 q.2 k⟩
    unfold oZipA at ed
    split at ed
    · cases ed
      obtain ⟨a, vs, rfl, sa, ia⟩ := at_of_rep (show Rep _ _ _ _ _ from vx) (.inl rfl)
      obtain ⟨b, ws, rfl, sb, ib⟩ := at_of_rep (show Rep _ _ _ _ _ from vy) (.inl rfl)
      exact .inl ⟨a, b, vs, ws, rfl, sa, sb, h _ H2 _ s2 R2 kp ⟨ia, ib⟩ both (good_zz (v1 := .ref a) (v2 := .ref b))⟩
    · cases ed
      cases (show Rep _ _ _ _ _ from vx)
      cases (show Rep _ _ _ _ _ from vy)
      exact .inr (.inl ⟨_, _, rfl, h _ H2 _ s2 R2 kp ⟨chars_S, chars_S⟩ both good_zz⟩)
    · cases ed
      cases (show Rep _ _ _ _ _ from vx)
      obtain ⟨b, ws, rfl, sb, ib⟩ := at_of_rep (show Rep _ _ _ _ _ from vy) (.inl rfl)
      exact .inr (.inr ⟨_, b, ws, rfl, sb, h _ H2 _ s2 R2 kp ⟨chars_S, ib⟩ both (good_zz (v2 := .ref b))⟩)
    · cases ed
end
end PL

/-! PL24: a def called with values that are looked at; its answer is flat. -/
namespace PL
open PySem PySem.Spec PyProof.Rows L2
section
variable {X : Cx} {W : WX} {g : Gc} {γ : G} {τ τ1 : PS0} {σ : L2.St} {H H1 H2 : Hp} {A : Addr → Prop} {v : V} {d : D} {k kr : Kd} {e : Expr} {es : List Expr} {f : M D} {fs : M (List D)} {pos : Pos}
theorem LRep.bare (h : LRep g H A v d) : Rep g H (fun _ => False) v d := by
  have k0 : Kp A H (fun _ => False) H := Kp.less fun _ z => z.elim
  rcases h with h | ⟨a, rfl, c⟩
  · exact h.kp k0
  · exact (c.mono k0 rfl).rep fun z => z
def callL (mf : List D → DR) (fs : M (List D)) : M D := andThen fs fun ds τ => match mf ds with
  | .ret d _ => if flD d = true then .ok d τ else .stuck
  | .exc n _ => .exc n τ
  | .stuck => .stuck
theorem flat_any {B : Addr → Prop} {H' : Hp} (hf : flD d = true) (h : Rep g H A v d) : Rep g H' B v d := by
  cases d with
  | non => cases h; exact .non
  | bl b => cases h; exact .bl b
  | int i => cases h; exact .int i
  | str s => cases h; exact .str s
  | _ => cases hf
end
end PL

/-! PL25: what is no longer needed is let go: a slot may be forgotten at any time. -/
namespace PL
open PySem PySem.Spec PyProof.Rows L2
section
variable {X : Cx} {W : WX} {g : Gc} {γ : G} {τ τ' : PS0} {σ : L2.St} {H : Hp} {rk : Rk} {st : Stmt} {f : SM}
def killS (vs : List Nat) (f : SM) : SM := fun τ => match f τ with
  | .nx τ' => .nx (wipeP τ' vs)
  | r => r
theorem Rel.kill (R : Rel g γ τ σ H) : ∀ vs : List Nat, Rel g γ (wipeP τ vs) σ H ∧ Kp (Own τ σ H) H (Own (wipeP τ vs) σ H) H
  | [] => ⟨R, Kp.refl⟩
  | v :: vs => by
    obtain ⟨R1, k1⟩ := Rel.kill R vs
    have e : σ.set v (σ[v]?.getD none) = σ := by
      apply List.ext_getElem?
      intro j
      by_cases hj : j = v
      · subst hj
        by_cases hl : j < σ.length
        · rw [List.getElem?_set_self hl, List.getElem?_eq_getElem hl]
          rfl
        · rw [List.getElem?_eq_none_iff.mpr (by rw [List.length_set]; omega), List.getElem?_eq_none_iff.mpr (by omega)]
      · rw [List.getElem?_set_ne (Ne.symm hj)]
    have := R1.setNo v .no (σ[v]?.getD none) rfl fun d e => nomatch e
    rw [e] at this
    exact ⟨this.1, k1.trans this.2⟩
theorem js_kill (vs : List Nat) (h : JS X W rk st f) : JS X W rk st (killS vs f) := h.weak fun Dn σ H ⟨γ, τ, R, q⟩ => by
  refine ⟨γ, τ, R, ?_⟩
  unfold killS at q
  cases ef : f τ with
  | stuck => rw [ef] at q; exact q.elim
  | exc n τ' => rw [ef] at q; exact q
  | ret d τ' => rw [ef] at q; exact q
  | nx τ' =>
    rw [ef] at q
    intro σ' H' R' k'
    obtain ⟨R2, k2⟩ := R'.kill vs
    exact q σ' H' R2 (k'.trans k2)
end
end PL

/-! PL26: x += e of ints; divmod; a dict asked with a default; a dict of one's own stored into; a dict read. -/
namespace PL
open PySem PySem.Spec PyProof.Rows L2
theorem u1 {A : Around} {k : Nat} (r : Room k A) : A.units + 1 < cLine := by have := r.un; omega
section
variable {X : Cx} {W : WX} {g : Gc} {γ : G} {τ τ' τ1 τ2 : PS0} {σ : L2.St} {H H' H1 H2 : Hp} {A : Addr → Prop} {k k1 k2 k3 kr : Kd} {rk : Rk} {m m1 m2 m3 : Bool} {st : Stmt} {e a b c : Expr} {f fa fb fc : M D} {pos : Pos}
/-! ### x += e -/
def augI (i : Nat) (f : M D) : SM := fun τ => match τ[i]? with
  | some (.im (.int a)) => (match f τ with
    | .ok (.int b) τ1 => .nx (τ1.set i (.im (.int (a + b))))
    | .exc n τ1 => .exc n τ1
    | _ => .stuck)
  | _ => .stuck
/-! ### divmod -/
/-! ### dicts -/
theorem RepK.val {kvs : List (Key × V)} {es : List (Key × D)} {kk : Key} (h : RepK g H A kvs es) : (∀ d, getD' es kk = some d → ∃ v, valV kvs kk = some v ∧ Rep g H A v d) ∧ (getD' es kk = none → valV kvs kk = none) := by
  induction es generalizing kvs with
  | nil =>
    rcases h.un with ⟨rfl, _⟩ | ⟨_, _, _, _, _, _, z, _⟩
    · exact ⟨fun d z => (nomatch z), fun _ => rfl⟩
    · cases z
  | cons p es ih =>
    rcases h.un with ⟨_, z⟩ | ⟨k1, v1, d1, kvs', es', rfl, z, r, h'⟩
    · cases z
    · cases z
      by_cases hk : k1 = kk
      · subst hk
        have e1 : getD' ((k1, d1) :: es) k1 = some d1 := by unfold getD'; simp
        have e2 : valV ((k1, v1) :: kvs') k1 = some v1 := valV_pos (p := (k1, v1)) rfl
        rw [e1, e2]
        exact ⟨fun d z => by cases z; exact ⟨v1, rfl, r⟩, fun z => (nomatch z)⟩
      · have e1 : getD' ((k1, d1) :: es) kk = getD' es kk := by unfold getD'; simp [hk]
        have e2 : valV ((k1, v1) :: kvs') kk = valV kvs' kk := valV_neg (p := (k1, v1)) hk
        rw [e1, e2]
        exact ih h'
theorem keyD_v {d : D} {kk : Key} {v : V} (h : keyD d = some kk) (r : LRep g H A v d) : v = kV kk := by
  cases d with
  | int i => cases h; exact r.int
  | str s => cases h; exact r.str
  | _ => cases h
def asD : D → Option (List (Key × D))
  | .dK es => some es
  | _ => none
/-- d.get(k, x) -/
def getE (fa fk fx : M D) : M D := andThen fa fun x => andThen (lift (asD x)) fun es => andThen fk fun y => andThen (lift (keyD y)) fun kk => andThen fx fun z => ret ((getD' es kk).getD z)
theorem asD_v {d : D} {es : List (Key × D)} {v : V} (h : asD d = some es) (r : LRep g H A v d) : ∃ a kvs, v = .ref a ∧ H a = some (.dK kvs) ∧ RepK g H A kvs es := by
  cases d with
  | dK es' => cases h; obtain ⟨a, kvs, e, ha, ek, ra⟩ := r.dK; exact ⟨a, kvs, e, ha, ek, ra⟩
  | _ => cases h
theorem je_dget2 {apos : Pos} (hu : X.A.units + 1 < cLine) (ha : JE X W k1 m1 a fa) (hb : JE X W k2 m2 b fb) (hc : JE X W .im m3 c fc) (hm : M2 X a "get" apos b c pos := by exact ⟨rfl, rfl, rfl, rfl⟩) (hk : k1 ≠ .ln ∨ (m2 || m3) = false := by first | exact .inr rfl | exact .inl (by decide)) (hk2 : k2 ≠ .ln ∨ m3 = false := by first | exact .inr rfl | exact .inl (by decide)) :
    JE X W .im ((m1 || m2) || m3) (.Call (.Attribute a "get" apos) [b, c] [] pos) (getE fa fb fc) := (pe_dget2 hu ha hb hc hm).weak fun σ H Q ⟨γ, τ, R, h⟩ => by
  unfold getE at h
  rw [fit_bind] at h
  refine ⟨γ, τ, R, h.mono (fun d τ1 h x H1 s1 P1 => ?_) fun _ _ q => q⟩
  obtain ⟨R1, kp1, v1⟩ := P1.val
  rw [fit_bind, fit_lift] at h
  obtain ⟨es, ed, h⟩ := h
  obtain ⟨ad, kvs, rfl, hd, rk⟩ := asD_v ed v1.l
  refine ⟨ad, rfl, .inl ⟨kvs, .inl hd⟩, ?_⟩
  rw [fit_bind] at h
  refine ⟨γ, τ1, R1, h.mono (fun e τ2 h y H2 s2 P2 => ?_) fun _ _ q => q.pre kp1⟩
  obtain ⟨R2, kp2, v2⟩ := P2.val
  rw [fit_bind, fit_lift] at h
  obtain ⟨kk, ek, h⟩ := h
  rw [fit_bind] at h
  refine ⟨γ, τ2, R2, h.mono (fun z τ3 h w H3 s3 P3 => ?_) fun _ _ q => q.pre (kp1.trans kp2)⟩
  obtain ⟨R3, kp3, v3⟩ := P3
  have v1' := carry (k1 := k1) (m2 := m2 || m3) hk v1 (fun q => or_same s2 s3 q) (kp2.trans kp3)
  obtain ⟨ad', kvs', e', hd', rk'⟩ := asD_v ed v1'.l
  cases e'
  have ey : y = kV kk := keyD_v ek v2.l
  subst ey
  refine ⟨valV kvs' kk, DGet.k hd', ?_⟩
  have vv := rk'.val (kk := kk)
  refine h _ H3 (or_same (or_same s1 s2) s3) ⟨R3, (kp1.trans kp2).trans kp3, ?_⟩
  cases eg : getD' es kk with
  | none => rw [vv.2 eg]; exact v3
  | some dv =>
    obtain ⟨v, ev, rv⟩ := vv.1 _ eg
    rw [ev]
    exact rv
/-- d[k] -/
def dixE (fa fk : M D) : M D := andThen fa fun x => andThen fk fun y => andThen (lift (asD x)) fun es => andThen (lift (keyD y)) fun kk => lift (getD' es kk)
/-- x[k] = e, x a name that owns a dict -/
def oSetD : OMt
  | .dK es, [y, v] => if es.length < 16777216 then (keyD y).map fun kk => (.non, .dK (putD es kk v)) else none
  | _, _ => none
theorem js_dix (i : Nat) {x : Str} {px p3 : Pos} {fv fi : M D} {ei ev : Expr} (hu : X.A.units + 1 < cLine) (hv' : JE X W .im m1 ev fv) (hi' : JE X W .im m2 ei fi) (hN : X.N[i]? = some x := by rfl) (hv : Vis X.env.scope x := by first | exact Or.inl rfl | exact Or.inr (Or.inl rfl) | exact Or.inr (Or.inr rfl)) (hd : (x == ("__debug__" : Str)) = false := by decide) (hcd : (x == ("__classdict__" : Str)) = false := by decide)
    (hs : swapsWith ev (some (.Subscript (.Name x px) ei p3)) pos.line X.env = pure false := by rfl) :
    JS X W rk (.Assign [.Subscript (.Name x px) ei p3] ev pos) (stIx i fv fi oSetD) := (ps_dput hu (pe_var hN hv hd hcd) hi' hv' hs).weak fun Dn σ H ⟨γ, τ, R, q⟩ => by
  unfold stIx at q
  refine ⟨γ, τ, R, ?_⟩
  cases ef : fv τ with
  | stuck => rw [ef] at q; exact q.elim
  | exc n τ' => rw [ef] at q; exact XS.x q
  | ok d τ1 =>
    rw [ef] at q
    intro v H1 s1 P1
    obtain ⟨R1, kp1, r1⟩ := P1
    cases e1 : ownC τ1 i with
    | none => simp only [e1] at q; exact q.elim
    | some c1 =>
      simp only [e1] at q
      obtain ⟨a, s, hs, ho, hi, ct⟩ := R1.ownC e1
      refine ⟨.ref a, hi, γ, τ1, R1, ?_⟩
      cases ei' : fi τ1 with
      | stuck => simp only [ei'] at q; exact q.elim
      | exc n τ' => simp only [ei'] at q; exact (XS.x q).pre kp1
      | ok j τ2 =>
        simp only [ei'] at q
        intro iv H2 s2 P2
        obtain ⟨R2, kp2, r2⟩ := P2
        cases e2 : ownC τ2 i with
        | none => simp only [e2] at q; exact q.elim
        | some c2 =>
          simp only [e2] at q
          obtain ⟨a', s', hs', ho', hi'', ct'⟩ := R2.ownC e2
          have ea : a' = a := by rw [hi] at hi''; cases hi''; rfl
          subst ea
          cases eo : oSetD c2 [j, d] with
          | none => simp only [eo] at q; exact q.elim
          | some zc =>
            obtain ⟨z, c'⟩ := zc
            simp only [eo] at q
            unfold oSetD at eo
            split at eo
            · rename_i es yy vv heq
              cases heq
              split at eo
              · rename_i hz
                cases ek : keyD j with
                | none => rw [ek] at eo; cases eo
                | some kk =>
                  rw [ek] at eo
                  cases eo
                  cases ct' with
                  | @dK kvs _ hl hkk rl =>
                    rw [keyD_v ek (.inl r2)]
                    have oa : OwnAt τ2 σ H2 i a' := .of hs' ho' hi''
                    have hA : Av γ τ2 σ H2 a' := .inr ⟨i, oa⟩
                    have hlen : ∀ {kvs : List (Key × V)}, kvs.map (·.1) = es.map (·.1) → kvs.length < sizeLine := fun {kvs} q => by
                      have := congrArg List.length q
                      rw [List.length_map, List.length_map] at this
                      rw [this, sizeLine_eq]
                      exact hz
                    refine ⟨a', _, rfl, DPut.k hl (hlen hkk), ?_⟩
                    have rp : RepK X.g H2 (Av γ τ2 σ H2) _ es := ⟨hkk, rl⟩
                    have rp2 := (rp.put (k := kk) (r1.kp kp2.av)).kp (B := Av γ τ2 σ H2) (H' := upd H2 a' (.dK (putK kvs kk v))) fun b u e n => ⟨by rw [upd_ne (fun z => by rw [z] at n; exact n hA)]; exact e, n⟩
                    obtain ⟨R', k'⟩ := R2.put hs' ho' oa upd_keep (Cont.dK upd_same rp2.k rp2.v)
                    unfold putC at q
                    rw [hs'] at q
                    exact q σ _ R' ((kp1.trans kp2).trans k')
              · cases eo
            · cases eo
end
end PL

/-! PL27: min, max, sorted of lists of data, in Python's order. -/
namespace PL
open PySem PySem.Spec PyProof.Rows L2
/-! ### the order, over our data -/
/-! ### min(xs), max(xs) -/
section
variable {X : Cx}
end
section
variable {g : Gc} {H H' : Hp} {A : Addr → Prop}
end
/-! ### sorted(xs) -/
section
variable {X : Cx}
end
end PL

/-! PL28: a list of one's own is walked, and stays one's own: for the while its slot has a fixed place. -/
namespace PL
open PySem PySem.Spec PyProof.Rows L2
def noMu : Slot → Bool
  | .mu _ => false
  | .mb _ => false
  | _ => true
section
variable {X : Cx} {W : WX} {g : Gc} {γ : G} {τ τ' τ1 τ2 : PS0} {σ σ' : L2.St} {H H' : Hp} {a p : Addr} {d : D} {v : V} {rk : Rk} {st : Stmt} {f : SM} {i : Nat}
theorem ownAt_pin {j : Nat} {s t : Slot} (hs : τ[i]? = some s) (h1 : s.isSim = true) (h2 : t.isSim = true) : OwnAt (τ.set i t) σ H j a ↔ OwnAt τ σ H j a := by
  have hl : i < τ.length := (List.getElem?_eq_some_iff.mp hs).1
  unfold OwnAt
  by_cases hj : j = i
  · subst hj
    rw [List.getElem?_set_self hl, hs]
    exact ⟨fun ⟨u, v, e, q, f⟩ => by cases e; exact ⟨s, v, rfl, q, (Slot.foot_sim h1).mpr ((Slot.foot_sim h2).mp f)⟩, fun ⟨u, v, e, q, f⟩ => by cases e; exact ⟨t, v, rfl, q, (Slot.foot_sim h2).mpr ((Slot.foot_sim h1).mp f)⟩⟩
  · rw [List.getElem?_set_ne (Ne.symm hj)]
theorem own_pin {s t : Slot} (hs : τ[i]? = some s) (h1 : s.isSim = true) (h2 : t.isSim = true) : Own (τ.set i t) σ H a ↔ Own τ σ H a := ⟨fun ⟨j, h⟩ => ⟨j, (ownAt_pin hs h1 h2).mp h⟩, fun ⟨j, h⟩ => ⟨j, (ownAt_pin hs h1 h2).mpr h⟩⟩
theorem noMu_at (h : τ.all noMu = true) {j : Nat} {d : D} (e : τ[j]? = some (.mu d)) : False := by
  have := List.all_eq_true.mp h _ (List.mem_of_getElem? e)
  cases this
theorem noMb_at (h : τ.all noMu = true) {j : Nat} {d : D} (e : τ[j]? = some (.mb d)) : False := by
  have := List.all_eq_true.mp h _ (List.mem_of_getElem? e)
  cases this
theorem Rel.pin (R : Rel g γ τ σ H) (h : τ[i]? = some (.ow d)) (hm : τ.all noMu = true) : ∃ a, Rel g ⟨γ.P, a, γ.B⟩ (τ.set i (.mu d)) σ H := by
  have hl : i < τ.length := (List.getElem?_eq_some_iff.mp h).1
  obtain ⟨a, ea, ca⟩ := R.ow i d h
  have av : ∀ b, Av ⟨γ.P, a, γ.B⟩ (τ.set i (.mu d)) σ H b → Av γ τ σ H b := fun b q => q.elim .inl fun z => .inr ((own_pin h rfl rfl).mp z)
  have kA : Kp (Av γ τ σ H) H (Av ⟨γ.P, a, γ.B⟩ (τ.set i (.mu d)) σ H) H := Kp.less av
  refine ⟨a, by rw [List.length_set]; exact R.len, fun j e hj => ?_, fun j e hj => ?_, fun j e hj => ?_, fun j e hj => ?_, fun j e hj => ?_, fun j l b h1 h2 => R.inj j l b ((ownAt_pin h rfl rfl).mp h1) ((ownAt_pin h rfl rfl).mp h2), fun b hb => ⟨(R.pal b hb).1, fun z => (R.pal b hb).2 ((own_pin h rfl rfl).mp z)⟩⟩
  · have ne : j ≠ i := fun z => by
      subst z
      rw [List.getElem?_set_self hl] at hj
      cases hj
    rw [List.getElem?_set_ne (Ne.symm ne)] at hj
    obtain ⟨v, e1, r⟩ := R.im j e hj
    exact ⟨v, e1, r.kp kA⟩
  · have ne : j ≠ i := fun z => by
      subst z
      rw [List.getElem?_set_self hl] at hj
      cases hj
    rw [List.getElem?_set_ne (Ne.symm ne)] at hj
    obtain ⟨b, e1, c⟩ := R.ow j e hj
    exact ⟨b, e1, c.mono kA rfl⟩
  · by_cases ne : j = i
    · subst ne
      rw [List.getElem?_set_self hl] at hj
      cases hj
      exact ⟨ea, ca.mono kA rfl⟩
    · rw [List.getElem?_set_ne (Ne.symm ne)] at hj
      exact (noMu_at hm hj).elim
  · have ne : j ≠ i := fun z => by
      subst z
      rw [List.getElem?_set_self hl] at hj
      cases hj
    rw [List.getElem?_set_ne (Ne.symm ne)] at hj
    obtain ⟨v, e1, c⟩ := R.bx j e hj
    exact ⟨v, e1, c.mono kA fun _ _ _ _ _ q => q⟩
  · have ne : j ≠ i := fun z => by
      subst z
      rw [List.getElem?_set_self hl] at hj
      cases hj
    rw [List.getElem?_set_ne (Ne.symm ne)] at hj
    exact (noMb_at hm hj).elim
theorem Kp.pin {O : Addr → Prop} {s t : Slot} (hs : τ[i]? = some s) (h1 : s.isSim = true) (h2 : t.isSim = true) (k : Kp O H (Own τ σ H') H') : Kp O H (Own (τ.set i t) σ H') H' := fun b o e n => ⟨(k b o e n).1, fun z => (k b o e n).2 ((own_pin hs h1 h2).mp z)⟩
theorem Kp.pre {O' : Addr → Prop} {s t : Slot} (hs : τ[i]? = some s) (h1 : s.isSim = true) (h2 : t.isSim = true) (k : Kp (Own (τ.set i t) σ H) H O' H') : Kp (Own τ σ H) H O' H' := fun b o e n => k b o e fun z => n ((own_pin hs h1 h2).mp z)
open Classical in
end
end PL

/-! PL29: index, count of lists; index of a tuple of the module; find of texts. -/
namespace PL
open PySem PySem.Spec PyProof.Rows L2
section
variable {X : Cx} {W : WX} {g : Gc} {γ : G} {τ : PS0} {σ : L2.St} {H H' : Hp} {A : Addr → Prop} {k k1 k2 kr : Kd} {m m1 m2 : Bool} {a b : Expr} {fa fb : M D} {pos : Pos}
/-! ### a method of a list, one argument, the list stays -/
/-! ### a tuple of texts of the module -/
structure GT (g : Gc) (x : Str) (ss : List (List Nat)) : Prop where
  ex : ∃ (c : Addr) (its : Array Value) (n : Nat) (sl : Array (Option Value)), g.mg x = some (.ref c) ∧ g.K.lookup c = some ⟨.type "tuple", none, .seq its n, sl⟩ ∧ its.size ≤ sizeLine ∧ Vals (ss.map fun s => V.str (S s)) its.toList
/-! ### s.find(t) -/
end
section
variable {K : PySem.W.Frag} {mg : Str → Option Value}
end
end PL

/-! PL30: d.update(e), d.clear() of a dict of one's own. -/
namespace PL
open PySem PySem.Spec PyProof.Rows L2
section
variable {X : Cx} {g : Gc}
end
end PL

/-! PL31: dicts that are alike (whole numbers as values), compared. -/
namespace PL
open PySem PySem.Spec PyProof.Rows L2
section
variable {X : Cx} {g : Gc}
def sameV : D → Option D → Bool
  | .int i, some (.int j) => i == j
  | _, _ => false
def sameK (es fs : List (Key × D)) : Bool := es.length == fs.length && es.all fun p => sameV p.2 (getD' fs p.1)
def oEqK : D → D → Option D
  | .dK es, .dK fs => if sameK es fs = true then some (.bl true) else none
  | _, _ => none
def oNeK : D → D → Option D
  | .dK es, .dK fs => if sameK es fs = true then some (.bl false) else none
  | _, _ => none
theorem repK_mem {H : Hp} {A : Addr → Prop} : ∀ {es : List (Key × D)} {kvs : List (Key × V)}, RepK g H A kvs es → ∀ p ∈ kvs, ∃ d, (p.1, d) ∈ es ∧ Rep g H A p.2 d
  | [], kvs, h, p, hp => by
    rcases h.un with ⟨rfl, _⟩ | ⟨_, _, _, _, _, _, z, _⟩
    · cases hp
    · cases z
  | q :: es, kvs, h, p, hp => by
    rcases h.un with ⟨_, z⟩ | ⟨k1, v1, d1, kvs', es', rfl, z, r, h'⟩
    · cases z
    · cases z
      rcases List.mem_cons.mp hp with rfl | hp
      · exact ⟨d1, List.mem_cons_self, r⟩
      · obtain ⟨d, hd, rd⟩ := repK_mem h' p hp
        exact ⟨d, List.mem_cons_of_mem _ hd, rd⟩
theorem core_K {H : Hp} {A : Addr → Prop} {x y : V} {es fs : List (Key × D)} (rx : LRep g H A x (.dK es)) (ry : LRep g H A y (.dK fs)) (hs : sameK es fs = true) :
    ∃ a b ks ls, x = .ref a ∧ y = .ref b ∧ H a = some (.dK ks) ∧ H b = some (.dK ls) ∧ ks.length = ls.length ∧ ∀ p ∈ ks, valV ls p.1 = some p.2 ∧ flatB p.2 = true := by
  obtain ⟨a, ks, rfl, ha, ka, ra⟩ := rx.dK
  obtain ⟨b, ls, rfl, hb, kb, rb⟩ := ry.dK
  unfold sameK at hs
  rw [Bool.and_eq_true, beq_iff_eq] at hs
  have e1 := congrArg List.length ka
  have e2 := congrArg List.length kb
  rw [List.length_map, List.length_map] at e1 e2
  refine ⟨a, b, ks, ls, rfl, rfl, ha, hb, by omega, fun p hp => ?_⟩
  obtain ⟨d, hd, rd⟩ := repK_mem (g := g) (A := A) (H := H) (⟨ka, ra⟩ : RepK g H A ks es) p hp
  have hv := List.all_eq_true.mp hs.2 _ hd
  cases d with
  | int i =>
    cases eg : getD' fs p.1 with
    | none => rw [eg] at hv; cases hv
    | some f =>
      rw [eg] at hv
      cases f with
      | int j =>
        have hij : i = j := by simpa [sameV] using hv
        subst hij
        obtain ⟨v, ev, rv⟩ := (RepK.val (kk := p.1) (⟨kb, rb⟩ : RepK g H A ls fs)).1 _ eg
        rw [LRep.int (.inl rd), ev, LRep.int (.inl rv)]
        exact ⟨rfl, rfl⟩
      | _ => cases hv
  | _ => cases hv
theorem o2_eqK : Op2 .im g rEqDA oEqK := fun H A x y d e z Q hA rx ry ho q => by
  unfold oEqK at ho
  split at ho
  · split at ho
    · rename_i hz
      cases ho
      obtain ⟨a, b, ks, ls, rfl, rfl, h1, h2, h3, h4⟩ := core_K rx ry hz
      exact ⟨a, b, ks, ls, rfl, rfl, h1, h2, h3, h4, q _ _ (out_flat fun _ _ => .bl _)⟩
    · cases ho
  · cases ho
theorem o2_neK : Op2 .im g rNeDA oNeK := fun H A x y d e z Q hA rx ry ho q => by
  unfold oNeK at ho
  split at ho
  · split at ho
    · rename_i hz
      cases ho
      obtain ⟨a, b, ks, ls, rfl, rfl, h1, h2, h3, h4⟩ := core_K rx ry hz
      exact ⟨a, b, ks, ls, rfl, rfl, h1, h2, h3, h4, q _ _ (out_flat fun _ _ => .bl _)⟩
    · cases ho
  · cases ho
end
end PL

/-! PL32: t[::-1] of a tuple. -/
namespace PL
open PySem PySem.Spec PyProof.Rows L2
section
variable {prog : Program} {w : World} {A : Around} {E : Value → Shared → Prop} {s : Shared}
end
section
variable {X : Cx} {W : WX} {g : Gc} {k : Kd} {m : Bool} {e : Expr} {f : M D} {pos : Pos}
end
end PL

/-! PL33: promises of defs that are called with no repr under way. -/
namespace PL
open PySem PySem.Spec PyProof.Rows L2
/-- a promise at a call with nothing under way -/
structure FnG (P : Program) (w : World) (K : PySem.W.Frag) (mg : Str → Option Value) (base : Heap) (CX : CXT) (k : Nat) (f : Addr) (fd : FuncData) (ps : List Str) (sp : Sp) : Prop where
  len : ∀ vs H Q E, sp vs H Q E → vs.length = ps.length
  run : ∀ (A : Around) (outer : List Env) (s : Shared) (H : Hp) (args : Args) (us : List Value) (vs : List V) (Q : VK) (E : XK), Room k A → A.guards = some [] → Env0 P w K mg base A outer s H → BindsTo s fd args (ps.zip us) → Vals vs us → sp vs H Q E →
    codeAny (model P w) A (.call (.ref f) args) (CR CX outer P w H s Q E) s
section
variable {P : Program} {w : World} {K : PySem.W.Frag} {mg : Str → Option Value} {base : Heap}
theorem FnG.mono {CX : CXT} {j k : Nat} {f : Addr} {fd : FuncData} {ps : List Str} {sp : Sp} (F : FnG P w K mg base CX j f fd ps sp) (h : j ≤ k) : FnG P w K mg base CX k f fd ps sp :=
  ⟨F.len, fun A outer s H args us vs Q E hr => F.run A outer s H args us vs Q E (hr.mono h)⟩
end
section
variable {X : Cx} {CX : CXT} {k : Nat} {f : Addr} {fd : FuncData} {ps : List Str} {sp : Sp} {E : L2.St → XK} {x : Str} {p pos : Pos} {e : Expr} {es : List Expr} {t : TA}
end
section
variable {X : Cx} {W : WX} {g : Gc} {kr : Kd} {m : Bool} {e : Expr} {es : List Expr} {fs : M (List D)} {pos : Pos}
end
section
variable {P : Program} {w : World} {K : PySem.W.Frag} {mg : Str → Option Value} {base : Heap}
end
/-! ### the law's def, called -/
section
variable {P : Program} {w : World} {K : PySem.W.Frag} {mg mb : Str → Option Value} {CX : CXT} {k : Nat} {fa a : Addr} {fd : FuncData} {x : Str} {sp : Sp} {s₁ : Shared} {vs : List Value} {ns : List Int}
end
end PL

/-! PL34: repr of data, dicts within, where nothing is under way. -/
namespace PL
open PySem PySem.Spec PyProof.Rows L2
def kOk : Key → Bool
  | .inl i => decide (i.natAbs.log2 < 1920)
  | .inr _ => true
mutual
def rp : D → Bool
  | .non => true
  | .bl _ => true
  | .str _ => true
  | .int i => decide (i.natAbs.log2 < 1920)
  | .lst xs => rpA xs
  | .tup xs => rpA xs
  | .dK es => rpK es
  | _ => false
def rpA : List D → Bool
  | [] => true
  | x :: xs => rp x && rpA xs
def rpK : List (Key × D) → Bool
  | [] => true
  | (k, d) :: es => kOk k && rp d && rpK es
end
section
variable {X : Cx} {pins : List (Addr × Obj)} {σ : L2.St} {H : Hp} {s : Shared} {A : Addr → Prop}
end
/-! ### repr(x) -/
section
variable {X : Cx}
end
end PL

/-! PL35: what is known of a def that is called with nothing under way. -/
namespace PL
open PySem PySem.Spec PyProof.Rows L2
section
variable {P : Program} {w : World} {K : PySem.W.Frag} {mg : Str → Option Value} {base : Heap}
structure KnG (P : Program) (w : World) (K : PySem.W.Frag) (mg : Str → Option Value) (base : Heap) (x : Str) (ps : List Str) (f : Addr) (fd : FuncData) (k : Nat) (sp : Sp) : Prop where
  g : mg x = some (.ref f)
  kp : PySem.W.keepIn K (.ref f) = true
  b : Binds K fd ps []
  ok : FnG P w K mg base (L2.CX P w) k f fd ps sp
theorem FnG.imp {CX : CXT} {k : Nat} {f : Addr} {fd : FuncData} {ps : List Str} {sp sp' : Sp} (F : FnG P w K mg base CX k f fd ps sp) (h : ∀ vs H Q E, sp' vs H Q E → sp vs H Q E) : FnG P w K mg base CX k f fd ps sp' :=
  ⟨fun vs H Q E q => F.len vs H Q E (h _ _ _ _ q), fun A outer s H args us vs Q E hr hg he hb hv hs => F.run A outer s H args us vs Q E hr hg he hb hv (h _ _ _ _ hs)⟩
end
section
variable {g : Gc}
end
end PL

/-! PL36: lists of unlike lengths compared, whatever they hold. -/
namespace PL
open PySem PySem.Spec PyProof.Rows L2
section
variable {X : Cx} {g : Gc}
end
end PL

/-! PL37: dict displays that leave the heap. -/
namespace PL
open PySem PySem.Spec PyProof.Rows L2
section
variable {g : Gc} {H H' : Hp} {A B : Addr → Prop}
variable {X : Cx} {W : WX} {pos : Pos} {ks : List (Option Expr)} {vs : List Expr} {f : M (List (D × D))} {fk fv : M D} {m m1 m2 : Bool} {k v : Expr}
theorem je_dictM (h : JP X W m pos ks vs f) (hall : ks.all (·.isSome) = true := by rfl) (hl : ks.length = vs.length := by rfl) (h0 : ks ≠ [] := by simp) (h15 : ks.length ≤ 15 := by decide) : JE X W .fr m (.Dict ks vs pos) (dispE f) := by
  obtain ⟨trs, pp, w⟩ := h.ex
  refine (pe_disp pp hall hl h0 h15).weak fun σ H Q ⟨γ, τ, R, h⟩ p hp => ?_
  unfold dispE at h
  rw [fit_bind] at h
  have sm : Same H (upd H p (.dK [])) := fun b u e => by
    rw [upd_ne (ne_of_none e hp)]
    exact e
  have R0 : Rel X.g (γ.with p) τ σ (upd H p (.dK [])) := R.newS hp sm ⟨_, upd_same, fun _ z => nomatch z⟩
  have k0 : Kp (Own τ σ H) H (Own τ σ (upd H p (.dK []))) (upd H p (.dK [])) := R.kpS sm
  refine w σ _ _ ⟨γ.with p, τ, R0, h.mono (fun ps τ1 h vs H1 s1 R1 kp1 a b => ?_) fun n τ1 q H1 R1 kp1 c hc => q H1 R1.drop (k0.trans kp1) c hc⟩
  obtain ⟨z, ez, h⟩ := fit_lift.mp h
  unfold oDisp at ez
  split at ez
  · rename_i hz
    cases er : keysD ps with
    | none => rw [er] at ez; cases ez
    | some r =>
      rw [er] at ez
      cases ez
      obtain ⟨kvs, e, rk, hlen⟩ := keys_of a b er
      have nO : ¬ Own τ σ (upd H p (.dK [])) p := (R0.pal p (.inr rfl)).2
      have e1 : H1 p = some (.dK []) := (kp1 p _ upd_same nO).1
      refine ⟨e1, kvs, e, by rw [hlen]; exact hz, ?_⟩
      have R2 : Rel X.g (γ.with p) τ1 σ (upd H1 p (.dK (mergeK [] kvs))) := R1.updP (.inr rfl)
      have kA : Kp (Av (γ.with p) τ1 σ H1) H1 (Av (γ.with p) τ1 σ (upd H1 p (.dK (mergeK [] kvs)))) (upd H1 p (.dK (mergeK [] kvs))) := fun b u e n => ⟨by rw [upd_ne (fun q => n (.inl (.inr q)))]; exact e, fun z => n (z.imp id (R1.own_updP (.inr rfl)).mp)⟩
      have rm := (RepK.merge rk (kvs := []) (ds := []) .nil).kp kA
      refine h (.ref p) _ (fun z b u e => by
        have hb : b ≠ p := ne_of_none e hp
        rw [upd_ne hb]
        exact s1 z b u (by rw [upd_ne hb]; exact e)) ⟨p, rfl, R2, fun q => ?_, fun b u e n => ?_, .dK upd_same rm.k rm.v⟩
      · obtain ⟨u, e⟩ := (R.pal p q).1.ex
        rw [hp] at e
        cases e
      · have hb : b ≠ p := ne_of_none e hp
        obtain ⟨q1, q2⟩ := kp1 b u (by rw [upd_ne hb]; exact e) fun z => n ((R.own_same sm).mp z)
        exact ⟨by rw [upd_ne hb]; exact q1, fun z => z.elim (fun y => q2 ((R1.own_updP (.inr rfl)).mp y)) hb⟩
  · cases ez
end
end PL

/-! PL38: what one owns is held as a fixed value from here on. -/
namespace PL
open PySem PySem.Spec PyProof.Rows L2
section
variable {X : Cx} {W : WX} {g : Gc} {γ : G} {τ τ' : PS0} {σ : L2.St} {H : Hp} {rk : Rk} {st : Stmt} {f : SM}
def frzO (i : Nat) (τ : PS0) : Option PS0 := match τ[i]? with
  | some (.ow d) => some (τ.set i (.im d))
  | _ => none
def frzS (i : Nat) (f : SM) : SM := fun τ => match f τ with
  | .nx τ' => (match frzO i τ' with
    | some τ2 => .nx τ2
    | none => .stuck)
  | r => r
theorem Rel.frz (R : Rel g γ τ σ H) {i : Nat} {d : D} (h : τ[i]? = some (.ow d)) : Rel g γ (τ.set i (.im d)) σ H ∧ Kp (Own τ σ H) H (Own (τ.set i (.im d)) σ H) H := by
  obtain ⟨a, ea, c⟩ := R.ow i d h
  have hl : i < σ.length := (List.getElem?_eq_some_iff.mp ea).1
  have e : σ.set i (some (.ref a)) = σ := by
    apply List.ext_getElem?
    intro j
    by_cases hj : j = i
    · subst hj
      rw [List.getElem?_set_self hl, ea]
    · rw [List.getElem?_set_ne (Ne.symm hj)]
  have oi : OwnAt τ σ H i a := .of h rfl ea
  have less : ∀ b, Av γ (τ.set i (.im d)) (σ.set i (some (.ref a))) H b → Av γ τ σ H b := fun b z => z.elim .inl fun z => .inr (own_set_sub rfl z)
  have na : ¬ Av γ (τ.set i (.im d)) (σ.set i (some (.ref a))) H a := fun z => by
    rcases z with z | ⟨j, s, v, hs, hj, ho⟩
    · exact (R.pal a z).2 ⟨i, oi⟩
    · by_cases q : j = i
      · subst q
        rw [List.getElem?_set_self (List.getElem?_eq_some_iff.mp h).1] at hs
        cases hs
        exact ho
      · rw [List.getElem?_set_ne (Ne.symm q)] at hs
        rw [List.getElem?_set_ne (Ne.symm q)] at hj
        exact q (R.inj j i a ⟨s, v, hs, hj, ho⟩ oi)
  have r : Rep g H (Av γ (τ.set i (.im d)) (σ.set i (some (.ref a))) H) (.ref a) d := by
    cases c with
    | lst hH ra => exact .lst hH na (ra.kp (Kp.less less))
    | dK hH hk ra => exact .dK hH na hk (ra.kp (Kp.less less))
    | dT hH hk ra => exact .dT hH na hk (ra.kp (Kp.less less))
  have := R.setNo i (.im d) (some (.ref a)) rfl fun d' q => by
    cases q
    exact ⟨.ref a, rfl, r⟩
  rw [e] at this
  exact this
end
end PL

/-! PL39: defs that are called whatever error is handled (within an except suite). -/
namespace PL
open PySem PySem.Spec PyProof.Rows L2
open L2H (RoomH)
/-- a promise, whatever is handled -/
structure FnA (P : Program) (w : World) (K : PySem.W.Frag) (mg : Str → Option Value) (base : Heap) (CX : CXT) (k : Nat) (f : Addr) (fd : FuncData) (ps : List Str) (sp : Sp) : Prop where
  len : ∀ vs H Q E, sp vs H Q E → vs.length = ps.length
  run : ∀ (A : Around) (outer : List Env) (s : Shared) (H : Hp) (args : Args) (us : List Value) (vs : List V) (Q : VK) (E : XK), RoomH k A → Env0 P w K mg base A outer s H → BindsTo s fd args (ps.zip us) → Vals vs us → sp vs H Q E →
    codeAny (model P w) A (.call (.ref f) args) (CR CX outer P w H s Q E) s
section
variable {P : Program} {w : World} {K : PySem.W.Frag} {mg : Str → Option Value} {base : Heap}
structure KnA (P : Program) (w : World) (K : PySem.W.Frag) (mg : Str → Option Value) (base : Heap) (x : Str) (ps : List Str) (f : Addr) (fd : FuncData) (k : Nat) (sp : Sp) : Prop where
  g : mg x = some (.ref f)
  kp : PySem.W.keepIn K (.ref f) = true
  b : Binds K fd ps []
  ok : FnA P w K mg base (L2.CX P w) k f fd ps sp
end
section
variable {X : Cx} {CX : CXT} {k : Nat} {f : Addr} {fd : FuncData} {ps : List Str} {sp : Sp} {E : L2.St → XK} {x : Str} {p pos : Pos} {e : Expr} {es : List Expr} {t : TA}
end
section
variable {X : Cx} {W : WX} {g : Gc} {kr : Kd} {m : Bool} {e : Expr} {es : List Expr} {fs : M (List D)} {pos : Pos}
end
section
variable {P : Program} {w : World} {K : PySem.W.Frag} {mg : Str → Option Value} {base : Heap}
end
end PL

/-! PL40: a dict is no list. -/
namespace PL
open PySem PySem.Spec PyProof.Rows L2
open PySem.SeqAt PySem.AutoSeq1
section
variable {X : Cx} {g : Gc}
end
end PL

/-! PL41: str of an error made with a text. -/
namespace PL
open PySem PySem.Spec PyProof.Rows L2
theorem u2 {X : Cx} {k : Nat} (r : Room k X.A) : X.A.units + 2 < cLine := by have := u65 r; omega
section
variable {X : Cx} {W : WX} {m : Bool} {x : Str} {a : Expr} {te : TE} {C : Addr} {p0 p1 p2 p3 : Pos} {k : Kd} {fa : M D}
/-- the text that it was made with -/
def strX (fa : M D) : M D := andThen fa fun d => lift (match d with | .str s => some (.str s) | _ => none)
end
end PL

/-! PL42: len(set(xs)), xs unlike tuples of whole numbers. -/
namespace PL
open PySem PySem.Spec PyProof.Rows L2
section
variable {X : Cx} {W : WX} {g : Gc} {H : Hp} {A : Addr → Prop} {m : Bool} {k : Kd} {a : Expr} {fa : M D} {p p2 q pos : Pos} {te : TE}
end
end PL

/-! PL43: range with a step upwards. -/
namespace PL
open PySem PySem.Spec PyProof.Rows L2
def stepD (lo c : Int) (n : Nat) : List D := (List.range n).map fun (i : Nat) => D.int (lo + (i : Nat) * c)
def oRange3 : List D → Option (List D)
  | [.int i, .int j, .int c] => if c ≠ 0 ∧ c.natAbs < 1073741824 ∧ Builtin.Range.small i j c = true ∧ 0 ≤ Builtin.Range.rangeSize i j c then some (stepD i c (Builtin.Range.rangeSize i j c).toNat) else none
  | _ => none
def rng3A (fs : M (List D)) : M (List D) := andThen fs fun ds => lift (oRange3 ds)
section
variable {X : Cx} {W : WX} {g : Gc} {m : Bool} {a b c tg : Expr} {fs : M (List D)} {pos p : Pos}
end
end PL

/-! PL44: lists of the same things, dicts among them, compared by !=. -/
namespace PL
open PySem PySem.Spec PyProof.Rows L2
open PySem.SeqAt PySem.AutoSeq1 PySem.MeetsSeq PySem.MeetsSeq2 PySem.MeetsSeq3
section
variable {prog : Program} {w : World}
end
section
variable {X : Cx} {g : Gc} {pins : List (Addr × Obj)} {σ : L2.St} {H : Hp} {s : Shared}
end
end PL

/-! PL45: dicts that are locked for good, walked; dicts by tuples; dict(a list of pairs); list(d.values()). -/
namespace PL
open PySem PySem.Spec PyProof.Rows L2
/-! ### locked behind a statement -/
section
variable {X : Cx} {W : WX} {g : Gc} {γ : G} {τ τ' : PS0} {σ : L2.St} {H : Hp} {rk : Rk} {st : Stmt} {f : SM} {t : TS}
def lckD : D → Option D
  | .dK es => some (.fk es)
  | .dT es => some (.ft es)
  | _ => none
def lckO (i : Nat) (τ : PS0) : Option PS0 := match τ[i]? with
  | some (.ow d) => (lckD d).map fun e => τ.set i (.im e)
  | _ => none
def lckS (i : Nat) (f : SM) : SM := fun τ => match f τ with
  | .nx τ' => (match lckO i τ' with
    | some τ2 => .nx τ2
    | none => .stuck)
  | r => r
end
/-! ### walked -/
def keyO : Key → D
  | .inl i => .int i
  | .inr x => .str x.cps.toList
def oIterK : D → Option (List D)
  | .fk es => some (es.map fun kv => keyO kv.1)
  | .ft es => some (es.map fun kv => .tup (kv.1.map keyO))
  | _ => none
def iterK (f : M D) : M (List D) := andThen f fun d => lift (oIterK d)
section
variable {g : Gc} {H : Hp} {A : Addr → Prop}
theorem rep_kV {k : Key} : Rep g H A (kV k) (keyO k) := by
  cases k with
  | inl i => exact .int i
  | inr x =>
    have := Rep.str (g := g) (H := H) (Av := A) x.cps.toList
    rw [S_of] at this
    exact this
theorem rep_kVs : ∀ {ks : List Key}, RepA g H A (ks.map kV) (ks.map keyO)
  | [] => .nil
  | _ :: _ => .cons rep_kV rep_kVs
theorem fst_get {α β γ : Type} {xs : List (α × β)} {es : List (α × γ)} (h : xs.map (·.1) = es.map (·.1)) (i : Nat) : (xs[i]?).map (·.1) = (es[i]?).map (·.1) := by
  rw [← List.getElem?_map, ← List.getElem?_map, h]
theorem good_keys {a : Addr} {o : Obj} {kvs : List (Key × V)} {es : List (Key × D)} (hk : kvs.map (·.1) = es.map (·.1)) : ItGood g (Itk a o kvs) (fun H A => H a = some (.frz o (.dK kvs)) ∧ ¬ A a) (es.map fun kv => keyO kv.1) := fun i H A ⟨ha, n⟩ hA => by
  have hl : kvs.length = es.length := by simpa using congrArg List.length hk
  refine ⟨fun d hd => ?_, fun hz => ⟨ha, by rw [List.length_map] at hz; omega⟩⟩
  rw [List.getElem?_map] at hd
  cases e : es[i]? with
  | none => rw [e] at hd; cases hd
  | some p =>
    rw [e] at hd
    cases hd
    have hi := (List.getElem?_eq_some_iff.mp e).1
    refine ⟨⟨ha, by omega⟩, fun x H' ⟨eh, k, v, ek, ex⟩ => ?_⟩
    subst eh
    subst ex
    have := fst_get hk i
    rw [ek, e] at this
    cases this
    exact ⟨Same.refl _, rep_kV⟩
theorem good_keysT {a : Addr} {o : Obj} {kvs : List (List Key × V)} {es : List (List Key × D)} (hk : kvs.map (·.1) = es.map (·.1)) : ItGood g (Itkt a o kvs) (fun H A => H a = some (.frz o (.dT kvs)) ∧ ¬ A a) (es.map fun kv => .tup (kv.1.map keyO)) := fun i H A ⟨ha, n⟩ hA => by
  have hl : kvs.length = es.length := by simpa using congrArg List.length hk
  refine ⟨fun d hd => ?_, fun hz => ⟨ha, by rw [List.length_map] at hz; omega⟩⟩
  rw [List.getElem?_map] at hd
  cases e : es[i]? with
  | none => rw [e] at hd; cases hd
  | some p =>
    rw [e] at hd
    cases hd
    have hi := (List.getElem?_eq_some_iff.mp e).1
    refine ⟨⟨ha, by omega⟩, fun x H' ⟨eh, k, v, q, ek, ex, eq⟩ => ?_⟩
    subst eh
    subst ex
    have := fst_get hk i
    rw [ek, e] at this
    cases this
    refine ⟨Same.refl _, .tup ⟨eq, fun z => ?_⟩ rep_kVs⟩
    obtain ⟨u, eu, nu⟩ := hA q z
    rw [eq] at eu
    cases eu
    exact nu _ rfl
end
section
variable {X : Cx} {W : WX} {g : Gc} {γ : G} {τ τ' τ1 τ2 : PS0} {σ σ' σ1 : L2.St} {H H' H1 H2 : Hp} {A : Addr → Prop} {p : Addr} {v x y : V} {d : D} {k k1 k2 k3 kr : Kd} {rk : Rk} {m m1 m2 m3 : Bool} {e e1 e2 a b c tg iter : Expr} {es rest : List Expr} {f fa fb fc : M D} {pos : Pos}
theorem lasts_frz {a : Addr} {u : HO} : Lasts (fun H A => H a = some u ∧ ¬ A a) := fun H A H2 A2 ⟨ha, n⟩ k => k a _ ha n
theorem ji_keys (he : JE X W .im m iter f) : JI X W m tg iter (iterK f) := PI.weak (pi_keys he) fun σ H R ⟨γ, τ, Re, h⟩ => by
  unfold iterK at h
  rw [fit_bind] at h
  refine ⟨γ, τ, Re, h.mono (fun d τ1 h v H1 s1 P1 => ?_) fun _ _ q => q⟩
  obtain ⟨ds, ed, h⟩ := fit_lift.mp h
  obtain ⟨R1, kp1, r1⟩ := P1
  cases r1 with
  | fk hf n hk ra =>
    cases ed
    obtain ⟨o, ha⟩ := hf
    exact ⟨_, o, rfl, .inl ⟨_, ha, h _ H1 _ s1 R1 kp1 ⟨ha, n⟩ lasts_frz (good_keys hk)⟩⟩
  | ft hf n hk ra =>
    cases ed
    obtain ⟨o, ha⟩ := hf
    exact ⟨_, o, rfl, .inr ⟨_, ha, h _ H1 _ s1 R1 kp1 ⟨ha, n⟩ lasts_frz (good_keysT hk)⟩⟩
  | _ => cases ed
/-! ### looked up -/
def keysT : List D → Option (List Key)
  | [] => some []
  | d :: r => (keyD d).bind fun k => (keysT r).map (k :: ·)
def keyT : D → Option (List Key)
  | .tup xs => keysT xs
  | _ => none
def getT (es : List (List Key × D)) (k : List Key) : Option D := (es.find? fun kv => decide (kv.1 = k)).map (·.2)
def putT (es : List (List Key × D)) (k : List Key) (d : D) : List (List Key × D) :=
  if (es.any fun kv => decide (kv.1 = k)) = true then es.map (fun kv => if kv.1 = k then (kv.1, d) else kv) else es ++ [(k, d)]
structure RepT (g : Gc) (H : Hp) (A : Addr → Prop) (kvs : List (List Key × V)) (es : List (List Key × D)) : Prop where
  k : kvs.map (·.1) = es.map (·.1)
  v : RepA g H A (kvs.map (·.2)) (es.map (·.2))
theorem RepT.nil : RepT g H A [] [] := ⟨rfl, .nil⟩
theorem RepT.cons {k : List Key} {v : V} {d : D} {kvs : List (List Key × V)} {es : List (List Key × D)} (r : Rep g H A v d) (h : RepT g H A kvs es) : RepT g H A ((k, v) :: kvs) ((k, d) :: es) :=
  ⟨by rw [List.map_cons, List.map_cons, h.k], .cons r h.v⟩
theorem RepT.un : ∀ {kvs : List (List Key × V)} {es : List (List Key × D)}, RepT g H A kvs es → (kvs = [] ∧ es = []) ∨ ∃ k v d kvs' es', kvs = (k, v) :: kvs' ∧ es = (k, d) :: es' ∧ Rep g H A v d ∧ RepT g H A kvs' es'
  | [], [], _ => .inl ⟨rfl, rfl⟩
  | [], _ :: _, h => by have := h.k; simp at this
  | _ :: _, [], h => by have := h.k; simp at this
  | (k, v) :: kvs, (j, d) :: es, h => by
    have hk := h.k
    rw [List.map_cons, List.map_cons] at hk
    obtain ⟨e1, e2⟩ := List.cons.inj hk
    have e1 : k = j := e1
    subst e1
    have hv := h.v
    rw [List.map_cons, List.map_cons] at hv
    cases hv with
    | cons r rs => exact .inr ⟨k, v, d, kvs, es, rfl, rfl, r, e2, rs⟩
theorem RepT.append {k : List Key} {v : V} {d : D} (r : Rep g H A v d) : ∀ {kvs : List (List Key × V)} {es : List (List Key × D)}, RepT g H A kvs es → RepT g H A (kvs ++ [(k, v)]) (es ++ [(k, d)])
  | [], _, h => by
    rcases h.un with ⟨_, rfl⟩ | ⟨_, _, _, _, _, e, _⟩
    · exact .cons r .nil
    · cases e
  | p :: kvs, _, h => by
    rcases h.un with ⟨e, _⟩ | ⟨_, _, _, _, _, e, rfl, r2, h2⟩
    · cases e
    · cases e
      exact .cons r2 (RepT.append r h2)
theorem RepT.map {k : List Key} {v : V} {d : D} (r : Rep g H A v d) : ∀ {kvs : List (List Key × V)} {es : List (List Key × D)}, RepT g H A kvs es → RepT g H A (kvs.map fun kv => if kv.1 = k then (kv.1, v) else kv) (es.map fun kv => if kv.1 = k then (kv.1, d) else kv)
  | [], _, h => by
    rcases h.un with ⟨_, rfl⟩ | ⟨_, _, _, _, _, e, _⟩
    · exact .nil
    · cases e
  | p :: kvs, _, h => by
    rcases h.un with ⟨e, _⟩ | ⟨j, v2, d2, _, _, e, rfl, r2, h2⟩
    · cases e
    · cases e
      rw [List.map_cons, List.map_cons]
      by_cases hj : j = k
      · rw [if_pos hj, if_pos hj]
        exact .cons r (RepT.map r h2)
      · rw [if_neg hj, if_neg hj]
        exact .cons r2 (RepT.map r h2)
theorem RepT.any {k : List Key} : ∀ {kvs : List (List Key × V)} {es : List (List Key × D)}, RepT g H A kvs es → (kvs.any fun kv => decide (kv.1 = k)) = (es.any fun kv => decide (kv.1 = k))
  | [], _, h => by
    rcases h.un with ⟨_, rfl⟩ | ⟨_, _, _, _, _, e, _⟩
    · rfl
    · cases e
  | p :: kvs, _, h => by
    rcases h.un with ⟨e, _⟩ | ⟨j, v2, d2, _, _, e, rfl, r2, h2⟩
    · cases e
    · cases e
      rw [List.any_cons, List.any_cons, RepT.any h2]
theorem RepT.put {k : List Key} {v : V} {d : D} {kvs : List (List Key × V)} {es : List (List Key × D)} (h : RepT g H A kvs es) (r : Rep g H A v d) : RepT g H A (putK kvs k v) (putT es k d) := by
  unfold putK putT
  rw [h.any]
  split
  · exact h.map r
  · exact h.append r
theorem RepT.kp {B : Addr → Prop} {kvs : List (List Key × V)} {es : List (List Key × D)} (k : Kp A H B H') (h : RepT g H A kvs es) : RepT g H' B kvs es := ⟨h.k, h.v.kp k⟩
theorem RepT.val {kvs : List (List Key × V)} {es : List (List Key × D)} {kk : List Key} (h : RepT g H A kvs es) : (∀ d, getT es kk = some d → ∃ v, valV kvs kk = some v ∧ Rep g H A v d) ∧ (getT es kk = none → valV kvs kk = none) := by
  induction es generalizing kvs with
  | nil =>
    rcases h.un with ⟨rfl, _⟩ | ⟨_, _, _, _, _, _, z, _⟩
    · exact ⟨fun d z => (nomatch z), fun _ => rfl⟩
    · cases z
  | cons p es ih =>
    rcases h.un with ⟨_, z⟩ | ⟨k1, v1, d1, kvs', es', rfl, z, r, h'⟩
    · cases z
    · cases z
      by_cases hk : k1 = kk
      · subst hk
        have e1 : getT ((k1, d1) :: es) k1 = some d1 := by unfold getT; simp
        have e2 : valV ((k1, v1) :: kvs') k1 = some v1 := valV_pos (p := (k1, v1)) rfl
        rw [e1, e2]
        exact ⟨fun d z => by cases z; exact ⟨v1, rfl, r⟩, fun z => (nomatch z)⟩
      · have e1 : getT ((k1, d1) :: es) kk = getT es kk := by unfold getT; simp [hk]
        have e2 : valV ((k1, v1) :: kvs') kk = valV kvs' kk := valV_neg (p := (k1, v1)) hk
        rw [e1, e2]
        exact ih h'
theorem keysT_v : ∀ {xs : List D} {ks : List Key} {vs : List V}, keysT xs = some ks → RepA g H A vs xs → vs = ks.map kV
  | [], _, _, h, r => by cases h; cases r; rfl
  | d :: xs, ks, vs, h, r => by
    unfold keysT at h
    cases r with
    | cons r1 r2 =>
      cases ek : keyD d with
      | none => rw [ek] at h; cases h
      | some k =>
        cases er : keysT xs with
        | none => rw [ek, er] at h; cases h
        | some ks' =>
          rw [ek, er] at h
          cases h
          rw [List.map_cons, ← keysT_v er r2, keyD_v ek (.inl r1)]
theorem keyT_v {d : D} {kk : List Key} {v : V} (h : keyT d = some kk) (r : LRep g H A v d) : ∃ b, v = .ref b ∧ H b = some (.tup (kk.map kV)) := by
  cases d with
  | tup xs =>
    obtain ⟨b, vs, rfl, hb, ra⟩ := r.tup
    have e := keysT_v (show keysT xs = some kk from h) ra
    subst e
    exact ⟨b, rfl, hb.1⟩
  | _ => cases h
def isDct : D → Option Unit
  | .dK _ => some () | .fk _ => some () | .dT _ => some () | .ft _ => some ()
  | _ => none
def oGetA : D → D → Option (Option D)
  | .dK es, y => (keyD y).map (getD' es)
  | .fk es, y => (keyD y).map (getD' es)
  | .dT es, y => (keyT y).map (getT es)
  | .ft es, y => (keyT y).map (getT es)
  | _, _ => none
theorem get_ok {d e : D} {r : Option D} (h : oGetA d e = some r) (rx : LRep g H A x d) (ry : LRep g H A y e) : ∃ a o, x = .ref a ∧ DGet H a y o ∧ (∀ z, r = some z → ∃ v, o = some v ∧ Rep g H A v z) ∧ (r = none → o = none) := by
  have cK : ∀ {es : List (Key × D)} {kvs : List (Key × V)} {a : Addr}, Rd H a (.dK kvs) → kvs.map (·.1) = es.map (·.1) → RepA g H A (kvs.map (·.2)) (es.map (·.2)) → (keyD e).map (getD' es) = some r →
      ∃ o, DGet H a y o ∧ (∀ z, r = some z → ∃ v, o = some v ∧ Rep g H A v z) ∧ (r = none → o = none) := fun {es kvs a} hd hk ra h => by
    cases ek : keyD e with
    | none => rw [ek] at h; cases h
    | some kk =>
      rw [ek] at h
      cases h
      have rv := (RepK.val (kk := kk) ⟨hk, ra⟩)
      exact ⟨valV kvs kk, .inl ⟨kvs, kk, hd, keyD_v ek ry, rfl⟩, rv.1, rv.2⟩
  have cT : ∀ {es : List (List Key × D)} {kvs : List (List Key × V)} {a : Addr}, Rd H a (.dT kvs) → kvs.map (·.1) = es.map (·.1) → RepA g H A (kvs.map (·.2)) (es.map (·.2)) → (keyT e).map (getT es) = some r →
      ∃ o, DGet H a y o ∧ (∀ z, r = some z → ∃ v, o = some v ∧ Rep g H A v z) ∧ (r = none → o = none) := fun {es kvs a} hd hk ra h => by
    cases ek : keyT e with
    | none => rw [ek] at h; cases h
    | some kk =>
      rw [ek] at h
      cases h
      have rv := (RepT.val (kk := kk) ⟨hk, ra⟩)
      obtain ⟨b, rfl, hb⟩ := keyT_v ek ry
      exact ⟨valV kvs kk, .inr ⟨kvs, kk, b, hd, rfl, hb, rfl⟩, rv.1, rv.2⟩
  cases d with
  | dK es => obtain ⟨a, kvs, rfl, ha, hk, ra⟩ := rx.dK; obtain ⟨o, q⟩ := cK (.inl ha) hk ra h; exact ⟨a, o, rfl, q⟩
  | fk es => obtain ⟨a, kvs, rfl, ha, hk, ra⟩ := rx.fk; obtain ⟨o, q⟩ := cK (.inr ha) hk ra h; exact ⟨a, o, rfl, q⟩
  | dT es => obtain ⟨a, kvs, rfl, ha, hk, ra⟩ := rx.dT; obtain ⟨o, q⟩ := cT (.inl ha) hk ra h; exact ⟨a, o, rfl, q⟩
  | ft es => obtain ⟨a, kvs, rfl, ha, hk, ra⟩ := rx.ft; obtain ⟨o, q⟩ := cT (.inr ha) hk ra h; exact ⟨a, o, rfl, q⟩
  | _ => cases h
/-- d.get(k, x), any dict -/
def getA (fa fk fx : M D) : M D := andThen fa fun x => andThen (lift (isDct x)) fun _ => andThen fk fun y => andThen fx fun z => lift ((oGetA x y).map fun r => r.getD z)
/-- d[k], any dict -/
def dixA (fa fk : M D) : M D := andThen fa fun x => andThen fk fun y => lift ((oGetA x y).bind id)
theorem je_dixA (hu : X.A.units + 1 < cLine) (ha : JE X W k1 m1 a fa) (hb : JE X W k2 m2 b fb) (hk : k1 ≠ .ln ∨ m2 = false := by first | exact .inr rfl | exact .inl (by decide)) (hs : NoSl b := by exact fun _ _ => rfl) : JE X W .im (m1 || m2) (.Subscript a b pos) (dixA fa fb) := (pe_dget hu ha hb hs).weak fun σ H Q ⟨γ, τ, R, h⟩ => by
  unfold dixA at h
  rw [fit_bind] at h
  refine ⟨γ, τ, R, h.mono (fun d τ1 h x H1 s1 P1 => ?_) fun _ _ q => q⟩
  obtain ⟨R1, kp1, v1⟩ := P1.val
  rw [fit_bind] at h
  refine ⟨γ, τ1, R1, h.mono (fun e τ2 h y H2 s2 P2 => ?_) fun _ _ q => q.pre kp1⟩
  obtain ⟨R2, kp2, v2⟩ := P2.val
  obtain ⟨dv, eg, h⟩ := fit_lift.mp h
  have v1' := carry (k1 := k1) hk v1 s2 kp2
  cases er : oGetA d e with
  | none => rw [er] at eg; cases eg
  | some r =>
    rw [er] at eg
    have eg : r = some dv := eg
    subst eg
    obtain ⟨a', o, rfl, hg, hs, _⟩ := get_ok er v1'.l v2.l
    obtain ⟨v, rfl, rv⟩ := hs _ rfl
    exact ⟨a', v, rfl, hg, h v H2 (or_same s1 s2) ⟨R2, kp1.trans kp2, rv⟩⟩
end
end PL

/-! PL46: x[k] = e of a dict by tuples; dict(a list of pairs); list(d.values()). -/
namespace PL
open PySem PySem.Spec PyProof.Rows L2
section
variable {X : Cx} {W : WX} {g : Gc} {γ : G} {τ τ' τ1 τ2 : PS0} {σ σ' σ1 : L2.St} {H H' H1 H2 : Hp} {A : Addr → Prop} {p : Addr} {v x y : V} {d : D} {k k1 k2 k3 kr : Kd} {rk : Rk} {m m1 m2 m3 : Bool} {e e1 e2 a b c tg iter : Expr} {es rest : List Expr} {f fa fb fc : M D} {pos : Pos}
/-! ### dict(a list of pairs) -/
/-! ### list(d.values()) -/
end
end PL

/-! PL47: runs with one token out: what gives one out, comprehensions and loops that carry it on. -/
namespace PL
open PySem PySem.Spec PyProof.Rows L2
section
variable {X : Cx} {e e1 e2 a b elt tg iter : Expr} {es : List Expr} {pos p : Pos}
/-! ### a token is out behind it -/
def PEE (X : Cx) (e : Expr) (t : TE) : Prop := ∀ (pins : List (Addr × Obj)) (s : Shared) (σ : L2.St) (H : Hp) (Q : VK), Inv X pins σ H s → t σ H Q → wpAny (model X.prog X.w) X.A (eval e X.env) (fun v s1 => 1 ≤ s1.toks ∧ EP X pins σ Q v s1) X.xe s
def PAE (X : Cx) (es : List Expr) (t : TA) : Prop := ∀ (pos : Pos) (pins : List (Addr × Obj)) (s : Shared) (σ : L2.St) (H : Hp) (Q : List V → Hp → Prop), Inv X pins σ H s → t σ H Q → wpAny (model X.prog X.w) X.A (spliced (backTo pos (starEach es X.env))) (fun us s1 => 1 ≤ s1.toks ∧ AP X pins σ Q us s1) X.xe s
def PIX (X : Cx) (tg iter : Expr) (wi : TI) : Prop := ∀ (pins : List (Addr × Obj)) (s : Shared) (σ : L2.St) (H : Hp) (R : It → Hp → Prop), Inv X pins σ H s → wi σ H R →
    wpAny (model X.prog X.w) X.A (eval iter X.env) (fun v s1 => 1 ≤ s1.toks ∧ wpAny (model X.prog X.w) X.A (pyIter v) (PIE X pins σ tg R) X.xe s1) X.xe s
/-- behind a step the token is still out -/
theorem thk {α : Type} {t : Sem α} {Q Q' : α → Shared → Prop} {M : Model} {A : Around} {E : Value → Shared → Prop} {s : Shared} (hk : 1 ≤ s.toks) (h : wpAny M A t Q E s) (hQ : ∀ a s', 1 ≤ s'.toks → Q a s' → Q' a s') : wpAny M A t Q' E s :=
  wpAny_mono (PySem.wpAny_toks_of hk h) (fun a s' z => hQ a s' z.1 z.2) fun _ _ z => z.2
theorem PEE.weak {t t' : TE} (h : PEE X e t) (w : ∀ σ H Q, t' σ H Q → t σ H Q) : PEE X e t' := fun pins s σ H Q I q => h pins s σ H Q I (w σ H Q q)
theorem PIX.weak {t t' : TI} (h : PIX X tg iter t) (w : ∀ σ H Q, t' σ H Q → t σ H Q) : PIX X tg iter t' := fun pins s σ H Q I q => h pins s σ H Q I (w σ H Q q)
theorem PST.weak {st : Stmt} {t t' : TS} (h : PST X st t) (w : ∀ D σ H, t' D σ H → t D σ H) : PST X st t' := fun pins s σ H D h0 I q => h pins s σ H D h0 I (w D σ H q)
theorem PSsT.weak {st : List Stmt} {t t' : TS} (h : PSsT X st t) (w : ∀ D σ H, t' D σ H → t D σ H) : PSsT X st t' := fun pins s σ H D h0 I q => h pins s σ H D h0 I (w D σ H q)
theorem PET.weak {t t' : TE} (h : PET X e t) (w : ∀ σ H Q, t' σ H Q → t σ H Q) : PET X e t' := fun pins s σ H Q h0 I q => h pins s σ H Q h0 I (w σ H Q q)
theorem pee_int {i : Int} {j : Nat} : PEE X (.Constant (.int i) j pos) (tC (.int i)) := fun _ _ _ H _ I h => wpAny_Constant_int ⟨by show 1 ≤ _ + 1; omega, .int i, H, I.tok _, ⟨_, rfl⟩, h⟩
theorem pae_head {te : TE} {ta : TA} (ha : PEE X e te) (hr : PA X es ta) (hs : starEach (e :: es) X.env = (false, eval e X.env) :: starEach es X.env := by rfl) : PAE X (e :: es) (tCons te ta) := by
  intro pos pins s σ H Q I h
  rw [hs]
  show wpAny _ _ (spliced ((false, eval e X.env) :: backTo pos (starEach es X.env))) _ _ s
  refine Calls.spliced_cons (thn (ha pins s σ H _ I h) fun v s1 ⟨hk, x, H1, I1, r1, q1⟩ => ?_)
  exact thk hk (hr.run pos pins s1 σ H1 _ I1 q1) fun us s2 hk2 ⟨xs, H2, I2, r2, q2⟩ => ⟨hk2, x :: xs, H2, I2, .cons r1 r2, q2⟩
/-! ### one turn of a comprehension, a token out -/
/-! ### a comprehension whose elements want a token -/
end
end PL

/-! PL48: the token layer over the pure one. -/
namespace PL
open PySem PySem.Spec PyProof.Rows L2
section
variable {X : Cx} {W : WX} {g : Gc} {γ : G} {τ τ' τ1 τ2 : PS0} {σ σ' σ1 : L2.St} {H H' H1 H2 : Hp} {A : Addr → Prop} {p : Addr} {v : V} {d : D} {k k1 k2 k3 kr : Kd} {rk : Rk} {m m1 m2 m3 : Bool} {e e1 e2 a b c tg iter elt : Expr} {es rest : List Expr} {f fa fb fc : M D} {t u : M Bool} {fs : M (List D)} {pos : Pos} {st : Stmt} {sts sts2 : List Stmt} {h h1 h2 : SM}
/-! ### x.replace(y, z), y and z written -/
theorem repl_S {x y z : List Nat} (hy : 1 ≤ y.length) : Txt.replace (S x) (S y) (S z) = S (StrLaws.replL y z x) := by
  have e : (Txt.replace (S x) (S y) (S z)).cps.toList = StrLaws.replL y z x := StrLaws.replace_list (x := S x) (y := S y) (z := S z) (by rw [S_len]; exact hy)
  rw [← e, S_of]
end
end PL

/-! PL49: x.split(y); what a written text gives out ahead of an argument or a walk. -/
namespace PL
open PySem PySem.Spec PyProof.Rows L2
section
variable {X : Cx} {W : WX} {g : Gc} {γ : G} {τ τ' τ1 τ2 : PS0} {σ σ' σ1 : L2.St} {H H' H1 H2 : Hp} {A : Addr → Prop} {p : Addr} {v : V} {d : D} {k k1 k2 k3 kr : Kd} {rk : Rk} {m m1 m2 m3 : Bool} {e e1 e2 a b c o tg iter elt : Expr} {es rest : List Expr} {f fa fb fc : M D} {t u : M Bool} {fs : M (List D)} {pos apos cpos : Pos} {st : Stmt} {sts sts2 : List Stmt} {h h1 h2 : SM} {j : Nat} {name : Str} {id : String} {rm : V → List V → Hp → VK → Prop}
/-! ### a text's method with a written argument gives a token out -/
/-! ### split -/
/-- a list alone -/
def oIterL : D → Option (List D)
  | .lst xs => some xs
  | _ => none
def iterL (f : M D) : M (List D) := andThen f fun d => lift (oIterL d)
/-! ### " ".join([.. with a replace ..]), [.. with a replace .. for .. in x.split(..)] -/
end
end PL

/-! PL50: x.partition(y). -/
namespace PL
open PySem PySem.Spec PyProof.Rows L2
section
variable {X : Cx} {W : WX} {g : Gc} {H : Hp} {A : Addr → Prop} {k1 k2 : Kd} {m1 m2 : Bool} {a b : Expr} {fa fb : M D} {pos apos : Pos}
end
end PL

/-! PL51: for the while of a test all that one owns is held as fixed values (a look at it that changes nothing). -/
namespace PL
open PySem PySem.Spec PyProof.Rows L2
section
variable {X : Cx} {W : WX} {g : Gc} {γ : G} {τ τ' : PS0} {σ : L2.St} {H H' : Hp} {m : Bool} {e : Expr} {t : M Bool}
mutual
/-- nested things held as fixed values -/
def D.fix : D → D
  | .nw d => d
  | .nx d => D.fixN d
  | d => d
def D.fixN : D → D
  | .lst ds => .lst (fixA ds)
  | .tup ds => .tup (fixA ds)
  | .dK es => .dK (fixK es)
  | .dT es => .dT (fixT es)
  | .ob n fs => .ob n (fixF fs)
  | d => d
def fixA : List D → List D
  | [] => []
  | d :: ds => d.fix :: fixA ds
def fixK : List (Key × D) → List (Key × D)
  | [] => []
  | (k, d) :: es => (k, d.fix) :: fixK es
def fixT : List (List Key × D) → List (List Key × D)
  | [] => []
  | (k, d) :: es => (k, d.fix) :: fixT es
def fixF : List (Str × D) → List (Str × D)
  | [] => []
  | (k, d) :: es => (k, d.fix) :: fixF es
end
mutual
/-- no object within -/
def D.okB : D → Bool
  | .nx d => D.okN d
  | _ => true
def D.okN : D → Bool
  | .lst ds => okA ds
  | .tup ds => okA ds
  | .dK es => okK es
  | .dT es => okU es
  | .ob _ fs => okF fs
  | _ => false
def okA : List D → Bool
  | [] => true
  | d :: ds => d.okB && okA ds
def okK : List (Key × D) → Bool
  | [] => true
  | (_, d) :: es => d.okB && okK es
def okU : List (List Key × D) → Bool
  | [] => true
  | (_, d) :: es => d.okB && okU es
def okF : List (Str × D) → Bool
  | [] => true
  | (_, d) :: es => d.okB && okF es
end
theorem fix_flat {d : D} (h : d.isNw = false) : d.fix = d := by cases d <;> first | rfl | cases h
theorem fixK_eq : ∀ es : List (Key × D), (fixK es).map (·.1) = es.map (·.1) ∧ (fixK es).map (·.2) = fixA (es.map (·.2)) ∧ okK es = okA (es.map (·.2))
  | [] => ⟨rfl, rfl, rfl⟩
  | (k, d) :: es => by
    obtain ⟨a, b, c⟩ := fixK_eq es
    exact ⟨congrArg (k :: ·) a, congrArg (d.fix :: ·) b, congrArg (d.okB && ·) c⟩
theorem fixT_eq : ∀ es : List (List Key × D), (fixT es).map (·.1) = es.map (·.1) ∧ (fixT es).map (·.2) = fixA (es.map (·.2)) ∧ okU es = okA (es.map (·.2))
  | [] => ⟨rfl, rfl, rfl⟩
  | (k, d) :: es => by
    obtain ⟨a, b, c⟩ := fixT_eq es
    exact ⟨congrArg (k :: ·) a, congrArg (d.fix :: ·) b, congrArg (d.okB && ·) c⟩
theorem fixF_eq : ∀ es : List (Str × D), (fixF es).map (·.1) = es.map (·.1) ∧ (fixF es).map (·.2) = fixA (es.map (·.2)) ∧ okF es = okA (es.map (·.2))
  | [] => ⟨rfl, rfl, rfl⟩
  | (k, d) :: es => by
    obtain ⟨a, b, c⟩ := fixF_eq es
    exact ⟨congrArg (k :: ·) a, congrArg (d.fix :: ·) b, congrArg (d.okB && ·) c⟩
mutual
theorem Nst.fix {A A' : Addr → Prop} (k : Kp A H A' H) : ∀ {v : V} {d : D} {F : List Addr}, Nst g H A v d F → d.okB = true → (∀ a, a ∈ F → ¬ A' a) → Rep g H A' v d.fix
  | _, _, _, .im r, _, _ => by
    rw [fix_flat r.notNw]
    exact r.kp k
  | _, _, _, .sim c, _, n => Cont.rep (n _ (by simp)) (c.mono k rfl)
  | _, _, _, .lst e r, ho, n => .lst e (n _ (by simp)) (NstA.fix k r ho fun a m => n a (List.mem_cons_of_mem _ m))
  | _, _, _, .dK (es := es) e q r, ho, n => .dK e (n _ (by simp)) (q.trans (fixK_eq es).1.symm) ((fixK_eq es).2.1 ▸ NstA.fix k r ((fixK_eq es).2.2 ▸ ho) fun a m => n a (List.mem_cons_of_mem _ m))
  | _, _, _, .dT (es := es) e q r, ho, n => .dT e (n _ (by simp)) (q.trans (fixT_eq es).1.symm) ((fixT_eq es).2.1 ▸ NstA.fix k r ((fixT_eq es).2.2 ▸ ho) fun a m => n a (List.mem_cons_of_mem _ m))
  | _, _, _, .tup e na r, ho, n => .tup (k _ _ e na) (NstA.fix k r ho n)
  | _, _, _, .ob (fs := fs) e e2 c q r, ho, n => .ob e (n _ (by simp)) e2 (n _ (by simp)) c (q.trans (fixF_eq fs).1.symm) ((fixF_eq fs).2.1 ▸ NstA.fix k r ((fixF_eq fs).2.2 ▸ ho) fun a m => n a (List.mem_cons_of_mem _ (List.mem_cons_of_mem _ m)))
theorem NstA.fix {A A' : Addr → Prop} (k : Kp A H A' H) : ∀ {vs : List V} {ds : List D} {F : List Addr}, NstA g H A vs ds F → okA ds = true → (∀ a, a ∈ F → ¬ A' a) → RepA g H A' vs (fixA ds)
  | _, _, _, .nil, _, _ => .nil
  | _, _, _, .cons (d := d) (ds := ds) r rs, ho, n =>
    have h : d.okB = true ∧ okA ds = true := Bool.and_eq_true _ _ ▸ (show (d.okB && okA ds) = true from ho)
    .cons (Nst.fix k r h.1 fun a m => n a (List.mem_append_left _ m)) (NstA.fix k rs h.2 fun a m => n a (List.mem_append_right _ m))
end
def Slot.frz : Slot → Slot
  | .ow d => .im d
  | .mu d => .im d
  | .bx d => if d.okB = true then .im d.fix else .no
  | .mb d => if d.okB = true then .im d.fix else .no
  | s => s
def frzAll (τ : PS0) : PS0 := τ.map Slot.frz
/-- a test over what one owns; it stays one's own -/
def lookT (t : M Bool) : M Bool := fun τ => match t (frzAll τ) with
  | .ok b _ => .ok b τ
  | _ => .stuck
theorem frz_own (s : Slot) : s.frz.isOwn = false := by
  cases s with
  | bx d => unfold Slot.frz; simp only []; split <;> rfl
  | mb d => unfold Slot.frz; simp only []; split <;> rfl
  | _ => rfl
theorem frzAll_own {a : Addr} : ¬ Own (frzAll τ) σ H a := fun ⟨i, s, v, hs, _, hf⟩ => by
  unfold frzAll at hs
  rw [List.getElem?_map] at hs
  cases e : τ[i]? with
  | none => rw [e] at hs; cases hs
  | some u =>
    rw [e] at hs
    cases hs
    exact foot_no (frz_own u) hf
theorem Rel.frzAll (R : Rel g γ τ σ H) : Rel g γ (PL.frzAll τ) σ H := by
  have less : Kp (Av γ τ σ H) H (Av γ (PL.frzAll τ) σ H) H := Kp.less fun b z => z.elim .inl fun y => (frzAll_own y).elim
  have at' : ∀ {i : Nat} {s : Slot}, (PL.frzAll τ)[i]? = some s → ∃ u, τ[i]? = some u ∧ s = u.frz := fun {i s} h => by
    unfold PL.frzAll at h
    rw [List.getElem?_map] at h
    cases e : τ[i]? with
    | none => rw [e] at h; cases h
    | some u => rw [e] at h; cases h; exact ⟨u, rfl, rfl⟩
  have no : ∀ {i : Nat} {s : Slot}, (PL.frzAll τ)[i]? = some s → s.isOwn = false := fun {i s} h => by
    obtain ⟨u, _, e⟩ := at' h
    rw [e]; exact frz_own u
  have na : ∀ {b : Addr}, Own τ σ H b → ¬ Av γ (PL.frzAll τ) σ H b := fun {b} h z => z.elim (fun y => (R.pal b y).2 h) frzAll_own
  have put : ∀ {i : Nat} {a : Addr} {d : D} {s : Slot}, τ[i]? = some s → s.isSim = true → σ[i]? = some (some (.ref a)) → Cont g H (Av γ τ σ H) a d → Rep g H (Av γ (PL.frzAll τ) σ H) (.ref a) d := fun {i a d s} h1 h2 h3 c => by
    have na : ¬ Av γ (PL.frzAll τ) σ H a := na ⟨i, .of h1 h2 h3⟩
    cases c with
    | lst hH ra => exact .lst hH na (ra.kp less)
    | dK hH hk ra => exact .dK hH na hk (ra.kp less)
    | dT hH hk ra => exact .dT hH na hk (ra.kp less)
  have box : ∀ {i : Nat} {d e : D} {v : V} {s : Slot}, τ[i]? = some s → (s = .bx e ∨ s = .mb e) → σ[i]? = some (some v) → Box g H (Av γ τ σ H) v e → (if e.okB = true then Slot.im e.fix else .no) = .im d → Rep g H (Av γ (PL.frzAll τ) σ H) v d := fun {i d e v s} hs he hv c q => by
    split at q
    · rename_i ho
      cases q
      obtain ⟨F, n, _⟩ := c
      exact n.fix less ho fun a m => na ⟨i, s, v, hs, hv, by rcases he with rfl | rfl <;> exact ⟨F, n.ft, m⟩⟩
    · cases q
  refine ⟨by unfold PL.frzAll; rw [List.length_map]; exact R.len, fun i d h => ?_, fun i d h => (nomatch no h), fun i d h => (nomatch no h), fun i d h => (nomatch no h), fun i d h => (nomatch no h), fun i j a h1 h2 => (frzAll_own ⟨i, h1⟩).elim, fun a h => ⟨(R.pal a h).1, frzAll_own⟩⟩
  obtain ⟨u, hu, eu⟩ := at' h
  cases u with
  | no => cases eu
  | im d' =>
    cases eu
    obtain ⟨v, e, r⟩ := R.im i d hu
    exact ⟨v, e, r.kp less⟩
  | ow d' =>
    cases eu
    obtain ⟨a, e, c⟩ := R.ow i d hu
    exact ⟨_, e, put hu rfl e c⟩
  | mu d' =>
    cases eu
    obtain ⟨e, c⟩ := R.mu i d hu
    exact ⟨_, e, put hu rfl e c⟩
  | bx e =>
    obtain ⟨v, ev, c⟩ := R.bx i e hu
    exact ⟨v, ev, box hu (.inl rfl) ev c eu.symm⟩
  | mb e =>
    obtain ⟨ev, c⟩ := R.mb i e hu
    exact ⟨_, ev, box hu (.inr rfl) ev c eu.symm⟩
end
end PL

/-! PL52: <, <=, >, >= of data (tuples, lists) of one form, in Python's order. -/
namespace PL
open PySem PySem.Spec PyProof.Rows L2
section
variable {X : Cx} {g : Gc}
end
end PL

/-! PL53: boxes: what one owns with things of one's own in it. -/
namespace PL
open PySem PySem.Spec PyProof.Rows L2
section
variable {X : Cx} {W : WX} {g : Gc} {γ : G} {τ τ' τ1 τ2 : PS0} {σ σ' σ1 : L2.St} {H H' H1 H2 : Hp} {A : Addr → Prop} {a p : Addr} {v : V} {d : D} {k : Kd} {rk : Rk} {m m1 m2 : Bool} {e : Expr} {es : List Expr} {f : M D} {fs : M (List D)} {pos : Pos} {F E : List Addr}
/-- less is set apart -/
theorem Rel.drops (R : Rel g (γ.withs (fun a => a ∈ F)) τ σ H) : Rel g γ τ σ H := by
  have k : Kp (Av (γ.withs (fun a => a ∈ F)) τ σ H) H (Av γ τ σ H) H := Kp.less fun a q => q.elim (fun z => .inl (.inl z)) .inr
  exact ⟨R.len, fun i d h => let ⟨v, e, r⟩ := R.im i d h; ⟨v, e, r.kp k⟩, fun i d h => let ⟨b, e, c⟩ := R.ow i d h; ⟨b, e, c.mono k rfl⟩, fun i d h => let ⟨e, c⟩ := R.mu i d h; ⟨e, c.mono k rfl⟩,
    fun i d h => let ⟨v, e, c⟩ := R.bx i d h; ⟨v, e, c.mono k fun _ _ _ _ _ q => q⟩, fun i d h => let ⟨e, c⟩ := R.mb i d h; ⟨e, c.mono k fun _ _ _ _ _ q => q⟩, R.inj, fun a h => R.pal a (.inl h)⟩
theorem XW.withs {n : Str} (h : XW g W γ τ σ H n τ') : XW g W (γ.withs (fun a => a ∈ F)) τ σ H n τ' := fun H' R k c hc => h H' R.drops k c hc
/-! ### new boxes -/
def nwM (f : M D) : M D := andThen f fun d => ret (.nw d)
def nxM (f : M D) : M D := andThen f fun d => ret (.nx d)
/-- held as a fixed value -/
def fixM (f : M D) : M D := andThen f fun d => lift (if d.okB = true then some d.fix else none)
theorem PostN.toIm (P : PostN g γ τ σ H τ' σ' H' v d) (ho : d.okB = true) : PostE .im g γ τ σ H τ' σ' H' v d.fix := by
  obtain ⟨F, R, np, kp, n, nd⟩ := P
  have k : Kp (Av (γ.withs (fun a => a ∈ F)) τ' σ' H') H' (Av γ τ' σ' H') H' := Kp.less fun a q => q.elim (fun z => .inl (.inl z)) .inr
  exact ⟨R.drops, kp.trans (Kp.less fun a q => .inl q), n.fix k ho fun a m q => q.elim (np a m) (R.pal a (.inr m)).2⟩
/-! ### argument lists, tuples -/
def tupN (fs : M (List D)) : M D := andThen fs fun ds => lift (if ds.length ≤ 16777216 then some (.nx (.tup ds)) else none)
theorem NstA.length : ∀ {vs : List V} {ds : List D} {F : List Addr}, NstA g H A vs ds F → vs.length = ds.length
  | _, _, _, .nil => rfl
  | _, _, _, .cons _ r => congrArg (· + 1) (NstA.length r)
/-! ### into a slot, out of a slot, given -/
def bxS (i : Nat) (f : M D) : SM := fun τ => match f τ with
  | .ok d τ' => if i < τ'.length then .nx (τ'.set i (.bx d)) else .stuck
  | .exc n τ' => .exc n τ'
  | .stuck => .stuck
/-- taken out of its slot -/
def moveB (i : Nat) : M D := fun τ => match τ[i]? with
  | some (.bx d) => .ok d (τ.set i .no)
  | _ => .stuck
/-! ### a box is written -/
def Slot.isBox : Slot → Bool
  | .bx _ => true
  | .mb _ => true
  | _ => false
def Slot.bput (s : Slot) (e : D) : Slot := match s with
  | .bx _ => .bx e
  | .mb _ => .mb e
  | s => s
/-! ### a place within -/
theorem set_same {α : Type} {xs : List α} {j : Nat} {x : α} (h : xs[j]? = some x) : xs.set j x = xs := by
  apply List.ext_getElem?
  intro l
  by_cases hl : l = j
  · subst hl
    rw [List.getElem?_set_self (List.getElem?_eq_some_iff.mp h).1, h]
  · rw [List.getElem?_set_ne (Ne.symm hl)]
theorem NstA.at : ∀ {vs : List V} {ds : List D} {F : List Addr} {j : Nat} {d : D}, NstA g H A vs ds F → ds[j]? = some d → ∃ w F0 F1 F2, vs[j]? = some w ∧ F = F0 ++ (F1 ++ F2) ∧ Nst g H A w d F1 ∧
    ∀ {H' : Hp} {A' : Addr → Prop}, Kp A H A' H' → (∀ a o, a ∈ F0 ++ F2 → H a = some o → H' a = some o) → ∀ {w' : V} {d' : D} {E1 : List Addr}, Nst g H' A' w' d' E1 → NstA g H' A' (vs.set j w') (ds.set j d') (F0 ++ (E1 ++ F2))
  | _, _, _, 0, _, .cons (F := F) (E := E) (v := w) (vs := vs) (ds := ds) r rs, h => by
    cases (show some _ = some _ from h)
    exact ⟨w, [], F, E, rfl, rfl, r, fun {H' A'} k s {w' d' E1} n => show NstA g H' A' (w' :: vs) (d' :: ds) (E1 ++ E) from .cons n (NstA.mono k (fun a o m => s a o m) rs)⟩
  | _, _, _, j + 1, d, .cons (F := F) (E := E) r rs, h => by
    obtain ⟨w, F0, F1, F2, e1, e2, n, g⟩ := NstA.at (j := j) rs (by simpa using h)
    refine ⟨w, F ++ F0, F1, F2, by simpa using e1, by rw [e2, List.append_assoc], n, fun {H' A'} k s {w' d' E1} n' => ?_⟩
    rw [List.append_assoc]
    refine .cons (Nst.mono k (fun a o m => s a o ?_) r) (g k (fun a o m => s a o ?_) n')
    · exact List.mem_append_left _ (List.mem_append_left _ m)
    · rw [List.append_assoc]; exact List.mem_append_right _ m
  | _, _, _, _, _, .nil, h => by simp at h
end
end PL

/-! PL54: defs that give boxes; a method of a thing within a tuple. -/
namespace PL
open PySem PySem.Spec PyProof.Rows L2
/-- what a def gives: a new box -/
def OutN (g : Gc) (H : Hp) (A : Addr → Prop) (H' : Hp) (v : V) (d : D) : Prop := Same H H' ∧ ∃ F : List Addr, Nst g H' (fun a => A a ∨ a ∈ F) v d F ∧ F.Nodup ∧ ∀ a, a ∈ F → H a = none
def runN (n : Nat) (body : SM) (ds : List D) : DR := match body (ds.map .im ++ List.replicate (n - ds.length) .no) with
  | .nx _ => .ret .non .non
  | .ret d _ => .ret d .non
  | .exc n _ => .exc n .non
  | .stuck => .stuck
section
variable {X : Cx} {W : WX} {g : Gc} {γ : G} {τ τ' τ1 τ2 : PS0} {σ σ' σ1 : L2.St} {H H' H1 H2 : Hp} {A : Addr → Prop} {a p : Addr} {v : V} {d : D} {k : Kd} {rk : Rk} {m m1 m2 : Bool} {e : Expr} {es : List Expr} {f : M D} {fs : M (List D)} {pos : Pos} {F E : List Addr}
variable {P : Program} {w : World} {K : PySem.W.Frag} {mg : Str → Option Value} {base : Heap}
theorem Rel.news (R : Rel g γ τ σ H) (hF : ∀ a, a ∈ F → H a = none) (s : Same H H') (hT : ∀ a, a ∈ F → Th H' a) : Rel g (γ.withs (fun a => a ∈ F)) τ σ H' := by
  have R' := R.same s
  have k : Kp (Av γ τ σ H) H (Av (γ.withs (fun a => a ∈ F)) τ σ H') H' := fun a u e n =>
    ⟨s a u e, fun z => z.elim (fun y => y.elim (fun x => n (.inl x)) fun m => by rw [hF a m] at e; cases e) fun x => n (.inr ((R.own_same s).mp x))⟩
  have ce : ∀ {a d}, Cont g H (Av γ τ σ H) a d → Cont g H' (Av (γ.withs (fun a => a ∈ F)) τ σ H') a d := fun {a d} c => by
    obtain ⟨u, e⟩ := c.there
    exact c.mono k ((s a u e).trans e.symm)
  refine ⟨R.len, fun i d h => let ⟨v, e, r⟩ := R.im i d h; ⟨v, e, r.kp k⟩, fun i d h => let ⟨b, e, c⟩ := R.ow i d h; ⟨b, e, ce c⟩, fun i d h => let ⟨e, c⟩ := R.mu i d h; ⟨e, ce c⟩,
    fun i d h => let ⟨v, e, c⟩ := R.bx i d h; ⟨v, e, c.mono k fun _ _ a o _ e => s a o e⟩, fun i d h => let ⟨e, c⟩ := R.mb i d h; ⟨e, c.mono k fun _ _ a o _ e => s a o e⟩, R'.inj, fun a h => ?_⟩
  rcases h with h | h
  · exact R'.pal a h
  · refine ⟨hT a h, fun z => ?_⟩
    obtain ⟨u, e⟩ := R.ownThere ((R.own_same s).mp z)
    rw [hF a h] at e; cases e
theorem PostN.of_out (R : Rel g γ τ' σ H1) (k0 : Kp (Own τ σ H) H (Own τ' σ H1) H1) (o : OutN g H1 (Av γ τ' σ H1) H' v d) : PostN g γ τ σ H τ' σ H' v d := by
  obtain ⟨s, F, n, nd, hF⟩ := o
  refine ⟨F, R.news hF s n.th, fun a m z => ?_, k0.trans fun b u e nb => ⟨s b u e, fun z => z.elim (fun q => nb ((R.own_same s).mp q)) fun m => by rw [hF b m] at e; cases e⟩, Nst.mono (Kp.less fun a z => ?_) (fun _ _ _ q => q) n, nd⟩
  · obtain ⟨u, e⟩ := (R.pal a z).1.ex
    rw [hF a m] at e; cases e
  · rcases z with (z | z) | z
    · exact .inl (.inl z)
    · exact .inr z
    · exact .inl (.inr ((R.own_same s).mp z))
/-! ### x[j].m(e, ..), x a box, a tuple -/
/-- the thing at j within the tuple of slot i -/
def bxT (τ : PS0) (i j : Nat) : Option (List D × D) := match τ[i]? with
  | some (.bx (.nx (.tup ds))) => match ds[j]? with
    | some (.nw c) => some (ds, c)
    | _ => none
  | _ => none
def bxAtT (T : String) (i j : Nat) (fs : M (List D)) (o : OMt) : SM := fun τ => match bxT τ i j with
  | some (_, c) => if tyOk T c = true then (match fs τ with
    | .ok xs τ1 => (match bxT τ1 i j with
      | some (ds, c1) => (match o c1 xs with
        | some (_, c') => .nx (τ1.set i (.bx (.nx (.tup (ds.set j (.nw c'))))))
        | none => .stuck)
      | none => .stuck)
    | .exc n τ1 => .exc n τ1
    | .stuck => .stuck) else .stuck
  | none => .stuck
theorem bxT_eq {i j : Nat} {ds : List D} {c : D} (h : bxT τ i j = some (ds, c)) : τ[i]? = some (.bx (.nx (.tup ds))) ∧ ds[j]? = some (.nw c) := by
  unfold bxT at h
  split at h
  · rename_i ds' e1
    split at h
    · rename_i c' e2
      cases h
      exact ⟨e1, e2⟩
    · cases h
  · cases h
/-- the place within -/
theorem Rel.bxT {i j : Nat} {ds : List D} {c : D} (R : Rel g γ τ σ H) (h : PL.bxT τ i j = some (ds, c)) : ∃ (b q : Addr) (vs : List V), σ[i]? = some (some (.ref b)) ∧ H b = some (.tup vs) ∧ ¬ Av γ τ σ H b ∧ vs.length = ds.length ∧ vs[j]? = some (.ref q) ∧ Cont g H (Av γ τ σ H) q c ∧ OwnAt τ σ H i q ∧
    ∀ {H' : Hp} {c' : D}, (∀ b u, b ≠ q → H b = some u → H' b = some u) → Cont g H' (Av γ τ σ H) q c' → ∃ E, Nst g H' (Av γ τ σ H) (.ref b) (.nx (.tup (ds.set j (.nw c')))) E ∧ E.Nodup ∧ ∀ z, z ∈ E → (Slot.bx (.nx (.tup ds))).foot H (.ref b) z := by
  obtain ⟨h1, h2⟩ := bxT_eq h
  obtain ⟨v, hv, F, n, nd⟩ := R.bx i _ h1
  cases n with
  | im r => cases r
  | tup hb na rs =>
    rename_i b vs
    obtain ⟨w, F0, F1, F2, e1, e2, nw, up⟩ := rs.at h2
    cases nw with
    | im r => cases r
    | sim ct =>
      rename_i q
      have fq : (Slot.bx (.nx (.tup ds))).foot H (.ref b) q := ⟨F, .tup hb rs.ft, by rw [e2]; simp⟩
      have oq : OwnAt τ σ H i q := ⟨_, _, h1, hv, fq⟩
      refine ⟨b, q, vs, hv, hb, na, rs.length, e1, ct, oq, fun {H' c'} k0 ct' => ⟨F, ?_, nd, fun z m => ⟨F, .tup hb rs.ft, m⟩⟩⟩
      have nb : b ≠ q := fun z => na (z ▸ .inr ⟨i, oq⟩)
      have nq : q ∉ F0 ++ F2 := fun m => by
        rw [e2] at nd
        have := List.nodup_append.mp nd
        rcases List.mem_append.mp m with m | m
        · exact this.2.2 q m q (by simp) rfl
        · have := (List.nodup_cons.mp (show (q :: F2).Nodup from this.2.1)).1
          exact this m
      have r' := up (H' := H') (A' := Av γ τ σ H) (fun x o ex nx => ⟨k0 x o (fun z => nx (z ▸ .inr ⟨i, oq⟩)) ex, nx⟩) (fun x o m ex => k0 x o (fun z => nq (z ▸ m)) ex) (Nst.sim ct')
      rw [set_same e1] at r'
      rw [e2]
      exact .tup (k0 b _ nb hb) na r'
end
end PL

/-! PL55: defs that change their first argument, where repr is called. -/
namespace PL
open PySem PySem.Spec PyProof.Rows L2
section
variable {X : Cx} {W : WX} {g : Gc} {γ : G} {τ τ' τ1 τ2 : PS0} {σ σ' : L2.St} {H H' H1 H2 : Hp} {A : Addr → Prop} {p : Addr} {v : V} {d : D} {k k1 k2 k3 kr : Kd} {m m1 m2 m3 : Bool} {e e1 e2 a b c : Expr} {es rest : List Expr} {f fa fb fc : M D} {t u : M Bool} {fs : M (List D)} {pos : Pos} {r r' : R2} {o o' : D → D → Option D}
end
section
variable {X : Cx} {W : WX} {g : Gc} {γ : G} {τ τ' τ1 τ2 : PS0} {σ σ' σ1 σ2 : L2.St} {H H' H1 H2 : Hp} {rk : Rk} {pos : Pos}
variable {P : Program} {w : World} {K : PySem.W.Frag} {mg : Str → Option Value} {base : Heap}
end
end PL

/-! PL56: len(set(xs)), xs texts, whatever comes twice. -/
namespace PL
open PySem PySem.Spec PyProof.Rows L2
section
variable {prog : Program} {w : World} {A : Around} {E : Value → Shared → Prop} {s : Shared} {R : Result → Shared → Prop} {I : Addr} {fp wr : List Addr} {G : Array GenState → Array GenState → Prop} {n : Nat} {P : Nat → Value → Prop} {St : Nat → Shared → Prop}
end
section
variable {X : Cx} {W : WX} {g : Gc} {H : Hp} {A : Addr → Prop} {m : Bool} {k : Kd} {a : Expr} {fa : M D} {p p2 q pos : Pos} {te : TE}
end
end PL

/-! PL57: defs called with values that are looked at, whose answer is new and flat. -/
namespace PL
open PySem PySem.Spec PyProof.Rows L2
def flL : D → Bool
  | .lst xs => xs.all flD
  | _ => false
def leafD : D → Bool
  | .nw d => flL d
  | d => flD d
def flB : D → Bool
  | .nx (.tup ds) => ds.all leafD
  | d => leafD d
def callLF (mf : List D → DR) (fs : M (List D)) : M D := andThen fs fun ds τ => match mf ds with
  | .ret d _ => if flL d = true then .ok d τ else .stuck
  | .exc n _ => .exc n τ
  | .stuck => .stuck
def callLN (mf : List D → DR) (fs : M (List D)) : M D := andThen fs fun ds τ => match mf ds with
  | .ret d _ => if flB d = true then .ok d τ else .stuck
  | .exc n _ => .exc n τ
  | .stuck => .stuck
section
variable {X : Cx} {W : WX} {g : Gc} {γ : G} {τ τ1 : PS0} {σ : L2.St} {H H' H1 H2 : Hp} {A B : Addr → Prop} {a : Addr} {v : V} {d : D} {k kr : Kd} {e : Expr} {es : List Expr} {f : M D} {fs : M (List D)} {pos : Pos}
theorem flat_all : ∀ {vs : List V} {ds : List D}, ds.all flD = true → RepA g H A vs ds → RepA g H B vs ds
  | _, _, _, .nil => .nil
  | _, _, h, .cons r t => by
    rw [List.all_cons, Bool.and_eq_true] at h
    exact .cons (flat_any h.1 r) (flat_all h.2 t)
theorem Cont.flat (hf : flL d = true) (c : Cont g H A a d) : Cont g H B a d := by
  cases d with
  | lst xs =>
    cases c with
    | lst ha rs => exact .lst ha (flat_all hf rs)
  | _ => cases hf
theorem Nst.leaf {F : List Addr} (hf : leafD d = true) (n : Nst g H A v d F) : Nst g H B v d F := by
  cases n with
  | im r => 
    have : flD d = true := by
      cases d with
      | nw _ => cases r
      | _ => exact hf
    exact .im (flat_any this r)
  | sim c => exact .sim (Cont.flat hf c)
  | _ => cases hf
theorem NstA.leaf : ∀ {vs : List V} {ds : List D} {F : List Addr}, ds.all leafD = true → NstA g H A vs ds F → NstA g H B vs ds F
  | _, _, _, _, .nil => .nil
  | _, _, _, h, .cons n t => by
    rw [List.all_cons, Bool.and_eq_true] at h
    exact .cons (Nst.leaf h.1 n) (NstA.leaf h.2 t)
theorem Nst.flat {F : List Addr} (hf : flB d = true) (hB : ∀ a, B a → Th H a) (n : Nst g H A v d F) : Nst g H B v d F := by
  cases n with
  | im r => exact Nst.leaf (by cases d <;> first | exact hf | cases r) (.im r)
  | sim c => exact Nst.leaf hf (.sim c)
  | tup ha na t => 
    refine .tup ha (fun z => ?_) (NstA.leaf hf t)
    obtain ⟨o, e, q⟩ := hB _ z
    rw [ha] at e
    cases e
    exact q _ rfl
  | _ => cases hf
end
end PL

/-! PL58: errors made with a text, as values; their text. -/
namespace PL
open PySem PySem.Spec PyProof.Rows L2
section
variable {fs ex : List Addr} {H : Hp} {h h' : Heap} {a t : Addr} {o u : HO}
end
section
variable {X : Cx} {W : WX} {m : Bool} {x : Str} {a : Expr} {te : TE} {C : Addr} {p1 p2 : Pos} {k : Kd} {fa : M D} {g : Gc} {H : Hp} {A : Addr → Prop}
def mkX (n : Str) (fa : M D) : M D := andThen fa fun d => lift (match d with | .str s => some (.ex n s) | _ => none)
/-! ### str(e) -/
end
end PL

/-! PL59: sorted(d), d a dict by tuples. -/
namespace PL
open PySem PySem.Spec PyProof.Rows L2
section
variable {X : Cx}
end
section
variable {X : Cx} {W : WX} {g : Gc} {H : Hp} {A : Addr → Prop} {m : Bool} {k kr : Kd} {a : Expr} {fa : M D} {x : Str} {p pos : Pos}
end
end PL

/-! PL60: a dict by tuples that owns what it holds: d[k] = a new thing, d[k].m(e, ..). -/
namespace PL
open PySem PySem.Spec PyProof.Rows L2
theorem valV_cons {κ : Type} [DecidableEq κ] {p : κ × V} {r : List (κ × V)} {k : κ} : valV (p :: r) k = if p.1 = k then some p.2 else valV r k := by
  unfold valV
  rw [List.find?_cons]
  by_cases h : p.1 = k
  · simp [h]
  · simp [h]
def atK {κ : Type} [DecidableEq κ] : List κ → κ → Option Nat
  | [], _ => none
  | k :: ks, kk => if k = kk then some 0 else (atK ks kk).map (· + 1)
theorem atK_val {κ : Type} [DecidableEq κ] {kk : κ} : ∀ {kvs : List (κ × V)} {j : Nat}, atK (kvs.map (·.1)) kk = some j → ∃ v, (kvs.map (·.2))[j]? = some v ∧ valV kvs kk = some v ∧ (kvs.map (·.1))[j]? = some kk
  | [], j, h => by cases h
  | p :: kvs, j, h => by
    have h : (if p.1 = kk then some 0 else (atK (kvs.map (·.1)) kk).map (· + 1)) = some j := h
    by_cases e : p.1 = kk
    · rw [if_pos e] at h
      cases h
      exact ⟨p.2, rfl, by rw [valV_cons, if_pos e], by rw [← e]; rfl⟩
    · rw [if_neg e] at h
      cases q : atK (kvs.map (·.1)) kk with
      | none => rw [q] at h; cases h
      | some j' =>
        rw [q] at h
        cases h
        obtain ⟨v, h1, h2, h3⟩ := atK_val q
        exact ⟨v, by simpa using h1, by rw [valV_cons, if_neg e]; exact h2, by simpa using h3⟩
def bxK (τ : PS0) (i : Nat) : Option (List (List Key × D)) := match τ[i]? with
  | some (.bx (.nx (.dT es))) => some es
  | _ => none
theorem bxK_eq {τ : PS0} {i : Nat} {es : List (List Key × D)} (h : bxK τ i = some es) : τ[i]? = some (.bx (.nx (.dT es))) := by
  unfold bxK at h
  split at h
  · cases h
    assumption
  · cases h
def bxPutK (i : Nat) (f fi : M D) : SM := fun τ => match f τ with
  | .ok d τ1 => (match bxK τ1 i with
    | some _ => (match fi τ1 with
      | .ok kd τ2 => (match bxK τ2 i with
        | some es => (match keyT kd with
          | some kk => if (es.any fun kv => decide (kv.1 = kk)) = false ∧ es.length < 16777216 then .nx (τ2.set i (.bx (.nx (.dT (es ++ [(kk, d)]))))) else .stuck
          | none => .stuck)
        | none => .stuck)
      | .exc _ _ => .stuck
      | .stuck => .stuck)
    | none => .stuck)
  | .exc n τ' => .exc n τ'
  | .stuck => .stuck
section
variable {X : Cx} {W : WX} {g : Gc} {γ : G} {τ τ' τ1 τ2 : PS0} {σ σ' σ1 : L2.St} {H H' H1 H2 : Hp} {A : Addr → Prop} {a p : Addr} {v : V} {d : D} {k : Kd} {rk : Rk} {m m1 m2 : Bool} {e : Expr} {es : List Expr} {f : M D} {fs : M (List D)} {pos : Pos} {F E : List Addr}
/-- the box of slot i -/
theorem Rel.bxK {i : Nat} {es : List (List Key × D)} (R : Rel g γ τ σ H) (h : PL.bxK τ i = some es) : ∃ (b : Addr) (kvs : List (List Key × V)) (F : List Addr), σ[i]? = some (some (.ref b)) ∧ H b = some (.dT kvs) ∧ kvs.map (·.1) = es.map (·.1) ∧ NstA g H (Av γ τ σ H) (kvs.map (·.2)) (es.map (·.2)) F ∧ (b :: F).Nodup ∧
    (∀ z, z ∈ b :: F → (Slot.bx (.nx (.dT es))).foot H (.ref b) z) ∧ ∀ z, z ∈ b :: F → OwnAt τ σ H i z := by
  have h1 := bxK_eq h
  obtain ⟨v, hv, F, n, nd⟩ := R.bx i _ h1
  cases n with
  | im r => cases r
  | dT hb hk rs =>
    rename_i b kvs F
    have ft : ∀ z, z ∈ b :: F → (Slot.bx (.nx (.dT es))).foot H (.ref b) z := fun z m => ⟨b :: F, .dT hb rs.ft, m⟩
    exact ⟨b, kvs, F, hv, hb, hk, rs, nd, ft, fun z m => ⟨_, _, h1, hv, ft z m⟩⟩
/-! ### found[k].m(e, ..) -/
def atC (es : List (List Key × D)) (kd : D) : Option (Nat × List Key × D) := (keyT kd).bind fun kk => (atK (es.map (·.1)) kk).bind fun j => match ((es.map (fun kv => kv.2))[j]? : Option D) with
  | some (D.nw c) => some (j, kk, c)
  | _ => none
theorem atC_eq {es : List (List Key × D)} {kd : D} {j : Nat} {kk : List Key} {c : D} (h : atC es kd = some (j, kk, c)) : keyT kd = some kk ∧ atK (es.map (·.1)) kk = some j ∧ (es.map (·.2))[j]? = some (.nw c) := by
  unfold atC at h
  cases e1 : keyT kd with
  | none => rw [e1] at h; cases h
  | some k1 =>
    rw [e1] at h
    cases e2 : atK (es.map (·.1)) k1 with
    | none => simp only [Option.bind_some, e2] at h; cases h
    | some j1 =>
      simp only [Option.bind_some, e2] at h
      split at h
      · rename_i c1 e3
        cases h
        exact ⟨rfl, e2, e3⟩
      · cases h
def bxAtK (T : String) (i : Nat) (fk : M D) (fs : M (List D)) (o : OMt) : SM := fun τ => match bxK τ i with
  | some _ => (match fk τ with
    | .ok kd τ1 => (match bxK τ1 i with
      | some es1 => (match atC es1 kd with
        | some (_, _, c1) => if tyOk T c1 = true then (match fs τ1 with
          | .ok xs τ2 => (match bxK τ2 i with
            | some es2 => (match atC es2 kd with
              | some (j, kk, c2) => (match o c2 xs with
                | some (_, c') => .nx (τ2.set i (.bx (.nx (.dT (es2.set j (kk, .nw c'))))))
                | none => .stuck)
              | none => .stuck)
            | none => .stuck)
          | .exc n τ' => .exc n τ'
          | .stuck => .stuck) else .stuck
        | none => .stuck)
      | none => .stuck)
    | .exc n τ' => .exc n τ'
    | .stuck => .stuck)
  | none => .stuck
/-- the thing at a key -/
theorem Rel.atC {i : Nat} {es : List (List Key × D)} {kd : D} {j : Nat} {kk : List Key} {c : D} (R : Rel g γ τ σ H) (h : PL.bxK τ i = some es) (hc : PL.atC es kd = some (j, kk, c)) : ∃ (b q : Addr) (kvs : List (List Key × V)), σ[i]? = some (some (.ref b)) ∧ H b = some (.dT kvs) ∧ atK (kvs.map (·.1)) kk = some j ∧ valV kvs kk = some (.ref q) ∧ Cont g H (Av γ τ σ H) q c ∧ OwnAt τ σ H i q ∧ q ≠ b ∧
    ∀ {H' : Hp} {c' : D}, (∀ b u, b ≠ q → H b = some u → H' b = some u) → Cont g H' (Av γ τ σ H) q c' → ∃ E, Nst g H' (Av γ τ σ H) (.ref b) (.nx (.dT (es.set j (kk, .nw c')))) E ∧ E.Nodup ∧ ∀ z, z ∈ E → (Slot.bx (.nx (.dT es))).foot H (.ref b) z := by
  obtain ⟨h1, h2, h3⟩ := atC_eq hc
  obtain ⟨b, kvs, F, hv, hb, hk, rs, nd, ft, oa⟩ := R.bxK h
  rw [← hk] at h2
  obtain ⟨v, hvj, hval, hkj⟩ := atK_val h2
  obtain ⟨w, F0, F1, F2, e1, e2, nw, up⟩ := rs.at h3
  have ew : w = v := by rw [hvj] at e1; cases e1; rfl
  subst ew
  cases nw with
  | im r => cases r
  | sim ct =>
    rename_i q
    have mq : q ∈ b :: F := List.mem_cons_of_mem _ (by rw [e2]; simp)
    have nqb : q ≠ b := fun z => (List.nodup_cons.mp nd).1 (by rw [e2, ← z]; simp)
    refine ⟨b, q, kvs, hv, hb, h2, hval, ct, oa q mq, nqb, fun {H' c'} k0 ct' => ⟨b :: F, ?_, nd, ft⟩⟩
    have nq : q ∉ F0 ++ F2 := fun m => by
      have nd := (List.nodup_cons.mp nd).2
      rw [e2] at nd
      have := List.nodup_append.mp nd
      rcases List.mem_append.mp m with m | m
      · exact this.2.2 q m q (by simp) rfl
      · have := (List.nodup_cons.mp (show (q :: F2).Nodup from this.2.1)).1
        exact this m
    have r' := up (H' := H') (A' := Av γ τ σ H) (fun x o ex nx => ⟨k0 x o (fun z => nx (z ▸ .inr ⟨i, oa q mq⟩)) ex, nx⟩) (fun x o m ex => k0 x o (fun z => nq (z ▸ m)) ex) (Nst.sim ct')
    rw [set_same e1] at r'
    have k1 : (es.set j (kk, .nw c')).map (·.1) = es.map (·.1) := by
      rw [List.map_set]
      refine set_same ?_
      rw [← hk]
      exact hkj
    have k2 : (es.set j (kk, .nw c')).map (·.2) = (es.map (·.2)).set j (.nw c') := by rw [List.map_set]
    rw [e2]
    exact .dT (k0 b _ (fun z => nqb z.symm) hb) (by rw [k1, hk]) (by rw [k2]; exact r')
end
end PL

/-! PL61: a box that holds a container becomes the container alone, what it holds is fixed. -/
namespace PL
open PySem PySem.Spec PyProof.Rows L2
/-- the container, what it holds fixed -/
def owbD : D → Option D
  | .nx (.lst ds) => if okA ds = true then some (.lst (fixA ds)) else none
  | .nx (.dK es) => if okK es = true then some (.dK (fixK es)) else none
  | .nx (.dT es) => if okU es = true then some (.dT (fixT es)) else none
  | .nw d => some d
  | _ => none
def owbO (i : Nat) (τ : PS0) : Option PS0 := match τ[i]? with
  | some (.bx d) => (owbD d).map fun e => τ.set i (.ow e)
  | _ => none
def owbS (i : Nat) (f : SM) : SM := fun τ => match f τ with
  | .nx τ' => (match owbO i τ' with
    | some τ2 => .nx τ2
    | none => .stuck)
  | r => r
section
variable {X : Cx} {W : WX} {g : Gc} {γ : G} {τ τ' : PS0} {σ : L2.St} {H : Hp} {rk : Rk} {st : Stmt} {f : SM}
/-- ahead of a statement -/
def owbA (i : Nat) (f : SM) : SM := fun τ => match owbO i τ with
  | some τ2 => f τ2
  | none => .stuck
end
end PL

/-! PL62: a comprehension of new things, a box. -/
namespace PL
open PySem PySem.Spec PyProof.Rows L2
section
variable {X : Cx} {W : WX} {g : Gc} {γ : G} {τ τ' τ1 τ2 : PS0} {σ σ' σ1 σ2 : L2.St} {H H' H1 H2 : Hp} {A : Addr → Prop} {p : Addr} {v : V} {d : D} {k k1 k2 k3 kr : Kd} {rk : Rk} {m m1 m2 m3 : Bool} {e e1 e2 a b c tg iter elt : Expr} {es rest : List Expr} {f fa fb fc : M D} {t u : M Bool} {fs : M (List D)} {pos : Pos} {st : Stmt} {sts sts2 : List Stmt} {h h1 h2 : SM}
/-- each element wrapped as a thing of one's own -/
def lcEN (vs : List Nat) (fs : M (List D)) (h : D → PS0 → Option PS0) (t : M Bool) (el : M D) : M D := nxM (lcE vs fs h t (nwM el))
end
end PL

/-! PL63: found[a][b] = e, found a box: a list of lists. -/
namespace PL
open PySem PySem.Spec PyProof.Rows L2
def bxL (τ : PS0) (i : Nat) : Option (List D) := match τ[i]? with
  | some (.bx (.nx (.lst ds))) => some ds
  | _ => none
/-- the list at a -/
def atL (ds : List D) (a : Int) : Option (Nat × List D) := (ixN ds.length a).bind fun j => match (ds[j]? : Option D) with
  | some (D.nw (D.lst xs)) => some (j, xs)
  | _ => none
def bxSet2 (i : Nat) (f1 f2 fv : M D) : SM := fun τ => match fv τ with
  | .ok d τ1 => (match bxL τ1 i with
    | some _ => (match f1 τ1 with
      | .ok (.int a) τ2 => (match bxL τ2 i with
        | some ds2 => (match atL ds2 a with
          | some _ => (match f2 τ2 with
            | .ok (.int b) τ3 => (match bxL τ3 i with
              | some ds => (match atL ds a with
                | some (j, xs) => (match ixN xs.length b with
                  | some l => .nx (τ3.set i (.bx (.nx (.lst (ds.set j (.nw (.lst (xs.set l d))))))))
                  | none => .stuck)
                | none => .stuck)
              | none => .stuck)
            | _ => .stuck)
          | none => .stuck)
        | none => .stuck)
      | _ => .stuck)
    | none => .stuck)
  | .exc n τ1 => .exc n τ1
  | .stuck => .stuck
section
variable {X : Cx} {W : WX} {g : Gc} {γ : G} {τ τ' τ1 τ2 : PS0} {σ σ' σ1 : L2.St} {H H' H1 H2 : Hp} {A : Addr → Prop} {rk : Rk} {m m1 m2 : Bool} {e : Expr} {es : List Expr} {f : M D} {fs : M (List D)} {pos : Pos}
end
end PL

/-! PL64: k in d, d a dict; len(d), d a dict by tuples. -/
namespace PL
open PySem PySem.Spec PyProof.Rows L2
def oLenT : D → Option D
  | .dT es => some (.int (es.length : Nat))
  | _ => none
section
variable {X : Cx} {W : WX} {g : Gc} {γ : G} {τ : PS0} {σ : L2.St} {H : Hp} {A : Addr → Prop} {k1 k2 : Kd} {m1 m2 : Bool} {a b : Expr} {fa fb : M D} {pos : Pos}
end
end PL

/-! PL65: k in d as a test; x = [new things] on one line. -/
namespace PL
open PySem PySem.Spec PyProof.Rows L2
section
variable {X : Cx} {W : WX} {g : Gc} {γ : G} {τ : PS0} {σ : L2.St} {H : Hp} {A : Addr → Prop} {k1 k2 : Kd} {rk : Rk} {m m1 m2 : Bool} {a b tg iter elt : Expr} {f fa fb : M D} {t : M Bool} {fs : M (List D)} {pos : Pos}
end
end PL

/-! PL66: defs that call themselves: n levels. -/
namespace PL
open PySem PySem.Spec PyProof.Rows L2
section
variable {P : Program} {w : World} {K : PySem.W.Frag} {mg : Str → Option Value} {base : Heap}
end
end PL

/-! PL67: <<, >>, &, | of whole numbers. -/
namespace PL
open PySem PySem.Spec PyProof.Rows L2
section
variable {g : Gc}
end
end PL

/-! PL68: while, at most n turns. -/
namespace PL
open PySem PySem.Spec PyProof.Rows L2
section
variable {X : Cx} {W : WX} {g : Gc} {rk : Rk} {m : Bool} {c : Expr} {sts : List Stmt} {t : M Bool} {body : SM} {pos : Pos}
end
end PL

/-! PL69: a def that changes its first argument, called with a new thing as the first one. -/
namespace PL
open PySem PySem.Spec PyProof.Rows L2
def callUF (mf : List D → DR) (f0 : M D) (fs : M (List D)) : M D := andThen f0 fun c => andThen fs fun ds τ => match mf (c :: ds) with
  | .ret d _ => .ok d τ
  | .exc n _ => .exc n τ
  | .stuck => .stuck
section
variable {X : Cx} {W : WX} {g : Gc} {γ : G} {τ τ' τ1 τ2 : PS0} {σ σ' : L2.St} {H H' H1 H2 : Hp} {A : Addr → Prop} {p : Addr} {v : V} {d o : D} {m1 m2 : Bool} {e : Expr} {es : List Expr} {f0 : M D} {fs : M (List D)} {pos : Pos}
theorem XW.with {n : Str} (h : XW g W γ τ σ H n τ') : XW g W (γ.with p) τ σ H n τ' := fun H' R k c hc => h H' R.drop k c hc
/-- a thing that was set apart is written, new ones come -/
theorem Rel.wr (R : Rel g (γ.with p) τ σ H) (k0 : ∀ b u, b ≠ p → H b = some u → H' b = some u) (c : Cont g H' A p o) : Rel g (γ.with p) τ σ H' ∧ ∀ b, Own τ σ H' b → Own τ σ H b := by
  obtain ⟨u, eu, nu⟩ := c.th
  have hp : (γ.with p).P p := .inr rfl
  have R3 := R.updP (o := u) hp nu
  have s : Same (upd H p u) H' := fun b w e => by
    by_cases hb : b = p
    · subst hb
      rw [upd_same] at e
      cases e
      exact eu
    · rw [upd_ne hb] at e
      exact k0 b w hb e
  exact ⟨R3.same s, fun b z => (R.own_updP hp).mp ((R3.own_same s).mp z)⟩
end
end PL

/-! PL70: objects as boxes: their fields, read. -/
namespace PL
open PySem PySem.Spec PyProof.Rows L2
/-- a field set: in its place, or behind all -/
def putFd (f : Str) (d : D) : List (Str × D) → List (Str × D)
  | [] => [(f, d)]
  | (k, x) :: r => if k = f then (k, d) :: r else (k, x) :: putFd f d r
section
variable {X : Cx} {W : WX} {g : Gc} {γ : G} {τ τ' τ1 τ2 : PS0} {σ σ' σ1 : L2.St} {H H' H1 H2 : Hp} {A : Addr → Prop} {a p : Addr} {v : V} {d : D} {k : Kd} {rk : Rk} {m m1 m2 : Bool} {e : Expr} {es : List Expr} {f : M D} {fs : M (List D)} {pos : Pos} {F E : List Addr}
theorem look_hit {α : Type} {x y : Str} {b : α} {r : List (Str × α)} (h : y = x) : List.lookup x ((y, b) :: r) = some b := by
  subst h
  unfold List.lookup
  rw [beq_self_eq_true]
theorem look_miss {α : Type} {x y : Str} {b : α} {r : List (Str × α)} (h : y ≠ x) : List.lookup x ((y, b) :: r) = List.lookup x r := by
  have e : (x == y) = false := beq_eq_false_iff_ne.mpr (Ne.symm h)
  show (match x == y with | true => some b | false => List.lookup x r) = _
  rw [e]
theorem fld_at : ∀ {vs : List (Str × V)} {ds : List (Str × D)} {F : List Addr} {x : Str} {d : D}, vs.map (·.1) = ds.map (·.1) → NstA g H A (vs.map (·.2)) (ds.map (·.2)) F → ds.lookup x = some d →
    ∃ w F0 F1 F2, vs.lookup x = some w ∧ F = F0 ++ (F1 ++ F2) ∧ Nst g H A w d F1 ∧ putF x w vs = vs ∧
      ∀ {H' : Hp} {A' : Addr → Prop}, Kp A H A' H' → (∀ a o, a ∈ F0 ++ F2 → H a = some o → H' a = some o) → ∀ {w' : V} {d' : D} {E1 : List Addr}, Nst g H' A' w' d' E1 → (putF x w' vs).map (·.1) = (putFd x d' ds).map (·.1) ∧ NstA g H' A' ((putF x w' vs).map (·.2)) ((putFd x d' ds).map (·.2)) (F0 ++ (E1 ++ F2))
  | _, [], _, _, _, _, _, h => by cases h
  | [], _ :: _, _, _, _, hk, _, _ => by cases hk
  | (y, w) :: vs, (z, d0) :: ds, F, x, d, hk, r, h => by
    have hk1 : y = z := by injection hk
    have hk2 : vs.map (·.1) = ds.map (·.1) := by injection hk
    subst hk1
    cases r with
    | cons r rs =>
      rename_i Fa Fb
      by_cases q : y = x
      · rw [look_hit q] at h
        cases h
        refine ⟨w, [], Fa, Fb, look_hit q, rfl, r, ?_, fun {H' A'} k s {w' d' E1} n => ?_⟩
        · unfold putF
          rw [if_pos q]
        · unfold putF putFd
          rw [if_pos q, if_pos q]
          exact ⟨congrArg (y :: ·) hk2, show NstA g H' A' (w' :: vs.map (·.2)) (d' :: ds.map (·.2)) (E1 ++ Fb) from .cons n (NstA.mono k (fun a o m => s a o m) rs)⟩
      · rw [look_miss q] at h
        obtain ⟨w1, F0, F1, F2, e1, e2, n1, e3, up⟩ := fld_at hk2 rs h
        refine ⟨w1, Fa ++ F0, F1, F2, (look_miss q).trans e1, by rw [e2, List.append_assoc], n1, ?_, fun {H' A'} k s {w' d' E1} n => ?_⟩
        · unfold putF
          rw [if_neg q, e3]
        · obtain ⟨u1, u2⟩ := up (H' := H') (A' := A') k (fun a o m => s a o (by rw [List.append_assoc]; exact List.mem_append_right _ m)) n
          unfold putF putFd
          rw [if_neg q, if_neg q]
          refine ⟨congrArg (y :: ·) u1, ?_⟩
          rw [List.append_assoc]
          exact .cons (Nst.mono k (fun a o m => s a o (List.mem_append_left _ (List.mem_append_left _ m))) r) u2
/-! ### the object of a slot -/
def boxD : Slot → Option D
  | .bx d => some d
  | .mb d => some d
  | _ => none
def obD (n : Str) : D → Option (List (Str × D))
  | .nx (.ob n' fs) => if n' = n then some fs else none
  | _ => none
/-- the fields of the object of class n in slot i -/
def obF (τ : PS0) (i : Nat) (n : Str) : Option (List (Str × D)) := (τ[i]?.bind boxD).bind (obD n)
theorem obF_eq {i : Nat} {n : Str} {ds : List (Str × D)} (h : obF τ i n = some ds) : ∃ s, τ[i]? = some s ∧ s.isBox = true ∧ (s = .bx (.nx (.ob n ds)) ∨ s = .mb (.nx (.ob n ds))) := by
  unfold obF at h
  cases e : τ[i]? with
  | none => rw [e] at h; cases h
  | some s =>
    rw [e] at h
    have od : ∀ d, obD n d = some ds → d = .nx (.ob n ds) := fun d h => by
      unfold obD at h
      split at h
      · split at h
        · rename_i q
          cases h
          rw [q]
        · cases h
      · cases h
    cases s with
    | bx d => exact ⟨_, rfl, rfl, .inl (by rw [od d h])⟩
    | mb d => exact ⟨_, rfl, rfl, .inr (by rw [od d h])⟩
    | _ => cases h
theorem Rel.obF {i : Nat} {n : Str} {ds : List (Str × D)} (R : Rel g γ τ σ H) (h : PL.obF τ i n = some ds) : ∃ (s : Slot) (a c dx : Addr) (vs : List (Str × V)) (F : List Addr), τ[i]? = some s ∧ s.isBox = true ∧ σ[i]? = some (some (.ref a)) ∧ H a = some (.ins c dx vs) ∧ H dx = some (.own a) ∧ g.mg n = some (.ref c) ∧ vs.map (·.1) = ds.map (·.1) ∧
    NstA g H (Av γ τ σ H) (vs.map (·.2)) (ds.map (·.2)) F ∧ (a :: dx :: F).Nodup ∧ (∀ b, s.foot H (.ref a) b ↔ b ∈ a :: dx :: F) ∧ ∀ b, b ∈ a :: dx :: F → OwnAt τ σ H i b := by
  obtain ⟨s, hs, hb, he⟩ := obF_eq h
  have key : ∃ v, σ[i]? = some (some v) ∧ Box g H (Av γ τ σ H) v (.nx (.ob n ds)) ∧ ∀ b, s.foot H v b ↔ ∃ F, Ft H v (.nx (.ob n ds)) F ∧ b ∈ F := by
    rcases he with rfl | rfl
    · obtain ⟨v, hv, c⟩ := R.bx i _ hs
      exact ⟨v, hv, c, fun b => Iff.rfl⟩
    · obtain ⟨hv, c⟩ := R.mb i _ hs
      exact ⟨_, hv, c, fun b => Iff.rfl⟩
  obtain ⟨v, hv, ⟨F, n', nd⟩, ft⟩ := key
  cases n' with
  | im r => exact absurd r.notNw (by intro z; cases z)
  | ob e e2 c q r =>
    rename_i a c' dx vs F
    have ff : ∀ b, s.foot H (.ref a) b ↔ b ∈ a :: dx :: F := fun b => (ft b).trans ⟨fun ⟨E, hE, m⟩ => by
      rw [hE.det (Nst.ft (.ob e e2 c q r))] at m
      exact m, fun m => ⟨_, Nst.ft (.ob e e2 c q r), m⟩⟩
    exact ⟨s, a, c', dx, vs, F, hs, hb, hv, e, e2, c, q, r, nd, ff, fun b m => ⟨s, _, hs, hv, (ff b).mpr m⟩⟩
/-! ### x.f, looked at -/
def fldD : D → Option D
  | .nw c => some c
  | d => if d.isNw = false then some d else none
def lookF (i : Nat) (n x : Str) : M D := fun τ => match obF τ i n with
  | some ds => (match (ds.lookup x).bind fldD with
    | some d => .ok d τ
    | none => .stuck)
  | none => .stuck
theorem fldD_eq {d c : D} (h : fldD d = some c) : d = .nw c ∨ (d.isNw = false ∧ d = c) := by
  unfold fldD at h
  split at h
  · cases h; exact .inl rfl
  · split at h
    · rename_i q; cases h; exact .inr ⟨q, rfl⟩
    · cases h
theorem Nst.fldD {w : V} {c : D} (n : Nst g H A w d F) (h : PL.fldD d = some c) : LRep g H A w c := by
  rcases fldD_eq h with rfl | ⟨q, rfl⟩
  · cases n with
    | im r => exact absurd r.notNw (by intro z; cases z)
    | sim ct => exact .inr ⟨_, rfl, ct⟩
  · cases n with
    | im r => exact .inl r
    | _ => cases q
/-! ### x.f as a fixed value: of an object of one's own, a field that is fixed; of one that is fixed, any field -/
def imF (τ : PS0) (i : Nat) (n : Str) : Option (List (Str × D)) := match τ[i]? with
  | some (.im (.ob n' ds)) => if n' = n then some ds else none
  | _ => none
def noNw (d : D) : Option D := if d.isNw = false then some d else none
def valF (i : Nat) (n x : Str) : M D := fun τ => match imF τ i n with
  | some ds => (match ds.lookup x with
    | some d => .ok d τ
    | none => .stuck)
  | none => match obF τ i n with
    | some ds => (match (ds.lookup x).bind noNw with
      | some d => .ok d τ
      | none => .stuck)
    | none => .stuck
/-! ### a new list, reckoned while all that is one's own is held as fixed values -/
mutual
/-- numbers, truths, texts, None, tuples of such -/
def tupD : D → Bool
  | .non => true
  | .bl _ => true
  | .int _ => true
  | .str _ => true
  | .tup ds => tupA ds
  | _ => false
def tupA : List D → Bool
  | [] => true
  | d :: ds => tupD d && tupA ds
end
mutual
theorem Rep.tupD {A B : Addr → Prop} (hB : ∀ b, B b → Th H b) : ∀ {d : D} {v : V}, PL.tupD d = true → Rep g H A v d → Rep g H B v d
  | .non, _, _, .non => .non
  | .bl _, _, _, .bl b => .bl b
  | .int _, _, _, .int i => .int i
  | .str _, _, _, .str s => .str s
  | .tup ds, _, h, .tup ha r => .tup ⟨ha.1, fun z => by
      obtain ⟨o, e, n⟩ := hB _ z
      rw [ha.1] at e
      cases e
      exact n _ rfl⟩ (RepA.tupA hB h r)
theorem RepA.tupA {A B : Addr → Prop} (hB : ∀ b, B b → Th H b) : ∀ {ds : List D} {vs : List V}, PL.tupA ds = true → RepA g H A vs ds → RepA g H B vs ds
  | [], _, _, .nil => .nil
  | d :: ds, _, h, .cons r rs => by
    have h : (PL.tupD d && PL.tupA ds) = true := h
    rw [Bool.and_eq_true] at h
    exact .cons (Rep.tupD hB h.1 r) (RepA.tupA hB h.2 rs)
end
def lstT : D → Bool
  | .lst ds => tupA ds
  | _ => false
def lookE (f : M D) : M D := fun τ => match f (frzAll τ) with
  | .ok d _ => if lstT d = true then .ok d τ else .stuck
  | _ => .stuck
end
end PL

/-! PL71: objects as boxes: a field stored, a field's own thing changed. -/
namespace PL
open PySem PySem.Spec PyProof.Rows L2
section
variable {X : Cx} {W : WX} {g : Gc} {γ : G} {τ τ' τ1 τ2 : PS0} {σ σ' σ1 : L2.St} {H H' H1 H2 : Hp} {A : Addr → Prop} {a p : Addr} {v : V} {d : D} {k : Kd} {rk : Rk} {m m1 m2 : Bool} {e : Expr} {es : List Expr} {f : M D} {fs : M (List D)} {pos : Pos} {F E : List Addr}
/-- the box of slot i gets other contents -/
def bputO (i : Nat) (e : D) (τ : PS0) : PS0 := match τ[i]? with
  | some s => τ.set i (s.bput e)
  | none => τ
theorem bputO_eq {i : Nat} {s : Slot} {e : D} (h : τ[i]? = some s) : bputO i e τ = τ.set i (s.bput e) := by
  unfold bputO
  rw [h]
/-! ### x.f = e -/
def fldS (i : Nat) (n x : Str) (f : M D) : SM := fun τ => match f τ with
  | .ok d τ1 => (match obF τ1 i n with
    | some ds => if ds.length < 900 then .nx (bputO i (.nx (.ob n (putFd x d ds))) τ1) else .stuck
    | none => .stuck)
  | .exc nm τ1 => .exc nm τ1
  | .stuck => .stuck
/-! ### x.f.m(e, ..) of a field's own thing -/
def fldC (τ : PS0) (i : Nat) (n x : Str) : Option (List (Str × D) × D) := match obF τ i n with
  | some ds => (match ds.lookup x with
    | some (.nw c) => some (ds, c)
    | _ => none)
  | none => none
theorem fldC_eq {i : Nat} {n x : Str} {ds : List (Str × D)} {c : D} (h : fldC τ i n x = some (ds, c)) : obF τ i n = some ds ∧ ds.lookup x = some (.nw c) := by
  unfold fldC at h
  cases e1 : obF τ i n with
  | none => rw [e1] at h; cases h
  | some ds' =>
    rw [e1] at h
    simp only [] at h
    split at h
    · rename_i e2
      cases h
      exact ⟨rfl, e2⟩
    · cases h
theorem Rel.fldC {i : Nat} {n x : Str} {ds : List (Str × D)} {c : D} (R : Rel g γ τ σ H) (h : PL.fldC τ i n x = some (ds, c)) : ∃ (s : Slot) (a C dx : Addr) (vs : List (Str × V)) (q : Addr), τ[i]? = some s ∧ s.isBox = true ∧ σ[i]? = some (some (.ref a)) ∧ H a = some (.ins C dx vs) ∧ g.mg n = some (.ref C) ∧ vs.lookup x = some (.ref q) ∧ Cont g H (Av γ τ σ H) q c ∧ OwnAt τ σ H i q ∧ s.foot H (.ref a) q ∧
    ∀ {H' : Hp} {c' : D}, (∀ b u, b ≠ q → H b = some u → H' b = some u) → Cont g H' (Av γ τ σ H) q c' → ∃ E, Nst g H' (Av γ τ σ H) (.ref a) (.nx (.ob n (putFd x (.nw c') ds))) E ∧ E.Nodup ∧ ∀ z, z ∈ E → s.foot H (.ref a) z := by
  obtain ⟨h1, h2⟩ := fldC_eq h
  obtain ⟨s, a, C, dx, vs, F, hs, hb, hv, e, e2, hc, hk, r, nd, ff, ow⟩ := R.obF h1
  obtain ⟨w, F0, Fm, F2, l1, eF, n1, pF, up⟩ := fld_at hk r h2
  cases n1 with
  | im r => exact absurd r.notNw (by intro z; cases z)
  | sim ct =>
    rename_i q
    have mq : q ∈ F := by rw [eF]; simp
    have nda := List.nodup_cons.mp nd
    have ndx := List.nodup_cons.mp nda.2
    have qa : a ≠ q := fun z => nda.1 (z ▸ List.mem_cons_of_mem _ mq)
    have qx : dx ≠ q := fun z => ndx.1 (z ▸ mq)
    have nq : q ∉ F0 ++ F2 := fun m => by
      have nF := ndx.2
      rw [eF] at nF
      have := List.nodup_append.mp nF
      rcases List.mem_append.mp m with m | m
      · exact this.2.2 q m q (by simp) rfl
      · exact (List.nodup_cons.mp (show (q :: F2).Nodup from this.2.1)).1 m
    have oq := ow q (List.mem_cons_of_mem _ (List.mem_cons_of_mem _ mq))
    refine ⟨s, a, C, dx, vs, q, hs, hb, hv, e, hc, l1, ct, oq, (ff q).mpr (List.mem_cons_of_mem _ (List.mem_cons_of_mem _ mq)), fun {H' c'} k0 ct' => ?_⟩
    obtain ⟨u1, u2⟩ := up (H' := H') (A' := Av γ τ σ H) (fun y o ey ny => ⟨k0 y o (fun z => ny (z ▸ .inr ⟨i, oq⟩)) ey, ny⟩) (fun y o m ey => k0 y o (fun z => nq (z ▸ m)) ey) (Nst.sim ct')
    rw [pF] at u1 u2
    refine ⟨a :: dx :: (F0 ++ ([q] ++ F2)), .ob (k0 a _ qa e) (k0 dx _ qx e2) hc u1 u2, by rw [← eF]; exact nd, fun z m => (ff z).mpr (by rw [eF]; exact m)⟩
def fldM (T : String) (i : Nat) (n x : Str) (fs : M (List D)) (o : OMt) : SM := fun τ => match fldC τ i n x with
  | some (_, c) => if tyOk T c = true then (match fs τ with
    | .ok xs τ1 => (match fldC τ1 i n x with
      | some (ds, c1) => (match o c1 xs with
        | some (_, c') => .nx (bputO i (.nx (.ob n (putFd x (.nw c') ds))) τ1)
        | none => .stuck)
      | none => .stuck)
    | .exc nm τ1 => .exc nm τ1
    | .stuck => .stuck) else .stuck
  | none => .stuck
/-! ### x.f[k] = e, x.f.pop(k), of a dict by texts or numbers -/
def fldP (i : Nat) (n x : Str) (fv fi : M D) : SM := fun τ => match fv τ with
  | .ok d τ1 => (match fldC τ1 i n x with
    | some _ => (match fi τ1 with
      | .ok j τ2 => (match fldC τ2 i n x with
        | some (ds, c) => (match oSetD c [j, d] with
          | some (_, c') => .nx (bputO i (.nx (.ob n (putFd x (.nw c') ds))) τ2)
          | none => .stuck)
        | none => .stuck)
      | .exc nm τ2 => .exc nm τ2
      | .stuck => .stuck)
    | none => .stuck)
  | .exc nm τ1 => .exc nm τ1
  | .stuck => .stuck
def dropD (es : List (Key × D)) (kk : Key) : List (Key × D) := es.filter fun kv => decide (kv.1 ≠ kk)
theorem RepK.drop {kk : Key} : ∀ {kvs : List (Key × V)} {es : List (Key × D)}, RepK g H A kvs es → RepK g H A (dropK kvs kk) (dropD es kk)
  | kvs, es, h => by
    rcases h.un with ⟨rfl, rfl⟩ | ⟨k, v, d, kvs', es', rfl, rfl, r, h'⟩
    · exact .nil
    · have ih := RepK.drop (kk := kk) h'
      unfold dropK dropD at ih ⊢
      rw [List.filter_cons, List.filter_cons]
      by_cases q : k = kk
      · rw [if_neg (by simpa using q), if_neg (by simpa using q)]
        exact ih
      · rw [if_pos (by simpa using q), if_pos (by simpa using q)]
        exact .cons r ih
  termination_by kvs => kvs.length
def oDropK : D → D → Option D
  | .dK es, j => (keyD j).bind fun kk => (getD' es kk).map fun _ => .dK (dropD es kk)
  | _, _ => none
def fldQ (i : Nat) (n x : Str) (fi : M D) : SM := fun τ => match fldC τ i n x with
  | some (_, .dK _) => (match fi τ with
    | .ok j τ2 => (match fldC τ2 i n x with
      | some (ds, c) => (match oDropK c j with
        | some c' => .nx (bputO i (.nx (.ob n (putFd x (.nw c') ds))) τ2)
        | none => .stuck)
      | none => .stuck)
    | .exc nm τ2 => .exc nm τ2
    | .stuck => .stuck)
  | _ => .stuck
end
end PL

/-! PL72: defs and methods whose first argument is a box that may be changed. -/
namespace PL
open PySem PySem.Spec PyProof.Rows L2
/-- what may not stand in fixed values behind: what the callers own, but for what the box let go -/
def AvM (A : Addr → Prop) (F F' : List Addr) (b : Addr) : Prop := (A b ∧ b ∉ F) ∨ b ∈ F'
def mbS : Option Slot → Option D
  | some (.mb d) => some d
  | _ => none
def mbP (τ : PS0) : Option D := mbS τ[0]?
def runM (n : Nat) (rk : Kd) (body : SM) : List D → DR
  | [] => .stuck
  | c :: ds => match body (.mb c :: (ds.map .im ++ List.replicate (n - (ds.length + 1)) .no)) with
    | .nx τ' => (match rk with
      | .im => (match mbP τ' with
        | some o => .ret .non o
        | none => .stuck)
      | _ => .stuck)
    | .ret d τ' => (match mbP τ' with
      | some o => .ret d o
      | none => .stuck)
    | .exc nm τ' => (match mbP τ' with
      | some o => .exc nm o
      | none => .stuck)
    | .stuck => .stuck
section
variable {X : Cx} {W : WX} {g : Gc} {γ : G} {τ τ' τ1 τ2 : PS0} {σ σ' σ1 : L2.St} {H H' H1 H2 : Hp} {A : Addr → Prop} {a p : Addr} {v : V} {d : D} {k kr : Kd} {rk : Rk} {m m1 m2 : Bool} {e : Expr} {es : List Expr} {f : M D} {fs : M (List D)} {pos : Pos} {F E : List Addr}
variable {P : Program} {w : World} {K : PySem.W.Frag} {mg : Str → Option Value} {base : Heap}
/-! ### the box of a slot, changed by a call -/
theorem Rel.bxPutZ {i : Nat} {s : Slot} {e : D} {N Z : List Addr} {B : Addr → Prop} (R : Rel g (γ.withs (fun a => a ∈ N)) τ σ H) (np : ∀ a, a ∈ N → ¬ γ.P a) (hs : τ[i]? = some s) (hb : s.isBox = true) (hv : σ[i]? = some (some v))
    (k : ∀ b o, ¬ s.foot H v b → b ∉ N → H b = some o → H' b = some o) (n' : Nst g H' B v e E) (hB : ∀ b, γ.P b ∨ b ∈ Z ∨ b ∈ E ∨ (Own τ σ H b ∧ ¬ s.foot H v b) → B b) (nd : E.Nodup) (sub : ∀ b, b ∈ E → s.foot H v b ∨ b ∈ N)
    (zs : ∀ b, b ∈ Z → s.foot H v b ∨ b ∈ N) (zE : ∀ b, b ∈ Z → b ∉ E) (zT : ∀ b, b ∈ Z → Th H' b) :
    Rel g (γ.withs (fun a => a ∈ Z)) (τ.set i (s.bput e)) σ H' ∧ Kp (fun a => Own τ σ H a ∨ a ∈ N) H (fun b => Own (τ.set i (s.bput e)) σ H' b ∨ b ∈ Z) H' ∧ ∀ b, Own (τ.set i (s.bput e)) σ H' b → b ∈ E ∨ (Own τ σ H b ∧ ¬ s.foot H v b) := by
  have hl : i < τ.length := (List.getElem?_eq_some_iff.mp hs).1
  have ow : ∀ b, s.foot H v b → OwnAt τ σ H i b := fun b h => ⟨s, v, hs, hv, h⟩
  have nN : ∀ b, b ∈ N → ¬ Own τ σ H b := fun b m => (R.pal b (.inr m)).2
  have ft : ∀ b, (s.bput e).foot H' v b ↔ b ∈ E := fun b => by
    have q : (∃ F, Ft H' v e F ∧ b ∈ F) ↔ b ∈ E := ⟨fun ⟨F, hF, m⟩ => by rw [hF.det n'.ft] at m; exact m, fun m => ⟨E, n'.ft, m⟩⟩
    cases s <;> first | exact q | cases hb
  have oth : ∀ {j : Nat} {t : Slot} {w : V} {b : Addr}, j ≠ i → τ[j]? = some t → σ[j]? = some (some w) → t.foot H w b → ¬ s.foot H v b ∧ b ∉ N := fun {j t w b} hj ht hw hf =>
    ⟨fun z => hj (R.inj j i b ⟨t, w, ht, hw, hf⟩ (ow b z)), fun m => nN b m ⟨j, t, w, ht, hw, hf⟩⟩
  have foot_o : ∀ {j : Nat} {t : Slot} {w : V} {b : Addr}, j ≠ i → τ[j]? = some t → σ[j]? = some (some w) → (t.foot H' w b ↔ t.foot H w b) := fun {j t w b} hj ht hw => Slot.foot_same R ht hw fun a o e q => by
    rcases q with q | ⟨_, q⟩
    · exact k a o (fun z => q (.inr ⟨i, ow a z⟩)) (fun m => q (.inl (.inr m))) e
    · obtain ⟨x, y⟩ := oth hj ht hw q
      exact k a o x y e
  have at_i : ∀ {b}, OwnAt (τ.set i (s.bput e)) σ H' i b ↔ b ∈ E := fun {b} => by
    constructor
    · rintro ⟨t, w, ht, hw, hf⟩
      rw [List.getElem?_set_self hl] at ht; cases ht
      rw [hv] at hw; cases hw
      exact (ft b).mp hf
    · exact fun m => ⟨_, v, List.getElem?_set_self hl, hv, (ft b).mpr m⟩
  have at_j : ∀ {j b}, j ≠ i → (OwnAt (τ.set i (s.bput e)) σ H' j b ↔ OwnAt τ σ H j b) := fun {j b} hj => by
    constructor
    · rintro ⟨t, w, ht, hw, hf⟩
      rw [List.getElem?_set_ne (Ne.symm hj)] at ht
      exact ⟨t, w, ht, hw, (foot_o hj ht hw).mp hf⟩
    · rintro ⟨t, w, ht, hw, hf⟩
      exact ⟨t, w, by rw [List.getElem?_set_ne (Ne.symm hj)]; exact ht, hw, (foot_o hj ht hw).mpr hf⟩
  have sub2 : ∀ b, Own (τ.set i (s.bput e)) σ H' b → b ∈ E ∨ (Own τ σ H b ∧ ¬ s.foot H v b) := fun b ⟨j, h⟩ => by
    by_cases hj : j = i
    · subst hj
      exact .inl (at_i.mp h)
    · have q := (at_j hj).mp h
      exact .inr ⟨⟨j, q⟩, fun z => hj (R.inj j i b q (ow b z))⟩
  have old : ∀ b, b ∈ E ∨ (Own τ σ H b ∧ ¬ s.foot H v b) → Own τ σ H b ∨ b ∈ N := fun b z => z.elim (fun m => (sub b m).imp (fun y => ⟨i, ow b y⟩) id) fun y => .inl y.1
  have zold : ∀ b, b ∈ Z → Own τ σ H b ∨ b ∈ N := fun b m => (zs b m).imp (fun y => ⟨i, ow b y⟩) id
  have kO : Kp (fun a => Own τ σ H a ∨ a ∈ N) H (fun b => Own (τ.set i (s.bput e)) σ H' b ∨ b ∈ Z) H' := fun b o eb n => ⟨k b o (fun z => n (.inl ⟨i, ow b z⟩)) (fun m => n (.inr m)) eb, fun z => z.elim (fun y => n (old b (sub2 b y))) fun m => n (zold b m)⟩
  have lA : ∀ b, Av (γ.withs (fun a => a ∈ Z)) (τ.set i (s.bput e)) σ H' b → Av (γ.withs (fun a => a ∈ N)) τ σ H b := fun b z => by
    rcases z with (z | z) | z
    · exact .inl (.inl z)
    · exact (zold b z).elim .inr fun m => .inl (.inr m)
    · exact (old b (sub2 b z)).elim .inr fun m => .inl (.inr m)
  have lB : ∀ b, Av (γ.withs (fun a => a ∈ Z)) (τ.set i (s.bput e)) σ H' b → B b := fun b z => hB b (by
    rcases z with (z | z) | z
    · exact .inl z
    · exact .inr (.inl z)
    · exact .inr (.inr (sub2 b z)))
  have kA : Kp (Av (γ.withs (fun a => a ∈ N)) τ σ H) H (Av (γ.withs (fun a => a ∈ Z)) (τ.set i (s.bput e)) σ H') H' := fun b o eb n => ⟨k b o (fun z => n (.inr ⟨i, ow b z⟩)) (fun m => n (.inl (.inr m))) eb, fun z => n (lA b z)⟩
  have nei : ∀ {j : Nat} {t : Slot}, (τ.set i (s.bput e))[j]? = some t → t.isBox = false → j ≠ i := fun {j t} hj ht z => by
    subst z
    rw [List.getElem?_set_self hl] at hj
    cases hj
    cases s <;> first | (cases hb; done) | (cases ht; done)
  have ce : ∀ {j : Nat} {t : Slot} {b : Addr} {d2 : D}, j ≠ i → τ[j]? = some t → t.isSim = true → σ[j]? = some (some (.ref b)) → Cont g H (Av (γ.withs (fun a => a ∈ N)) τ σ H) b d2 → Cont g H' (Av (γ.withs (fun a => a ∈ Z)) (τ.set i (s.bput e)) σ H') b d2 := fun {j t b d2} hj ht hs' hw c => by
    obtain ⟨x, y⟩ := oth hj ht hw ((Slot.foot_sim hs').mpr rfl)
    obtain ⟨u, eu⟩ := c.there
    exact c.mono kA ((k b u x y eu).trans eu.symm)
  have nE : Nst g H' (Av (γ.withs (fun a => a ∈ Z)) (τ.set i (s.bput e)) σ H') v e E := Nst.mono (Kp.less lB) (fun _ _ _ q => q) n'
  refine ⟨⟨by rw [List.length_set]; exact R.len, fun j d' h => ?_, fun j d' h => ?_, fun j d' h => ?_, fun j d' h => ?_, fun j d' h => ?_, fun j l b h1 h2 => ?_, fun b h => ?_⟩, kO, sub2⟩
  · have hj := nei h rfl
    rw [List.getElem?_set_ne (Ne.symm hj)] at h
    obtain ⟨w, ew, r⟩ := R.im j d' h
    exact ⟨w, ew, r.kp kA⟩
  · have hj := nei h rfl
    rw [List.getElem?_set_ne (Ne.symm hj)] at h
    obtain ⟨b, eb, c⟩ := R.ow j d' h
    exact ⟨b, eb, ce hj h rfl eb c⟩
  · have hj := nei h rfl
    rw [List.getElem?_set_ne (Ne.symm hj)] at h
    obtain ⟨eb, c⟩ := R.mu j d' h
    exact ⟨eb, ce hj h rfl eb c⟩
  · by_cases hj : j = i
    · subst hj
      rw [List.getElem?_set_self hl] at h
      cases s with
      | bx d0 =>
        cases h
        exact ⟨v, hv, E, nE, nd⟩
      | mb d0 => cases h
      | _ => cases hb
    · rw [List.getElem?_set_ne (Ne.symm hj)] at h
      obtain ⟨w, ew, c⟩ := R.bx j d' h
      exact ⟨w, ew, c.mono kA fun F hF b o m eb => by
        obtain ⟨x, y⟩ := oth hj h ew (b := b) ⟨F, hF, m⟩
        exact k b o x y eb⟩
  · by_cases hj : j = i
    · subst hj
      rw [List.getElem?_set_self hl] at h
      cases s with
      | mb d0 =>
        cases h
        obtain ⟨ew, _⟩ := R.mb j d0 hs
        have e1 := ew
        rw [hv] at e1; cases e1
        exact ⟨ew, E, nE, nd⟩
      | bx d0 => cases h
      | _ => cases hb
    · rw [List.getElem?_set_ne (Ne.symm hj)] at h
      obtain ⟨ew, c⟩ := R.mb j d' h
      exact ⟨ew, c.mono kA fun F hF b o m eb => by
        obtain ⟨x, y⟩ := oth hj h ew (b := b) ⟨F, hF, m⟩
        exact k b o x y eb⟩
  · by_cases hj : j = i
    · by_cases hl' : l = i
      · rw [hj, hl']
      · subst hj
        exfalso
        have m := at_i.mp h1
        have q := (at_j hl').mp h2
        rcases sub b m with z | z
        · exact hl' (R.inj l j b q (ow b z))
        · exact nN b z ⟨l, q⟩
    · by_cases hl' : l = i
      · subst hl'
        exfalso
        have m := at_i.mp h2
        have q := (at_j hj).mp h1
        rcases sub b m with z | z
        · exact hj (R.inj j l b q (ow b z))
        · exact nN b z ⟨j, q⟩
      · exact R.inj j l b ((at_j hj).mp h1) ((at_j hl').mp h2)
  · rcases h with h | h
    · obtain ⟨t, n⟩ := R.pal b (.inl h)
      have x : ¬ s.foot H v b := fun z => n ⟨i, ow b z⟩
      have y : b ∉ N := fun m => np b m h
      exact ⟨t.up fun o eb => k b o x y eb, fun z => (old b (sub2 b z)).elim n y⟩
    · refine ⟨zT b h, fun z => ?_⟩
      rcases sub2 b z with m | ⟨m, nf⟩
      · exact zE b h m
      · rcases zs b h with y | y
        · exact nf y
        · exact nN b y m
def bxO (τ : PS0) (i : Nat) : Option D := τ[i]?.bind boxD
theorem bxO_eq {i : Nat} {c : D} (h : bxO τ i = some c) : ∃ s, τ[i]? = some s ∧ s.isBox = true ∧ (s = .bx c ∨ s = .mb c) := by
  unfold bxO at h
  cases e : τ[i]? with
  | none => rw [e] at h; cases h
  | some s =>
    rw [e] at h
    cases s with
    | bx d => cases h; exact ⟨_, rfl, rfl, .inl rfl⟩
    | mb d => cases h; exact ⟨_, rfl, rfl, .inr rfl⟩
    | _ => cases h
theorem Rel.bxO {i : Nat} {c : D} (R : Rel g γ τ σ H) (h : PL.bxO τ i = some c) : ∃ (s : Slot) (v : V) (F : List Addr), τ[i]? = some s ∧ s.isBox = true ∧ σ[i]? = some (some v) ∧ Nst g H (Av γ τ σ H) v c F ∧ F.Nodup ∧ (∀ b, b ∈ F → OwnAt τ σ H i b) ∧ ∀ {H' : Hp} {A' : Addr → Prop}, Nst g H' A' v c F → ∀ b, s.foot H' v b ↔ b ∈ F := by
  obtain ⟨s, hs, hb, he⟩ := bxO_eq h
  have key : ∃ v, σ[i]? = some (some v) ∧ Box g H (Av γ τ σ H) v c ∧ ∀ (H' : Hp) b, s.foot H' v b ↔ ∃ F, Ft H' v c F ∧ b ∈ F := by
    rcases he with rfl | rfl
    · obtain ⟨v, hv, c'⟩ := R.bx i _ hs
      exact ⟨v, hv, c', fun _ b => Iff.rfl⟩
    · obtain ⟨hv, c'⟩ := R.mb i _ hs
      exact ⟨_, hv, c', fun _ b => Iff.rfl⟩
  obtain ⟨v, hv, ⟨F, n', nd⟩, ft⟩ := key
  exact ⟨s, v, F, hs, hb, hv, n', nd, fun b m => ⟨s, v, hs, hv, (ft H b).mpr ⟨F, n'.ft, m⟩⟩, fun {H' A'} n2 b => (ft H' b).trans ⟨fun ⟨E, hE, m⟩ => by rw [hE.det n2.ft] at m; exact m, fun m => ⟨F, n2.ft, m⟩⟩⟩
end
end PL

/-! PL73: calls of such defs and methods; objects made. -/
namespace PL
open PySem PySem.Spec PyProof.Rows L2
section
variable {X : Cx} {W : WX} {g : Gc} {γ : G} {τ τ' τ1 τ2 : PS0} {σ σ' σ1 : L2.St} {H H' H1 H2 : Hp} {A : Addr → Prop} {a p : Addr} {v : V} {d : D} {k kr : Kd} {rk : Rk} {m m1 m2 : Bool} {e : Expr} {es : List Expr} {f : M D} {fs : M (List D)} {pos : Pos} {F E : List Addr}
/-- behind a call that changed the box of slot i -/
theorem Rel.called {i : Nat} {s : Slot} {c o : D} {F F' Z : List Addr} (R : Rel g γ τ σ H) (hs : τ[i]? = some s) (hb : s.isBox = true) (hv : σ[i]? = some (some (.ref a))) (n1 : Nst g H (Av γ τ σ H) (.ref a) c F) (ow : ∀ b, b ∈ F → OwnAt τ σ H i b) (ff : ∀ {H' : Hp} {A' : Addr → Prop}, Nst g H' A' (.ref a) c F → ∀ b, s.foot H' (.ref a) b ↔ b ∈ F)
    (k0 : ∀ b u, b ∉ F → H b = some u → H' b = some u) (nd' : F'.Nodup) (sub : ∀ b, b ∈ F' → b ∈ F ∨ H b = none) (zs : ∀ b, b ∈ Z → b ∈ F ∨ H b = none) (zE : ∀ b, b ∈ Z → b ∉ F') (zT : ∀ b, b ∈ Z → Th H' b) (n' : Nst g H' (fun b => AvM (Av γ τ σ H) F F' b ∨ b ∈ Z) (.ref a) o F') :
    Rel g (γ.withs (fun b => b ∈ Z)) (bputO i o τ) σ H' ∧ Kp (Own τ σ H) H (fun b => Own (bputO i o τ) σ H' b ∨ b ∈ Z) H' ∧ ∀ b, Av (γ.withs (fun b => b ∈ Z)) (bputO i o τ) σ H' b → AvM (Av γ τ σ H) F F' b ∨ b ∈ Z := by
  classical
  rw [bputO_eq hs]
  obtain ⟨N, hN⟩ : ∃ N : List Addr, ∀ b, b ∈ N ↔ (b ∈ F' ∨ b ∈ Z) ∧ H b = none := ⟨(F' ++ Z).filter fun b => decide (H b = none), fun b => by rw [List.mem_filter, List.mem_append, decide_eq_true_eq]⟩
  obtain ⟨Hx, hx1, hx2⟩ : ∃ Hx : Hp, (∀ b, b ∈ N → Hx b = H' b) ∧ ∀ b, b ∉ N → Hx b = H b := ⟨fun b => if b ∈ N then H' b else H b, fun b m => if_pos m, fun b m => if_neg m⟩
  have sm : Same H Hx := fun b u eb => by rw [hx2 b fun m => by rw [((hN b).mp m).2] at eb; cases eb]; exact eb
  have R1 := R.news (F := N) (H' := Hx) (fun b m => ((hN b).mp m).2) sm fun b m => by
    have : Th H' b := ((hN b).mp m).1.elim (n'.th b) (zT b)
    exact this.imp fun u q => ⟨(hx1 b m).trans q.1, q.2⟩
  have nx : Nst g Hx (Av γ τ σ H) (.ref a) c F := Nst.mono (fun b u eb nb => ⟨sm b u eb, nb⟩) (fun b u _ eb => sm b u eb) n1
  have fx := ff nx
  have inN : ∀ b, (b ∈ F' ∨ b ∈ Z) → (b ∈ F ∨ H b = none) → s.foot Hx (.ref a) b ∨ b ∈ N := fun b h1 h2 => h2.imp (fx b).mpr fun z => (hN b).mpr ⟨h1, z⟩
  have npF : ∀ b, γ.P b → b ∉ F := fun b h m => (R.pal b h).2 ⟨i, ow b m⟩
  obtain ⟨R2, k2, o2⟩ := Rel.bxPutZ (e := o) (N := N) (Z := Z) (B := fun b => AvM (Av γ τ σ H) F F' b ∨ b ∈ Z) R1 (fun b m h => by
      obtain ⟨u, eu⟩ := (R.pal b h).1.ex
      rw [((hN b).mp m).2] at eu
      cases eu) hs hb hv (fun b u nf nN eb => k0 b u (fun m => nf ((fx b).mpr m)) (by rw [← hx2 b nN]; exact eb)) n' (fun b z => by
      rcases z with z | z | z | ⟨z, nf⟩
      · exact .inl (.inl ⟨.inl z, npF b z⟩)
      · exact .inr z
      · exact .inl (.inr z)
      · exact .inl (.inl ⟨.inr ((R.own_same sm).mp z), fun m => nf ((fx b).mpr m)⟩)) nd' (fun b m => inN b (.inl m) (sub b m)) (fun b m => inN b (.inr m) (zs b m)) zE zT
  refine ⟨R2, Kp.trans (fun b u eb nb => ⟨sm b u eb, fun z => z.elim (fun y => nb ((R.own_same sm).mp y)) fun m => by rw [((hN b).mp m).2] at eb; cases eb⟩) k2, fun b z => ?_⟩
  rcases z with (z | z) | z
  · exact .inl (.inl ⟨.inl z, npF b z⟩)
  · exact .inr z
  · rcases o2 b z with m | ⟨y, nf⟩
    · exact .inl (.inr m)
    · exact .inl (.inl ⟨.inr ((R.own_same sm).mp y), fun m => nf ((fx b).mpr m)⟩)
def callB (i : Nat) (mf : List D → DR) (fs : M (List D)) : M D := andThen fs fun ds τ => match bxO τ i with
  | some c => (match mf (c :: ds) with
    | .ret d o => .ok d (bputO i o τ)
    | .exc nm o => .exc nm (bputO i o τ)
    | .stuck => .stuck)
  | none => .stuck
/-! ### f(x, ..), x an object -/
def callM (i : Nat) (n : Str) (mf : List D → DR) (fs : M (List D)) : M D := andThen (fun τ => match obF τ i n with | some _ => .ok () τ | none => .stuck) fun _ => callB i mf fs
/-! ### x.m(..) -/
/-- no field has the method's name -/
def noFld (ds : List (Str × D)) (mn : Str) : Bool := (ds.lookup mn).isNone
def methM (i : Nat) (n mn : Str) (mf : List D → DR) (fs : M (List D)) : M D := andThen (fun τ => match obF τ i n with | some ds => if noFld ds mn = true then .ok () τ else .stuck | none => .stuck) fun _ => callB i mf fs
/-! ### C(..) -/
def makeM (n : Str) (mf : List D → DR) (fs : M (List D)) : M D := andThen fs fun ds τ => match mf (.nx (.ob n []) :: ds) with
  | .ret .non o => .ok o τ
  | _ => .stuck
end
end PL

/-! PL74: objects made; dicts of the module, text to text. -/
namespace PL
open PySem PySem.Spec PyProof.Rows L2
section
variable {X : Cx} {W : WX} {g : Gc} {γ : G} {τ τ' τ1 τ2 : PS0} {σ σ' σ1 : L2.St} {H H' H1 H2 : Hp} {A : Addr → Prop} {a p : Addr} {v : V} {d : D} {k kr : Kd} {rk : Rk} {m m1 m2 : Bool} {e : Expr} {es : List Expr} {f : M D} {fs : M (List D)} {pos : Pos} {F E : List Addr}
/-! ### C(..) -/
/-! ### a dict of the module, text to text -/
inductive DEs (P : Params) : List DictEntry → List (List Nat × List Nat) → Prop
  | nil : DEs P [] []
  | cons {y : DictEntry} {ys : List DictEntry} {a b : List Nat} {t u : Tok} {r : List (List Nat × List Nat)} : y.key = .str (S a) t → y.hash = PyData.keyHash P (S a) → y.val = .str (S b) u → DEs P ys r → DEs P (y :: ys) ((a, b) :: r)
theorem DEs.find {P : Params} (z : List Nat) : ∀ {ys : List DictEntry} {r : List (List Nat × List Nat)}, DEs P ys r → match r.lookup z with
    | some b => ∃ y u, ys.find? (·.key.isStr (S z)) = some y ∧ y.val = .str (S b) u
    | none => ys.find? (·.key.isStr (S z)) = none
  | _, _, .nil => rfl
  | _, _, .cons (y := y) (a := a) (b := b) (u := u) h1 h2 h3 q => by
    have e : y.key.isStr (S z) = (a == z) := by rw [h1]; exact S_beq a z
    by_cases h : a = z
    · subst h
      rw [List.lookup_cons, beq_self_eq_true, List.find?_cons, e, beq_self_eq_true]
      exact ⟨y, u, rfl, h3⟩
    · have e2 : (z == a) = false := by rw [beq_eq_false_iff_ne]; exact fun q => h q.symm
      have e3 : (a == z) = false := by rw [beq_eq_false_iff_ne]; exact h
      rw [List.lookup_cons, e2, List.find?_cons, e, e3]
      exact DEs.find z q
structure MD (K : PySem.W.Frag) (w : World) (mg : Str → Option Value) (x : Str) (r : List (List Nat × List Nat)) : Prop where
  ex : ∃ d ys n, mg x = some (.ref d) ∧ KDict K w d ys n ∧ DEs w.params ys.toList r
def mdV (neg : Bool) (r : List (List Nat × List Nat)) : D → Option D
  | .str z => some (.bl (if neg then !(r.lookup z).isSome else (r.lookup z).isSome))
  | _ => none
def mdIn (neg : Bool) (r : List (List Nat × List Nat)) (f : M D) : M D := andThen f fun d => lift (mdV neg r d)
def mdG (r : List (List Nat × List Nat)) : D → Option D
  | .str z => (r.lookup z).map .str
  | _ => none
def mdAt (r : List (List Nat × List Nat)) (f : M D) : M D := andThen f fun d => lift (mdG r d)
end
end PL

/-! PL75: methods and constructors that are proved. -/
namespace PL
open PySem PySem.Spec PyProof.Rows L2
structure KnO (P : Program) (w : World) (K : PySem.W.Frag) (mg : Str → Option Value) (base : Heap) (m : Prop) (ps : List Str) (f : Addr) (fd : FuncData) (k : Nat) (sp : Sp) : Prop where
  m : m
  b : Binds K fd ps []
  ok : FnOk P w K mg base (L2.CX P w) k f fd ps sp
structure FnO (K : PySem.W.Frag) (m : Prop) (x q : Str) (st : Stmt) (ps : List Str) (f : Addr) (fd : FuncData) : Prop where
  F : Fun K x q st f fd
  b : Binds K fd ps []
  m : m
section
variable {X : Cx} {W : WX} {g : Gc} {m : Bool} {e : Expr} {f : M D} {pos : Pos}
end
end PL

/-! PL76: except without a name; a box held as a fixed value from here on; methods of fixed objects. -/
namespace PL
open PySem PySem.Spec PyProof.Rows L2
/-- cl tells of an error whether it is caught here -/
def tryN (cl : Str → Option Bool) (body suite : SM) : SM := fun τ => match body τ with
  | .exc n τ1 => (match cl n with
    | some true => (match suite τ1 with
      | .nx τ2 => .nx τ2
      | .ret d τ2 => .ret d τ2
      | _ => .stuck)
    | some false => .exc n τ1
    | none => .stuck)
  | r => r
section
variable {X : Cx} {W : WX} {g : Gc} {γ : G} {τ τ' τ1 τ2 : PS0} {σ σ' σ1 : L2.St} {H H' H1 H2 : Hp} {A : Addr → Prop} {a p : Addr} {v : V} {d : D} {k kr : Kd} {rk : Rk} {m m1 m2 : Bool} {e : Expr} {es : List Expr} {f : M D} {fs : M (List D)} {pos np pos' : Pos} {F E : List Addr}
variable {x : Str} {c : Value} {body suite : List Stmt} {st₀ st : Stmt} {fb fs' : SM} {cl : Str → Option Bool}
/-! ### a box held as a fixed value -/
theorem Rel.frzB {i : Nat} (R : Rel g γ τ σ H) (h : τ[i]? = some (.bx d)) (ok : d.okB = true) : Rel g γ (τ.set i (.im d.fix)) σ H ∧ Kp (Own τ σ H) H (Own (τ.set i (.im d.fix)) σ H) H := by
  obtain ⟨v, hv, F, n, nd⟩ := R.bx i d h
  have hlt : i < τ.length := (List.getElem?_eq_some_iff.mp h).1
  have fo : ∀ z, z ∈ F → OwnAt τ σ H i z := fun z m => ⟨_, _, h, hv, F, n.ft, m⟩
  have oat : ∀ {j : Nat} {a : Addr}, OwnAt (τ.set i (.im d.fix)) σ H j a → OwnAt τ σ H j a ∧ j ≠ i := fun {j a} ⟨s, w, hs, hw, hf⟩ => by
    by_cases q : j = i
    · subst q
      rw [List.getElem?_set_self hlt] at hs
      cases hs
      exact (foot_no rfl hf).elim
    · rw [List.getElem?_set_ne (Ne.symm q)] at hs
      exact ⟨⟨s, w, hs, hw, hf⟩, q⟩
  have sub : ∀ a, Own (τ.set i (.im d.fix)) σ H a → Own τ σ H a := fun a ⟨j, z⟩ => ⟨j, (oat z).1⟩
  have kO : Kp (Own τ σ H) H (Own (τ.set i (.im d.fix)) σ H) H := Kp.less sub
  have k : Kp (Av γ τ σ H) H (Av γ (τ.set i (.im d.fix)) σ H) H := Kp.less fun a z => z.imp id (sub a)
  have nb : ∀ a, a ∈ F → ¬ Av γ (τ.set i (.im d.fix)) σ H a := fun a m z => by
    have oa := fo a m
    rcases z with z | ⟨j, z⟩
    · exact (R.pal a z).2 ⟨i, oa⟩
    · obtain ⟨o1, o2⟩ := oat z
      exact o2 (R.inj j i a o1 oa)
  have ne : ∀ {j : Nat} {s : Slot}, (τ.set i (.im d.fix))[j]? = some s → (∀ e, s ≠ .im e) → j ≠ i := fun {j s} hs hn q => by
    subst q
    rw [List.getElem?_set_self hlt] at hs
    cases hs
    exact hn _ rfl
  refine ⟨⟨by rw [List.length_set]; exact R.len, fun j d' hj => ?_, fun j d' hj => ?_, fun j d' hj => ?_, fun j d' hj => ?_, fun j d' hj => ?_, fun j l a h1 h2 => R.inj j l a (oat h1).1 (oat h2).1, fun a ha => ⟨(R.pal a ha).1, fun z => (R.pal a ha).2 (sub a z)⟩⟩, kO⟩
  · by_cases q : j = i
    · subst q
      rw [List.getElem?_set_self hlt] at hj
      cases hj
      exact ⟨v, hv, Nst.fix k n ok nb⟩
    · rw [List.getElem?_set_ne (Ne.symm q)] at hj
      obtain ⟨w, ew, r⟩ := R.im j d' hj
      exact ⟨w, ew, r.kp k⟩
  · have q := ne hj fun _ z => nomatch z
    rw [List.getElem?_set_ne (Ne.symm q)] at hj
    obtain ⟨w, ew, c⟩ := R.ow j d' hj
    exact ⟨w, ew, c.mono k rfl⟩
  · have q := ne hj fun _ z => nomatch z
    rw [List.getElem?_set_ne (Ne.symm q)] at hj
    obtain ⟨ew, c⟩ := R.mu j d' hj
    exact ⟨ew, c.mono k rfl⟩
  · have q := ne hj fun _ z => nomatch z
    rw [List.getElem?_set_ne (Ne.symm q)] at hj
    obtain ⟨w, ew, c⟩ := R.bx j d' hj
    exact ⟨w, ew, c.mono k fun _ _ _ _ _ e => e⟩
  · have q := ne hj fun _ z => nomatch z
    rw [List.getElem?_set_ne (Ne.symm q)] at hj
    obtain ⟨ew, c⟩ := R.mb j d' hj
    exact ⟨ew, c.mono k fun _ _ _ _ _ e => e⟩
def frzBO (i : Nat) (τ : PS0) : Option PS0 := match τ[i]? with
  | some (.bx d) => if d.okB = true then some (τ.set i (.im d.fix)) else none
  | _ => none
def frzBS (i : Nat) (f : SM) : SM := fun τ => match f τ with
  | .nx τ' => (match frzBO i τ' with
    | some τ2 => .nx τ2
    | none => .stuck)
  | r => r
/-! ### x.m(..), x a fixed object -/
def obI (i : Nat) (n mn : Str) : M D := fun τ => match imF τ i n with
  | some ds => if noFld ds mn = true then .ok (.ob n ds) τ else .stuck
  | none => .stuck
def callV (mf : List D → DR) (o : D) (fs : M (List D)) : M D := andThen fs fun ds τ => match mf (o :: ds) with
  | .ret d _ => .ok d τ
  | .exc n _ => .exc n τ
  | .stuck => .stuck
def methV (i : Nat) (n mn : Str) (mf : List D → DR) (fs : M (List D)) : M D := andThen (obI i n mn) fun o => callV mf o fs
end
end PL

/-! PL77: statements that give a token out; returns and ifs that want one; x.replace(y, z, 1). -/
namespace PLR
open PySem Builtin Builtin.Str
/-! ### x.replace(y, z, 1) -/
end PLR
namespace PL
open PySem PySem.Spec PyProof.Rows L2
section
variable {X : Cx} {W : WX} {g : Gc} {γ : G} {τ τ' τ1 τ2 : PS0} {σ σ' σ1 : L2.St} {H H' H1 H2 : Hp} {A : Addr → Prop} {p : Addr} {v : V} {d : D} {k k1 k2 k3 kr : Kd} {rk : Rk} {m m1 m2 m3 : Bool} {e e1 e2 a b c tg iter elt : Expr} {es rest : List Expr} {f fa fb fc : M D} {t u : M Bool} {fs : M (List D)} {pos : Pos} {st : Stmt} {sts sts2 : List Stmt} {h h1 h2 : SM}
/-- behind the statement a token is out -/
def PSG (X : Cx) (st : Stmt) (t : TS) : Prop := ∀ (pins : List (Addr × Obj)) (s : Shared) (σ : L2.St) (H : Hp) (D : Ends), Inv X pins σ H s → t D σ H → wpAny (model X.prog X.w) X.A (exec st X.env) (fun f s1 => 1 ≤ s1.toks ∧ SP X pins D f s1) X.xe s
theorem PSG.weak {t t' : TS} (h : PSG X st t) (w : ∀ D σ H, t' D σ H → t D σ H) : PSG X st t' := fun pins s σ H D I q => h pins s σ H D I (w D σ H q)
end
section
variable {X : Cx} {W : WX} {k : Kd} {m : Bool} {a : Expr} {fa : M D} {pos : Pos}
end
end PL

/-! PL78: a dict beside {}; the keys of a dict by texts, sorted. -/
namespace PL
open PySem PySem.Spec PyProof.Rows L2
section
variable {X : Cx} {g : Gc}
/-! ### d == {}, d != {} -/
/-! ### sorted(d), d by texts -/
end
end PL

/-! PL79: x = [.. for .. in self.f ..], the object held as it is. -/
namespace PL
open PySem PySem.Spec PyProof.Rows L2
section
variable {X : Cx} {W : WX} {γ : G} {τ : PS0} {m : Bool} {rk : Rk} {f : M D} {fs : M (List D)} {t : M Bool} {tg iter elt : Expr} {pos : Pos}
end
end PL

/-! PL80: calls that look at dicts of one's own beside what they change. -/
namespace PL
open PySem PySem.Spec PyProof.Rows L2
/-! ### data without dicts by keys -/
/-- what is no dict by keys may be set apart too -/
def DkOr (H : Hp) (A B : Addr → Prop) : Prop := ∀ b, B b → A b ∨ ∃ kvs, H b = some (.dK kvs)
section
variable {g : Gc} {H H' : Hp} {A B : Addr → Prop} {v : V} {a : Addr} {d : D}
theorem DkOr.no {o : HO} (hB : DkOr H A B) {b : Addr} (h : H b = some o) (n : ¬ A b) (ne : ∀ kvs, o ≠ .dK kvs) : ¬ B b := fun z => (hB b z).elim n fun ⟨kvs, e⟩ => by
  rw [h] at e
  exact ne kvs (Option.some.inj e)
end
/-! ### arguments, names of one's own among them -/
inductive RepH (g : Gc) (H : Hp) (A : Addr → Prop) (σ : L2.St) : List (Option Nat) → List V → List D → Prop
  | nil : RepH g H A σ [] [] []
  | val {v : V} {d : D} {hs : List (Option Nat)} {vs : List V} {ds : List D} : Rep g H A v d → RepH g H A σ hs vs ds → RepH g H A σ (none :: hs) (v :: vs) (d :: ds)
  | hole {i : Nat} {v : V} {hs : List (Option Nat)} {vs : List V} {ds : List D} : σ[i]? = some (some v) → RepH g H A σ hs vs ds → RepH g H A σ (some i :: hs) (v :: vs) (.non :: ds)
section
variable {X : Cx} {W : WX} {g : Gc} {γ : G} {τ τ1 τ2 : PS0} {σ : L2.St} {H H' H1 H2 : Hp} {A A' : Addr → Prop} {a : Addr} {v : V} {d : D} {m m1 m2 : Bool} {e : Expr} {es : List Expr} {f : M D} {fs : M (List D)} {pos : Pos} {hs hs0 : List (Option Nat)} {vs : List V} {ds full : List D}
theorem RepH.kp (k : Kp A H A' H') : ∀ {hs vs ds}, RepH g H A σ hs vs ds → RepH g H' A' σ hs vs ds
  | _, _, _, .nil => .nil
  | _, _, _, .val r t => .val (r.kp k) (RepH.kp k t)
  | _, _, _, .hole e t => .hole e (RepH.kp k t)
theorem RepH.len : ∀ {hs vs ds}, RepH g H A σ hs vs ds → vs.length = ds.length
  | _, _, _, .nil => rfl
  | _, _, _, .val _ t => congrArg (· + 1) t.len
  | _, _, _, .hole _ t => congrArg (· + 1) t.len
/-! ### f(x, .., y, ..): x is changed, y (a dict of one's own) is looked at -/
end
end PL

/-! PL81: defs whose arguments are fixed, changed, or boxes, in any order. -/
namespace PL
open PySem PySem.Spec PyProof.Rows L2
section
variable {g : Gc} {H H' : Hp} {A B : Addr → Prop} {v : V} {a : Addr} {d : D}
end
/-! ### what an argument is -/
inductive Tg | v | u | b
def wgS : Tg → D → Slot
  | .v, d => .im d
  | .u, d => .mu d
  | .b, d => .mb d
def wgZ : List Tg → List D → PS0
  | t :: ts, d :: ds => wgS t d :: wgZ ts ds
  | _, _ => []
inductive TgP (p q : D → Prop) : List Tg → List D → Prop
  | nil : TgP p q [] []
  | v {ts : List Tg} {os : List D} : TgP p q ts os → TgP p q (.v :: ts) os
  | u {ts : List Tg} {os : List D} {o : D} : p o → TgP p q ts os → TgP p q (.u :: ts) (o :: os)
  | b {ts : List Tg} {os : List D} {o : D} : q o → TgP p q ts os → TgP p q (.b :: ts) (o :: os)
section
variable (g : Gc) (H : Hp) (A : Addr → Prop) (U : Option Addr) (B : Addr) (F : List Addr)
inductive TgA : List Tg → List V → List D → Prop
  | nil : TgA [] [] []
  | v {v : V} {d : D} {ts : List Tg} {vs : List V} {ds : List D} : Rep g H A v d → TgA ts vs ds → TgA (.v :: ts) (v :: vs) (d :: ds)
  | u {a : Addr} {d : D} {ts : List Tg} {vs : List V} {ds : List D} : U = some a → Cont g H A a d → TgA ts vs ds → TgA (.u :: ts) (.ref a :: vs) (d :: ds)
  | b {d : D} {ts : List Tg} {vs : List V} {ds : List D} : Nst g H A (.ref B) d F → TgA ts vs ds → TgA (.b :: ts) (.ref B :: vs) (d :: ds)
def TgV (t : Tg) (v : V) (d : D) : Prop := match t with
  | .v => Rep g H A v d
  | .u => ∃ a, U = some a ∧ v = .ref a ∧ Cont g H A a d
  | .b => v = .ref B ∧ Nst g H A (.ref B) d F
end
section
variable {g : Gc} {γ : G} {τ τ' τ1 τ2 : PS0} {σ σ' σ1 : L2.St} {H H' H1 H2 : Hp} {A : Addr → Prop} {U : Option Addr} {B : Addr} {F : List Addr} {ts : List Tg} {vs : List V} {ds : List D}
theorem TgA.len : ∀ {ts vs ds}, TgA g H A U B F ts vs ds → vs.length = ts.length ∧ ds.length = ts.length
  | _, _, _, .nil => ⟨rfl, rfl⟩
  | _, _, _, .v _ t => ⟨congrArg (· + 1) t.len.1, congrArg (· + 1) t.len.2⟩
  | _, _, _, .u _ _ t => ⟨congrArg (· + 1) t.len.1, congrArg (· + 1) t.len.2⟩
  | _, _, _, .b _ t => ⟨congrArg (· + 1) t.len.1, congrArg (· + 1) t.len.2⟩
theorem TgA.get {n : Nat} : ∀ {ts vs ds}, TgA g H A U B F ts vs ds → ∀ {i : Nat} {s : Slot}, (wgZ ts ds ++ List.replicate n .no)[i]? = some s → (∃ t d v, ts[i]? = some t ∧ s = wgS t d ∧ (vs.map some ++ List.replicate n none)[i]? = some (some v) ∧ TgV g H A U B F t v d) ∨ s = .no
  | _, _, _, .nil, i, s, h => .inr (List.eq_of_mem_replicate (List.mem_of_getElem? h))
  | _, _, _, .v r t, i, s, h => by
    rcases cons_get h with ⟨rfl, rfl⟩ | ⟨j, rfl, hj⟩
    · exact .inl ⟨.v, _, _, rfl, rfl, rfl, r⟩
    · exact t.get hj
  | _, _, _, .u e c t, i, s, h => by
    rcases cons_get h with ⟨rfl, rfl⟩ | ⟨j, rfl, hj⟩
    · exact .inl ⟨.u, _, _, rfl, rfl, rfl, _, e, rfl, c⟩
    · exact t.get hj
  | _, _, _, .b c t, i, s, h => by
    rcases cons_get h with ⟨rfl, rfl⟩ | ⟨j, rfl, hj⟩
    · exact .inl ⟨.b, _, _, rfl, rfl, rfl, rfl, c⟩
    · exact t.get hj
theorem TgA.has {n : Nat} {t : Tg} : ∀ {ts vs ds}, TgA g H A U B F ts vs ds → ∀ {i : Nat}, ts[i]? = some t → ∃ d v, (wgZ ts ds ++ List.replicate n .no)[i]? = some (wgS t d) ∧ (vs.map some ++ List.replicate n none)[i]? = some (some v) ∧ TgV g H A U B F t v d
  | _, _, _, .nil, i, h => by simp at h
  | _, _, _, .v r t, i, h => by
    rcases cons_get h with ⟨rfl, rfl⟩ | ⟨j, rfl, hj⟩
    · exact ⟨_, _, rfl, rfl, r⟩
    · exact t.has hj
  | _, _, _, .u e c t, i, h => by
    rcases cons_get h with ⟨rfl, rfl⟩ | ⟨j, rfl, hj⟩
    · exact ⟨_, _, rfl, rfl, _, e, rfl, c⟩
    · exact t.has hj
  | _, _, _, .b c t, i, h => by
    rcases cons_get h with ⟨rfl, rfl⟩ | ⟨j, rfl, hj⟩
    · exact ⟨_, _, rfl, rfl, rfl, c⟩
    · exact t.has hj
variable {P : Program} {w : World} {K : PySem.W.Frag} {mg : Str → Option Value} {base : Heap}
end
end PL

/-! PL82: calls of such defs. -/
namespace PL
open PySem PySem.Spec PyProof.Rows L2
section
variable {X : Cx} {W : WX} {g : Gc} {γ : G} {τ τ1 τ2 : PS0} {σ : L2.St} {H H' H1 H2 : Hp} {A A' : Addr → Prop} {a : Addr} {v : V} {d : D} {m m1 m2 : Bool} {e : Expr} {es : List Expr} {f : M D} {fs : M (List D)} {pos : Pos} {hs hs0 : List (Option Nat)} {ts ts0 : List Tg} {vs : List V} {ds full os : List D} {U : Option Addr} {B : Addr} {F F' : List Addr}
theorem Nst.ref (n : Nst g H A v d F) (h : d.isNw = true) : ∃ a, v = .ref a := by
  cases n with
  | im r => rw [r.notNw] at h; cases h
  | _ => exact ⟨_, rfl⟩
end
end PL

/-! PL83: held as fixed ahead of a statement; x.pop(k) of a dict of one's own. -/
namespace PL
open PySem PySem.Spec PyProof.Rows L2
section
variable {X : Cx} {W : WX} {g : Gc} {γ : G} {τ τ' : PS0} {σ : L2.St} {H : Hp} {rk : Rk} {st : Stmt} {f : SM} {pos : Pos}
end
end PL

/-! PL84: lists of boxes; dicts within such a list: x[a].pop(k), x[a][k] = v. -/
namespace PL
open PySem PySem.Spec PyProof.Rows L2
section
variable {X : Cx} {W : WX} {g : Gc} {γ : G} {τ τ' τ1 τ2 : PS0} {σ σ' σ1 : L2.St} {H H' H1 H2 : Hp} {A : Addr → Prop} {a p : Addr} {v : V} {d : D} {k : Kd} {rk : Rk} {m m1 m2 : Bool} {e : Expr} {es : List Expr} {f : M D} {fs : M (List D)} {pos : Pos} {F E : List Addr}
end
end PL

/-! PL85: x[a].pop(k), x[a][k] = v: x a box, a list of dicts. -/
namespace PL
open PySem PySem.Spec PyProof.Rows L2
section
variable {X : Cx} {W : WX} {g : Gc} {γ : G} {τ τ' τ1 τ2 : PS0} {σ σ' σ1 : L2.St} {H H' H1 H2 : Hp} {A : Addr → Prop} {rk : Rk} {m m1 m2 : Bool} {e : Expr} {es : List Expr} {f : M D} {fs : M (List D)} {pos : Pos}
end
end PL

/-! PL86: calls that get an element of a list of boxes. -/
namespace PL
open PySem PySem.Spec PyProof.Rows L2
/-- names of one's own among the arguments: as they are, or an element of one -/
inductive Hl | own (i : Nat) | elt (i : Nat)
inductive RepL (g : Gc) (H : Hp) (A : Addr → Prop) (σ : L2.St) : List (Option Hl) → List V → List D → Prop
  | nil : RepL g H A σ [] [] []
  | val {v : V} {d : D} {hs : List (Option Hl)} {vs : List V} {ds : List D} : Rep g H A v d → RepL g H A σ hs vs ds → RepL g H A σ (none :: hs) (v :: vs) (d :: ds)
  | own {i : Nat} {v : V} {hs : List (Option Hl)} {vs : List V} {ds : List D} : σ[i]? = some (some v) → RepL g H A σ hs vs ds → RepL g H A σ (some (.own i) :: hs) (v :: vs) (.non :: ds)
  | elt {i : Nat} {b : Addr} {ws : List V} {a : Int} {v : V} {hs : List (Option Hl)} {vs : List V} {ds : List D} : σ[i]? = some (some (.ref b)) → H b = some (.lst ws) → atI ws a = some v → RepL g H A σ hs vs ds → RepL g H A σ (some (.elt i) :: hs) (v :: vs) (.int a :: ds)
section
variable {X : Cx} {W : WX} {g : Gc} {γ : G} {τ τ1 τ2 : PS0} {σ : L2.St} {H H' H1 H2 : Hp} {A A' : Addr → Prop} {a : Addr} {v : V} {d : D} {m m1 m2 : Bool} {e : Expr} {es : List Expr} {f : M D} {fs : M (List D)} {pos : Pos} {hs : List (Option Hl)} {ts : List Tg} {vs : List V} {ds full os : List D} {U : Option Addr} {B : Addr} {F F' : List Addr}
theorem RepL.kp (s : Same H H') (k : Kp A H A' H') : ∀ {hs vs ds}, RepL g H A σ hs vs ds → RepL g H' A' σ hs vs ds
  | _, _, _, .nil => .nil
  | _, _, _, .val r t => .val (r.kp k) (RepL.kp s k t)
  | _, _, _, .own e t => .own e (RepL.kp s k t)
  | _, _, _, .elt e1 e2 e3 t => .elt e1 (s _ _ e2) e3 (RepL.kp s k t)
theorem RepL.len : ∀ {hs vs ds}, RepL g H A σ hs vs ds → vs.length = ds.length
  | _, _, _, .nil => rfl
  | _, _, _, .val _ t => congrArg (· + 1) t.len
  | _, _, _, .own _ t => congrArg (· + 1) t.len
  | _, _, _, .elt _ _ _ t => congrArg (· + 1) t.len
end
end PL

/-! PL87: the calls. -/
namespace PL
open PySem PySem.Spec PyProof.Rows L2
section
variable {X : Cx} {W : WX} {g : Gc} {γ : G} {τ τ1 τ2 : PS0} {σ : L2.St} {H H' H1 H2 : Hp} {A A' : Addr → Prop} {a : Addr} {v : V} {d : D} {m m1 m2 : Bool} {e : Expr} {es : List Expr} {f : M D} {fs : M (List D)} {pos : Pos} {hs : List (Option Hl)} {ts : List Tg} {vs : List V} {ds full os : List D} {U : Option Addr} {B : Addr} {F F' : List Addr}
end
end PL

/-! PL88: f(x[i], .., y, ..): arguments fixed, changed, boxes; elements of lists of boxes among them. -/
namespace PL
open PySem PySem.Spec PyProof.Rows L2
section
variable {X : Cx} {W : WX} {g : Gc} {γ : G} {τ τ1 τ2 : PS0} {σ : L2.St} {H H' H1 H2 : Hp} {A A' : Addr → Prop} {a : Addr} {v : V} {d : D} {m m1 m2 : Bool} {e : Expr} {es : List Expr} {f : M D} {fs : M (List D)} {pos : Pos} {hs : List (Option Hl)} {ts : List Tg} {vs : List V} {ds full os : List D} {U : Option Addr} {B : Addr} {F F' : List Addr}
end
end PL

/-! PL89: such calls. -/
namespace PL
open PySem PySem.Spec PyProof.Rows L2
section
variable {X : Cx} {W : WX} {g : Gc} {γ : G} {τ τ1 τ2 : PS0} {σ : L2.St} {H H' H1 H2 : Hp} {A A' : Addr → Prop} {a : Addr} {v : V} {d : D} {m m1 m2 : Bool} {e : Expr} {es : List Expr} {f : M D} {fs : M (List D)} {pos : Pos} {hs : List (Option Hl)} {ts : List Tg} {vs : List V} {ds full os : List D} {U : Option Addr} {B : Addr} {F F' : List Addr}
end
end PL

/-! PL90: the rule for such calls. -/
namespace PL
open PySem PySem.Spec PyProof.Rows L2
section
variable {X : Cx} {W : WX} {g : Gc} {γ : G} {τ τ1 τ2 : PS0} {σ : L2.St} {H H' H1 H2 : Hp} {A A' : Addr → Prop} {a : Addr} {v : V} {d : D} {m m1 m2 : Bool} {e : Expr} {es : List Expr} {f : M D} {fs : M (List D)} {pos : Pos} {hs : List (Option Hl)} {ts : List Tg} {vs : List V} {ds full os : List D} {U : Option Addr} {B : Addr} {F F' : List Addr}
end
end PL

/-! PL91: a dict that stands in a list of one's own is locked for good; sorted of a locked dict by texts. -/
namespace PL
open PySem PySem.Spec PyProof.Rows L2
section
variable {X : Cx} {W : WX} {g : Gc} {γ : G} {τ τ' : PS0} {σ : L2.St} {H : Hp} {rk : Rk} {st : Stmt} {f : SM}
end
section
variable {g : Gc}
end
end PL

/-! PL92: tokens: a def whose text is new, a name that holds such a text, x.replace(y, NAME). -/
namespace PL
open PySem PySem.Spec PyProof.Rows L2
/-- a text's token is out -/
def GoodV (n : Nat) (u : Value) : Prop := ∀ x t, u = .str x t → 1 ≤ t ∧ t < n
def GoodR (r : Result) (s : Shared) : Prop := ∀ u, r = .ok (.ret u) → GoodV s.toks u
theorem GoodV.mono {n k : Nat} {u : Value} (h : GoodV n u) (le : n ≤ k) : GoodV k u := fun x t e => ⟨(h x t e).1, Nat.lt_of_lt_of_le (h x t e).2 le⟩
/-- a promise: the text given is new -/
structure FnK (P : Program) (w : World) (K : PySem.W.Frag) (mg : Str → Option Value) (base : Heap) (CX : CXT) (k : Nat) (f : Addr) (fd : FuncData) (ps : List Str) (sp : Sp) : Prop where
  len : ∀ vs H Q E, sp vs H Q E → vs.length = ps.length
  run : ∀ (A : Around) (outer : List Env) (s : Shared) (H : Hp) (args : Args) (us : List Value) (vs : List V) (Q : VK) (E : XK), Room k A → 1 ≤ s.toks → Env0 P w K mg base A outer s H → BindsTo s fd args (ps.zip us) → Vals vs us → sp vs H Q E →
    codeAny (model P w) A (.call (.ref f) args) (fun r s' => GoodR r s' ∧ CR CX outer P w H s Q E r s') s
section
variable {P : Program} {w : World} {K : PySem.W.Frag} {mg : Str → Option Value} {base : Heap}
theorem FnK.mono {CX : CXT} {j k : Nat} {f : Addr} {fd : FuncData} {ps : List Str} {sp : Sp} (F : FnK P w K mg base CX j f fd ps sp) (h : j ≤ k) : FnK P w K mg base CX k f fd ps sp :=
  ⟨F.len, fun A outer s H args us vs Q E hr => F.run A outer s H args us vs Q E (hr.mono h)⟩
end
/-! ### statements that give new texts alone -/
def PSK (X : Cx) (st : Stmt) (t : TS) : Prop := ∀ (pins : List (Addr × Obj)) (s : Shared) (σ : L2.St) (H : Hp) (D : Ends), 1 ≤ s.toks → Inv X pins σ H s → t D σ H → wpAny (model X.prog X.w) X.A (exec st X.env) (fun f s1 => (∀ u, f = .ret u → GoodV s1.toks u) ∧ SP X pins D f s1) X.xe s
def PBK (X : Cx) (st : List Stmt) (t : TS) : Prop := ∀ (pins : List (Addr × Obj)) (s : Shared) (σ : L2.St) (H : Hp) (D : Ends), 1 ≤ s.toks → Inv X pins σ H s → t D σ H → wpAny (model X.prog X.w) X.A (execs st X.env) (fun f s1 => (∀ u, f = .ret u → GoodV s1.toks u) ∧ SP X pins D f s1) X.xe s
def PEK (X : Cx) (e : Expr) (t : TE) : Prop := ∀ (pins : List (Addr × Obj)) (s : Shared) (σ : L2.St) (H : Hp) (Q : VK), 1 ≤ s.toks → Inv X pins σ H s → t σ H Q → wpAny (model X.prog X.w) X.A (eval e X.env) (fun v s1 => GoodV s1.toks v ∧ EP X pins σ Q v s1) X.xe s
section
variable {X : Cx} {st : Stmt} {rest : List Stmt} {t u : TS} {e a b c : Expr} {te ta tb : TE} {pos : Pos}
theorem PSK.weak {t t' : TS} (h : PSK X st t) (w : ∀ D σ H, t' D σ H → t D σ H) : PSK X st t' := fun pins s σ H D k I q => h pins s σ H D k I (w D σ H q)
theorem PBK.weak {t t' : TS} (h : PBK X rest t) (w : ∀ D σ H, t' D σ H → t D σ H) : PBK X rest t' := fun pins s σ H D k I q => h pins s σ H D k I (w D σ H q)
theorem PEK.weak {t t' : TE} (h : PEK X e t) (w : ∀ σ H Q, t' σ H Q → t σ H Q) : PEK X e t' := fun pins s σ H Q k I q => h pins s σ H Q k I (w σ H Q q)
/-- what never returns -/
theorem psk_nx (h : PS X st t) (w : ∀ D σ H, t D σ H → t { D with rt := fun _ _ => False } σ H) : PSK X st t := fun pins s σ H D k I q => thn (h.run pins s σ H _ I (w D σ H q)) fun f s1 z => by
  cases f with
  | next => exact ⟨fun _ e => (nomatch e), z⟩
  | brk => exact ⟨fun _ e => (nomatch e), z⟩
  | cont => exact ⟨fun _ e => (nomatch e), z⟩
  | ret v => obtain ⟨_, _, _, _, _, q⟩ := z; exact q.elim
theorem pbk_nil : PBK X [] tNext := fun pins s σ H D k I q => thn (pss_nil.run pins s σ H { D with rt := fun _ _ => False } I q) fun f s1 z => by
  cases f with
  | next => exact ⟨fun _ e => (nomatch e), z⟩
  | brk => exact ⟨fun _ e => (nomatch e), z⟩
  | cont => exact ⟨fun _ e => (nomatch e), z⟩
  | ret v => obtain ⟨_, _, _, _, _, q⟩ := z; exact q.elim
theorem pbk_cons (h1 : PSK X st t) (h2 : PBK X rest u) : PBK X (st :: rest) (tSeq t u) := by
  intro pins s σ H D h0 I h
  refine wpAny_execs_cons (wpAny_mono (PySem.wpAny_toks (h1 pins s σ H { D with nx := u D } h0 I h)) (fun f s1 q => ?_) fun _ _ x => x.2)
  obtain ⟨hk, g, q⟩ := q
  cases f with
  | next =>
    obtain ⟨σ', H', I', q⟩ := q
    exact h2 pins s1 σ' H' D (Nat.le_trans h0 hk) I' q
  | ret v => exact ⟨g, q⟩
  | brk => exact ⟨g, q⟩
  | cont => exact ⟨g, q⟩
theorem psk_ret (he : PEK X e te) : PSK X (.Return (some e) pos) (tRet te) := fun pins s σ H D h0 I h =>
  wpAny_Return_some (thn (he pins s σ H _ h0 I h) fun v s1 ⟨g, x, H1, I1, r1, q1⟩ => ⟨fun u eu => by cases eu; exact g, x, σ, H1, I1, r1, q1⟩)
theorem psk_if {x y : List Stmt} {tc : TT} (hc : PT X c tc) (ha : PBK X x t) (hb : PBK X y u) : PSK X (.If c x y pos) (tIfS tc t u) := by
  intro pins s σ H D h0 I h
  refine wpAny_If (wpAny_mono (PySem.wpAny_toks (hc.run pins s σ H _ I h)) (fun d s1 q => ?_) fun _ _ z => z.2)
  obtain ⟨hk, H1, I1, q⟩ := q
  cases d with
  | true => exact ha pins s1 σ H1 D (Nat.le_trans h0 hk) I1 q
  | false => exact hb pins s1 σ H1 D (Nat.le_trans h0 hk) I1 q
/-- a sign of a text -/
theorem pek_ix (ha : PE X a ta) (hb : PE X b tb) (hs : PlainIx b) : PEK X (.Subscript a b pos) (tOp rIxS ta tb) := by
  intro pins s σ H Q h0 I h
  refine Subscript_ (wpAny_mono (PySem.wpAny_toks (ha.run pins s σ H _ I h)) (fun v s1 q => ?_) fun _ _ z => z.2)
  obtain ⟨k1, x, H1, I1, r1, q1⟩ := q
  refine wpAny_mono (PySem.wpAny_toks (hb.run pins s1 σ H1 _ I1 q1)) (fun u s2 q => ?_) fun _ _ z => z.2
  obtain ⟨k2, y, H2, I2, r2, z, i, c, rfl, rfl, hz, he, q2⟩ := q
  obtain ⟨t, rfl⟩ := r1
  obtain ⟨t', rfl⟩ := r2
  obtain ⟨j, h1, h2, h3, h4, h5⟩ := atI_get he
  have hl : z.cps.toList.length = z.length := by simp [Str.length]
  rw [hl] at h1 h4 h5
  have hn := line63
  exact tail_any (typeIs_str s2 z t) slot_str_getitem.lookup (getItem_str (c := c) (by
    have p63 : (2 : Int) ^ 63 = 9223372036854775808 := rfl
    have e1 : decide (i < -(2 ^ 63 : Int)) = false := decide_eq_false (by rw [p63]; omega)
    have e2 : decide (i ≥ 2 ^ 63) = false := decide_eq_false (by rw [p63]; omega)
    rw [e1, e2, Bool.or_false]) (by rw [h1]; simpa using h2) ⟨fun x t e => by cases e; exact ⟨Nat.le_trans h0 (Nat.le_trans k1 k2), Nat.lt_succ_self _⟩, .str ⟨#[c]⟩, H2, I2.tok _, ⟨_, rfl⟩, q2⟩) (hs _ _)
end
end PL

/-! PL93: a def whose texts are new, from its body; the text kept in a cell; x.replace(y, NAME) within a comprehension. -/
namespace PL
open PySem PySem.Spec PyProof.Rows L2
section
variable {P : Program} {w : World} {K : PySem.W.Frag} {mg : Str → Option Value} {base : Heap}
theorem fnK_of {x qual : Str} {st : Stmt} {f : Addr} {fd : FuncData} {N ps : List Str} {k : Nat} {sp : Sp} (F : Fun K x qual st f fd) (S : FnScope N ps (defScope st)) (len : ∀ vs H Q E, sp vs H Q E → vs.length = ps.length)
    (hbody : ∀ (cdv : Value) (A : Around) (outer : List Env) (s : Shared) (H : Hp) (vs : List V) (Q : VK) (E : XK), Room k (A.deeper (envOfC qual (defScope st) s.heap.objs.size f cdv)) → sp vs H Q E →
      ∃ t, PBK (cxOf (L2.CX P w) P w K mg base N qual (defScope st) f cdv A outer s H E) (defBody st) t ∧ t { nx := fun _ H' => Q .non H', rt := Q } (start N vs) H) : FnK P w K mg base (L2.CX P w) (k + 1) f fd ps sp := by
  obtain ⟨oc, od, kV, doc, pm, an, cdv, ct, osl, rfl, lk, hcd⟩ := F.ex
  refine ⟨len, fun A outer s H args us vs Q E hr hk e0 hb r hsp => ?_⟩
  have hl := len _ _ _ _ hsp
  have KX : K.In s.heap := e0.mod.kin.keeps fun b o e => (e0.bs b o e).1
  have lim : s.heap.NoLimit := e0.mod.nolimit.keeps fun b o e => (e0.bs b o e).1
  refine codeAny_call_function hr.depth (KX _ _ lk) rfl S.co S.gen rfl (PySem.W.codeRec_of KX hcd) (hb _ _ _ _ ?_)
  refine PySem.wpAny_with_toks hk (wpAny_mono (wpAny_newFunctionEnv_cells S.kind (fun ⟨n, v⟩ hy => ?_) fun env he s1 x => ?_) (fun _ _ z => z) fun _ _ z => z)
  · rcases S.par n (List.of_mem_zip hy).1 with q | q
    · exact .inl q
    · exact .inr ⟨q, PySem.W.cellsFrom_some _ _ _ (.inl q)⟩
  · subst he
    intro k1
    refine ⟨lim.keeps x.toInCall.keep, codeAny_func ?_⟩
    obtain ⟨t, ht, hq⟩ := hbody cdv A outer s H vs Q E (hr.deeper _) hsp
    have I := inv_start (CX := L2.CX P w) (E := E) S hr.hd e0 hl r x
    refine wpAny_mono (ht [] s1 (start N vs) H _ k1 I hq) (fun fl s' ⟨g, hs⟩ => ?_) fun e s' hs => wpAny_mono (show wpAny _ _ _ _ _ _ from hs) (fun _ _ q => ⟨fun _ z => (nomatch z), q⟩) fun _ _ q => ⟨fun _ z => (nomatch z), q⟩
    cases fl with
    | ret u =>
      obtain ⟨v, σ', H', J, rv, q⟩ := hs
      exact ⟨fun z e => by cases e; exact g u rfl, v, H', J.os, J.bare, J.base, J.hok, rv, q⟩
    | next =>
      obtain ⟨σ', H', J, q⟩ := hs
      exact ⟨fun z e => by cases e; exact fun y t eq => (nomatch eq), .non, H', J.os, J.bare, J.base, J.hok, rfl, q⟩
    | brk => obtain ⟨_, _, _, q⟩ := hs; exact False.elim q
    | cont => obtain ⟨_, _, _, q⟩ := hs; exact False.elim q
end
/-! ### called: the text is new -/
section
variable {X : Cx} {CX : CXT} {k : Nat} {f : Addr} {fd : FuncData} {ps : List Str} {sp : Sp} {E : L2.St → XK} {x : Str} {p pos : Pos} {e : Expr} {es : List Expr} {t : TA} {te : TE} {ta : TA}
theorem pae_tail (ha : PE X e te) (hr : PAE X es ta) (hs : starEach (e :: es) X.env = (false, eval e X.env) :: starEach es X.env := by rfl) : PAE X (e :: es) (tCons te ta) := by
  intro pos pins s σ H Q I h
  rw [hs]
  show wpAny _ _ (spliced ((false, eval e X.env) :: backTo pos (starEach es X.env))) _ _ s
  refine Calls.spliced_cons (thn (ha.run pins s σ H _ I h) fun v s1 ⟨x, H1, I1, r1, q1⟩ => ?_)
  exact thn (hr pos pins s1 σ H1 _ I1 q1) fun us s2 ⟨hk2, xs, H2, I2, r2, q2⟩ => ⟨hk2, x :: xs, H2, I2, .cons r1 r2, q2⟩
/-- an expression whose text is new -/
def PEV (X : Cx) (e : Expr) (t : TE) : Prop := ∀ (pins : List (Addr × Obj)) (s : Shared) (σ : L2.St) (H : Hp) (Q : VK), Inv X pins σ H s → t σ H Q → wpAny (model X.prog X.w) X.A (eval e X.env) (fun v s1 => (1 ≤ s1.toks ∧ GoodV s1.toks v) ∧ EP X pins σ Q v s1) X.xe s
theorem PEV.weak {t t' : TE} (h : PEV X e t) (w : ∀ σ H Q, t' σ H Q → t σ H Q) : PEV X e t' := fun pins s σ H Q I q => h pins s σ H Q I (w σ H Q q)
theorem run_fnK {pins : List (Addr × Obj)} {σ : L2.St} {H : Hp} {s : Shared} {Q : VK} {us : List Value} {vs : List V} (F : FnK X.prog X.w X.K X.mg X.base CX k f fd ps sp) (hr : Room k X.A) (hk : 1 ≤ s.toks) (hb : Binds X.K fd ps []) (hx : PassesAt CX X σ (E σ))
    (I : Inv X pins σ H s) (r : Vals vs us) (h : sp vs H Q (E σ)) : wpAny (model X.prog X.w) X.A (call (.ref f) us) (fun v s1 => (1 ≤ s1.toks ∧ GoodV s1.toks v) ∧ EP X pins σ Q v s1) X.xe s := by
  have b := hb s us I.kIn (by rw [List.append_nil, ← L2.Vals.length r]; exact F.len _ _ _ _ h)
  rw [List.append_nil] at b
  refine wpAny_call (codeAny_mono (PySem.codeAny_toks_of hk (F.run X.A X.stack s H ⟨us, []⟩ us vs Q (E σ) hr hk I.env0 b r h)) fun r s' hq => ?_)
  match r, hq with
  | .error e, hq => exact hx pins H s e s' I hq.2.2
  | .ok (.ret u), hq => exact ⟨⟨hq.1, hq.2.1 u rfl⟩, I.after hq.2.2⟩
theorem pev_call (F : FnK X.prog X.w X.K X.mg X.base CX k f fd ps sp) (hr : Room k X.A) (hg : Gl X x) (hm : X.mg x = some (.ref f)) (hk : PySem.W.keepIn X.K (.ref f) = true) (hb : Binds X.K fd ps []) (hx : ∀ σ, PassesAt CX X σ (E σ))
    (ha : PAE X (e :: es) t) (hdb : (x == ("__debug__" : Str)) = false := by decide) (he : starEach (e :: es) X.env = (false, eval e X.env) :: starEach es X.env := by rfl) (hpl : (backTo pos (starEach es X.env)).any (·.1) = false := by rfl) :
    PEV X (.Call (.Name x p) (e :: es) [] pos) (tCallS sp E t) := fun pins s σ H Q I h =>
  wpAny_Call_Name_kw (ld_glob I hg hm (PySem.W.callWith_K (h₀ := X.base) I.ok.mod.kin hk (thn (ha pos pins s σ H _ I h) fun us s1 ⟨k1, vs, H1, I1, r, q⟩ => ⟨I1.kIn, run_fnK F hr k1 hb (hx σ) I1 r q⟩) he hpl) hdb)
/-! ### kept in a cell -/
/-- the cell at c is set -/
theorem cell_set {pins : List (Addr × Obj)} {σ : L2.St} {H : Hp} {s : Shared} {i : Nat} {v : V} {u : Value} {c : Addr} {h' : Heap} (I : Inv X pins σ H s) (hN : X.N.Nodup) (hi : X.N[i]? = some x) (hk : X.env.scope.names.lookup x = some .cell) (hf : X.fn x = true) (hc : X.env.cells.lookup x = some c) (r : RelV v u)
    (hc' : h'.IsCell c (some u)) (hs : Heap.SameBut c s.heap h') : Inv X pins (σ.set i (some v)) H { s with heap := h' } := by
  obtain ⟨w0, oc, hoc, hd⟩ := I.cell x c hc
  have hcf : H c = none := I.freeC x c hc
  have old : ∀ b o, X.s_0.heap.get? b = some o → h'.get? b = s.heap.get? b := fun b o e => hs.2 b (Nat.ne_of_lt (Nat.lt_of_lt_of_le (Heap.lt_size e) (I.ok.cab x c hf hc)))
  have B := I.base
  refine ⟨I.ok, I.os, I.bare, { keep := fun b o e n y z => (old b o e).trans (B.keep b o e n y z), slot := fun b o e n y z => let ⟨sl, q⟩ := B.slot b o e n y z; ⟨sl, (old b o e).trans q⟩, free := B.free, there := fun b o e z => let ⟨o', q⟩ := B.there b o e z; ⟨o', (old b o e).trans q⟩, tups := B.tups, frzs := B.frzs, tbls := B.tbls }, ?_, fun y d e => ?_, I.free, I.freeC, fun p hp => ?_, fun b o e => ?_, by rw [List.length_set]; exact I.len⟩
  · obtain ⟨m, hn, hl⟩ := I.loc
    refine ⟨m, hn.sameBut hs (Ne.symm (I.cne x c hc)), fun j y v' e1 e2 e3 => ?_⟩
    by_cases q : j = i
    · subst q
      rw [hi] at e1
      cases e1
      rw [List.getElem?_set_self (by rw [I.len]; exact (List.getElem?_eq_some_iff.mp hi).1)] at e2
      cases e2
      exact ⟨u, r, .inr ⟨.inl hk, c, hc, hc'⟩⟩
    · rw [List.getElem?_set_ne (Ne.symm q)] at e2
      obtain ⟨u', r', lk⟩ := hl j y v' e1 e2 e3
      refine ⟨u', r', lk.imp id fun ⟨kk, d, ed, z⟩ => ⟨kk, d, ed, z.sameBut hs fun dc => q ?_⟩⟩
      have yx : y = x := I.ok.inj y x d ed (dc ▸ hc)
      exact nodup_ix hN e1 (yx ▸ hi)
  · by_cases q : d = c
    · rw [q]
      exact ⟨_, hc'⟩
    · obtain ⟨z, hz⟩ := I.cell y d e
      exact ⟨z, hz.sameBut hs q⟩
  · obtain ⟨e1, e2, e3, e4, e5⟩ := I.pin p hp
    refine ⟨(hs.2 p.1 fun q => ?_).trans e1, e2, e3, e4, e5⟩
    rw [q, hoc] at e1
    exact e5 w0 (by rw [← Option.some.inj e1]; exact hd)
  · refine (I.hok b o e).stay (fun z ob hz q => (hs.2 z fun zc => ?_).trans q) (fun _ q => q) fun _ _ q => q
    rcases hz with hz | hz
    · rw [← hz, zc, hcf] at e; cases e
    · rw [zc, hcf] at hz; cases hz
/-- name = e, the text new: the name's cell holds it -/
def PCG (X : Cx) (x : Str) (st : Stmt) (t : TS) : Prop := ∀ (pins : List (Addr × Obj)) (s : Shared) (σ : L2.St) (H : Hp) (D : Ends), Inv X pins σ H s → t D σ H → wpAny (model X.prog X.w) X.A (exec st X.env) (fun f s1 => f = .next ∧ (∃ σ' H', Inv X pins σ' H' s1 ∧ D.nx σ' H') ∧ 1 ≤ s1.toks ∧ ∃ c u, X.env.cells.lookup x = some c ∧ s1.heap.IsCell c (some u) ∧ GoodV s1.toks u) X.xe s
theorem PCG.weak {st : Stmt} {t t' : TS} (h : PCG X x st t) (w : ∀ D σ H, t' D σ H → t D σ H) : PCG X x st t' := fun pins s σ H D I q => h pins s σ H D I (w D σ H q)
theorem pcg_set {i : Nat} {pos' : Pos} (hN : X.N.Nodup) (hi : X.N[i]? = some x) (hk : X.env.scope.names.lookup x = some .cell) (he : PEV X e te) (hs : swapsWith e (some (.Name x pos')) pos.line X.env = pure false) (hf : X.fn x = true) :
    PCG X x (.Assign [.Name x pos'] e pos) (tAsg te (gName i)) := fun pins s σ H D I h => by
  refine wpAny_Assign_Name (thn (he pins s σ H _ I h) fun u s1 ⟨⟨k1, g⟩, v, H1, I1, r, q⟩ => ?_) hs
  obtain ⟨c, hc⟩ := I1.ok.has x (.inl hk)
  obtain ⟨w0, z⟩ := I1.cell x c hc
  exact wpAny_storeName_cell I1.ok.kind hk hc z fun h' hc' hsb => ⟨rfl, ⟨_, _, cell_set I1 hN hi hk hf hc r hc' hsb, q⟩, k1, c, u, hc, hc', g⟩
end
end PL

/-! PL94: a comprehension whose elements are x.replace(y, NAME), the name's text new. -/
namespace PL
open PySem PySem.Spec PyProof.Rows L2
/-- a name's cell, that a block does not change, holds a text whose token is out -/
def GoodC (n : Nat) (X : Cx) (x : Str) : Prop := ∃ c u, X.env.cells.lookup x = some c ∧ X.s_0.heap.IsCell c (some u) ∧ X.H_0 c = none ∧ c ∉ X.fs ∧ c ∉ X.ex ∧ GoodV n u
def PEN (n : Nat) (X : Cx) (e : Expr) (t : TE) : Prop := ∀ (pins : List (Addr × Obj)) (s : Shared) (σ : L2.St) (H : Hp) (Q : VK), n ≤ s.toks → Inv X pins σ H s → t σ H Q → wpAny (model X.prog X.w) X.A (eval e X.env) (EP X pins σ Q) X.xe s
theorem thn0 {n : Nat} {α : Type} {t : Sem α} {Q Q' : α → Shared → Prop} {M : Model} {A : Around} {E : Value → Shared → Prop} {s : Shared} (hk : n ≤ s.toks) (h : wpAny M A t Q E s) (hQ : ∀ a s', n ≤ s'.toks → Q a s' → Q' a s') : wpAny M A t Q' E s :=
  wpAny_mono (PySem.wpAny_toks_of hk h) (fun a s' z => hQ a s' z.1 z.2) fun _ _ z => z.2
section
variable {X : Cx} {e e1 e2 a b o elt tg iter : Expr} {es : List Expr} {pos p : Pos} {n : Nat} {te to : TE}
theorem PEN.weak {t t' : TE} (h : PEN n X e t) (w : ∀ σ H Q, t' σ H Q → t σ H Q) : PEN n X e t' := fun pins s σ H Q h0 I q => h pins s σ H Q h0 I (w σ H Q q)
theorem good_name {i : Nat} {x : Str} {v : V} {pins : List (Addr × Obj)} {σ : L2.St} {H : Hp} {s : Shared} {Q E : Value → Shared → Prop} (G : GoodC n X x) (hN : X.N[i]? = some x) (hk : X.env.kindOf x = some .cell) (hv : Vis X.env.scope x) (I : Inv X pins σ H s) (hσ : σ[i]? = some (some v)) (fin : ∀ u, RelV v u → GoodV n u → Q u s)
    (hd : (x == ("__debug__" : Str)) = false := by decide) (hcd : (x == ("__classdict__" : Str)) = false := by decide) : wpAny (model X.prog X.w) X.A (eval (.Name x pos) X.env) Q E s := by
  obtain ⟨c, u, hc, z, h0, hf, hx, g⟩ := G
  obtain ⟨m, hn, hl⟩ := I.loc
  obtain ⟨u', r, l⟩ := hl i x v hN hσ hv
  rcases l with ⟨q, _⟩ | ⟨_, c', hc', z'⟩
  · rw [hk] at q; cases q
  · rw [hc] at hc'
    cases hc'
    have z2 : s.heap.IsCell c (some u) := let ⟨oc, e1, e2⟩ := z; ⟨oc, I.base.keep c oc e1 h0 hf hx, e2⟩
    have eu : u' = u := by
      obtain ⟨o1, a1, a2⟩ := z'
      obtain ⟨o2, b1, b2⟩ := z2
      rw [a1] at b1
      cases b1
      rw [a2] at b2
      cases b2
      rfl
    rw [eu] at r
    exact wpAny_Name (wpAny_loadName_cell I.ok.kind hk hc z2 (fin u r g)) hd
def tReplN (i : Nat) (y : Str) (to : TE) : TE := fun σ H Q => to σ H fun v H1 => ∃ x z, v = .str x ∧ σ[i]? = some (some (.str z)) ∧ (y == z) = false ∧ x.length + (x.length + 1) * z.length ≤ 16777216 ∧ Q (.str (Txt.replace x y z)) H1
theorem pen_repl {i j : Nat} {x y : Str} {c0 c1 apos : Pos} (n1 : 1 ≤ n) (G : GoodC n X x) (hN : X.N[i]? = some x) (hk : X.env.kindOf x = some .cell) (hv : Vis X.env.scope x) (ho : PE X o to)
    (hst : starEach [.Constant (.str y) j c0, .Name x c1] X.env = [(false, eval (.Constant (.str y) j c0) X.env), (false, eval (.Name x c1) X.env)] := by rfl)
    (hbase : attributeBase o "replace" X.env (eval o X.env) = eval o X.env := by rfl) (hline : (apos.endLine == pos.line) = true := by rfl) (hd : (x == ("__debug__" : Str)) = false := by decide) (hcd : (x == ("__classdict__" : Str)) = false := by decide) :
    PEN n X (.Call (.Attribute o "replace" apos) [.Constant (.str y) j c0, .Name x c1] [] pos) (tReplN i y to) := by
  intro pins s σ H Q h0 I h
  refine PySem.Call_method2 hbase hst hline (thn0 h0 (ho.run pins s σ H _ I h) fun v s1 hk1 ⟨v', H1, I1, r1, xs, z, e1, hz, hyz, hb, q⟩ => ?_)
  subst e1
  obtain ⟨tx, e2⟩ := r1
  subst e2
  refine ⟨"str", _, PySem.F.plainAttrs_str, PySem.F.slot_str_replace, PySem.F.type_str_replace, typeIs_str _ _ _, (fun _ e => nomatch e), Calls.callWith_builtin rfl (Calls.evalArgs_plain (Calls.spliced_cons ?_))⟩
  refine Calls.Constant_str (Calls.spliced_cons (good_name G hN hk hv (I1.tok (s1.toks + 1)) hz (fun u r g => ?_) hd hcd))
  obtain ⟨t, rfl⟩ := r
  obtain ⟨g1, g2⟩ := g z t rfl
  refine Calls.spliced_nil ?_
  exact PySem.SC.replace (by show s1.toks ≠ 0; omega) (Nat.ne_of_gt g1) (Nat.ne_of_gt (Nat.lt_of_lt_of_le g2 hk1)) hyz hb fun t' k => ⟨.str (Txt.replace xs y z), H1, (I1.tok (s1.toks + 1)).tok k, ⟨t', rfl⟩, q⟩
/-! ### one turn of a comprehension, so many tokens out -/
theorem turnN {n0 : Nat} {Y : Cx} {ifs : List Expr} {J : It} {fp : List Addr} {it D : Addr} {tn : Nat → Heap → Prop} {g : TG} {tt : TT} {te : TE} {vs : List Nat} {σ : L2.St} {i : Nat} {H0 : Hp} {s0 : Shared} {Nx : Hp → Prop} {E : Value → Shared → Prop}
    (T : Turn Y.prog Y.w Y.K tg J fp it tn) (calm : Y.calm = true) (pg : PG Y tg g) (pt : PTs Y ifs tt) (pe : PEN n0 Y elt te) (fail : ∀ v s, Y.xe v s → E v s)
    (clear : ∀ {H' : Hp}, (∀ b ∈ fp, H' b = none) → ∀ b ∈ fp, FpOk Y [] H' b) (I0 : Inv Y [] (wipe σ vs) H0 s0) (hk : n0 ≤ s0.toks) (at0 : tn i s0.heap) (no0 : ∀ b ∈ fp, H0 b = none) (go : J.go i H0)
    (step : ∀ x H', J.yld i H0 x H' → g x (wipe σ vs) H' fun σ2 H2 => wipe σ2 vs = wipe σ vs ∧ tt σ2 H2 fun b H3 => if b = true then te σ2 H3 fun y H4 => ∃ acc, H4 D = some (.lst acc) ∧ acc.length < sizeLine ∧ Nx (upd H4 D (.lst (acc ++ [y]))) else Nx H3)
    (Fin : Shared → Prop) (fin : ∀ s' H', n0 ≤ s'.toks → Inv Y [] (wipe σ vs) H' s' → tn (i + 1) s'.heap → (∀ b ∈ fp, H' b = none) → Nx H' → Fin s') :
    wpAny (model Y.prog Y.w) Y.A (pyNext (.ref it)) (fun r s1 => ∃ u, r = some u ∧ wpAny (model Y.prog Y.w) Y.A (letOwnedTupleGo tg (.ref it) u) (fun _ s2 => wpAny (model Y.prog Y.w) Y.A (assign tg Y.env u) (fun _ s3 =>
      wpAny (model Y.prog Y.w) Y.A (forIn ifs true fun c r => if r = true then do let ok ← isTrue c Y.env (eval c Y.env); pure (ForInStep.yield ok) else pure (ForInStep.yield r)) (fun ok s4 =>
        if ok = true then wpAny (model Y.prog Y.w) Y.A (eval elt Y.env) (fun x s5 => wpAny (model Y.prog Y.w) Y.A (call (.builtin "list.append") [.ref D, x]) (fun _ s6 => Fin s6) E s5) E s4 else Fin s4) E s3) E s2) E s1) E s0 := by
  have ex : ∀ {α : Type} {t : Sem α} {Q : α → Shared → Prop} {s : Shared}, wpAny (model Y.prog Y.w) Y.A t Q Y.xe s → wpAny (model Y.prog Y.w) Y.A t Q E s := fun h => wpAny_mono h (fun _ _ z => z) fail
  refine thn0 hk (T.item Y rfl rfl rfl calm i [] s0 _ H0 E I0 (clear no0) at0 go) fun r s1 k1 ⟨u, hr, h1⟩ => ⟨u, hr, ?_⟩
  refine thn0 k1 h1 fun _ s2 k2 ⟨x, H2, I2, rx, yx, at2, no2⟩ => ?_
  have J2 := I2.pinned (clear no2) (T.obj _ _ at2)
  -- what ends the turn, from any later state
  have close : ∀ {σ' : L2.St} {s' : Shared} {H' : Hp}, wipe σ' vs = wipe σ vs → Inv Y ([] ++ pinsAt fp s2.heap) σ' H' s' → n0 ≤ s'.toks → Nx H' → Fin s' := fun {σ' s' H'} ew I' k' nx => by
    have held : ∀ b ∈ fp, ∀ o, s2.heap.get? b = some o → s'.heap.get? b = some o ∧ H' b = none := fun b hb o eo => by
      have z := I'.pin (b, o) (List.mem_append_right _ (List.mem_append_right _ (mem_pinsAt hb eo)))
      exact ⟨z.1, z.2.1⟩
    refine fin s' H' k' ((I'.unpinned (pins := [])).weak (by rw [← ew, wipe_length]) fun j v q => ?_) (T.keep _ _ _ at2 fun b hb o eo => (held b hb o eo).1) (fun b hb => ?_) nx
    · rw [← ew] at q
      exact (wipe_some q).1
    · obtain ⟨o, eo, _⟩ := T.obj _ _ at2 b hb
      exact (held b hb o eo).2
  refine thn0 k2 (ex (pg.run _ s2 _ H2 x u _ J2 rx (step x H2 yx))) fun _ s3 k3 ⟨σ3, H3, I3, ew, q3⟩ => ?_
  refine thn0 k3 (ex (pt.run _ s3 σ3 H3 _ I3 q3)) fun ok s4 k4 ⟨H4, I4, q4⟩ => ?_
  cases ok with
  | false => exact close ew I4 k4 q4
  | true => exact thn0 k4 (ex (pe _ s4 σ3 H4 _ k4 I4 q4)) fun z s5 k5 ⟨y, H5, I5, ry, acc, hD, hz, nx⟩ => wpAny_with_toks k5 (app_ok I5 hD hz ry fun s6 I6 k6 => close ew I6 k6 nx)
/-! ### a comprehension whose elements replace by the text of a name -/
theorem lcK {n0 : Nat} {x : Str} {c : Addr} {u : Value} {pins : List (Addr × Obj)} {s : Shared} {σ : L2.St} {H : Hp} {Q : VK} {ifs : List Expr} {scope : Scope} {own : List (Str × Nat)} {at_ pos' : Pos} {wi : TI} {g : TG} {tt : TT} {te : TE} {use : Option (Value → Sem Unit)} {Qf : Value → Shared → Prop}
    (calm : X.calm = true) (nd : X.N.Nodup) (I : Inv X pins σ H s) (hn0 : n0 ≤ s.toks) (gv : GoodV n0 u) (hlk : X.env.cells.lookup x = some c) (hfn : X.fn x = true) (hfr : scope.names.lookup x = some .free) (hi : ∀ R, wi σ H R → wpAny (model X.prog X.w) X.A (eval iter X.env) (fun v s1 => wpAny (model X.prog X.w) X.A (pyIter v) (fun itv s2 => s2.heap.IsCell c (some u) ∧ PIE X pins σ tg R itv s2) X.xe s1) X.xe s) (ok : BlkOk X.N X.env.scope scope own)
    (hg : ∀ (s : Shared) (H : Hp) (C : Addr) (cl : List (Str × Addr)) (fp : List Addr), PG (X.blk s H scope (compEnvC scope cl C X.env) fp) tg g)
    (ht : ∀ (s : Shared) (H : Hp) (C : Addr) (cl : List (Str × Addr)) (fp : List Addr), PTs (X.blk s H scope (compEnvC scope cl C X.env) fp) ifs tt)
    (he : ∀ (s : Shared) (H : Hp) (C : Addr) (cl : List (Str × Addr)) (fp : List Addr), GoodC n0 (X.blk s H scope (compEnvC scope cl C X.env) fp) x → PEN n0 (X.blk s H scope (compEnvC scope cl C X.env) fp) elt te)
    (hs : ∀ x, foldedSetIterable iter X.env x = pure x) (h : tLc wi g tt te (own.map (·.2)) σ H Q)
    (out : ∀ D C s' m H', Inv X pins σ H' s' → Q (.ref D) H' → s'.heap.Ns C m → FpOk X pins H' C → compPost (model X.prog X.w) X.A X.xe use Qf (.ref D) C (.ok .next) s') :
    wpAny (model X.prog X.w) X.A (comprehension (.ListComp elt [⟨tg, iter, ifs, 0⟩] scope at_) scope X.env pos' (newList []) false (eval iter X.env) use) Qf X.xe s := by
  have cells : ∀ y ∈ scope.names, y.2 = .free → ∃ c, X.env.cells.lookup y.1 = some c := fun y hy ey => (ok.free y hy ey).elim (fun z => I.ok.has _ (.inl z)) fun z => I.ok.has _ (.inr z)
  refine wpAny_comprehension_free (use := use) rfl hs (closure_ok cells) ok.kind (fun y hy ey => by rw [ok.uniq y hy, ey]) (thn0 hn0 (hi _ h) fun xv s1 k1 hx => thn0 k1 hx fun itv s2 k2 ⟨hcell, hx2⟩ => ?_)
  obtain ⟨it, fp, tn, J, H2, rfl, I2, T, at2, clear2, q⟩ := hx2
  refine wpAny_newObj_type (newEnv_comp ?_) (by show 0 ≤ sizeLine; decide)
  have nD : H2 s2.heap.objs.size = none := I2.hok.fresh (Nat.le_refl _)
  obtain ⟨Wm, ⟨m0, w0⟩, turns⟩ := q _ nD
  -- the new list, the block's frame
  let s3 : Shared := { s2 with heap := s2.heap.push { cls := .type "list", data := .seq ([] : List Value).toArray } }
  let H3 : Hp := upd H2 s2.heap.objs.size (.lst [])
  have I3 : Inv X pins σ H3 s3 := I2.laid (t' := s2.toks) (fun b o eo => Heap.get?_push_of_some _ eo) (Nat.le_refl _) ⟨Nat.zero_le _, [], 0, .nil, Heap.get?_push_size _ rfl⟩
  have small : ∀ b ∈ fp, b < s2.heap.objs.size := fun b hb => let ⟨_, eo, _⟩ := T.obj _ _ at2 b hb; Heap.lt_size eo
  have clear3 : ∀ b ∈ fp, FpOk X pins H3 b ∧ b < s3.heap.objs.size := fun b hb => by
    have lt := small b hb
    refine ⟨⟨(upd_ne (Nat.ne_of_lt lt)).trans (clear2 b hb).1, (clear2 b hb).2⟩, ?_⟩
    show b < (s2.heap.push _).objs.size
    rw [Heap.size_push]
    exact Nat.lt_succ_of_lt lt
  have cell3 : s3.heap.IsCell c (some u) := let ⟨oc, e1, e2⟩ := hcell; ⟨oc, Heap.get?_push_of_some _ e1, e2⟩
  let C : Addr := s3.heap.objs.size
  let cl : List (Str × Addr) := cellsFrom (C + 1) scope.names (cloFrom X.env.cells scope.names [])
  let Y : Cx := X.blk s3 H3 scope (compEnvC scope cl C X.env) fp
  let s4 : Shared := { s3 with heap := pushCells (s3.heap.push { cls := .type "dict", data := .dict #[] }) scope.names }
  have I4 : Inv Y [] (wipe σ (own.map (·.2))) H3 s4 := block_start I3 ok nd clear3
  have keep4 : ∀ b o, s2.heap.get? b = some o → s4.heap.get? b = some o := fun b o eo => pushCells_keeps _ _ _ _ (Heap.get?_push_of_some _ (Heap.get?_push_of_some _ eo))
  have at4 : tn 0 s4.heap := T.keep _ _ _ at2 fun b _ o eo => keep4 b o eo
  have no4 : ∀ b ∈ fp, H3 b = none := fun b hb => (clear3 b hb).1.1
  have clearY : ∀ {H' : Hp}, (∀ b ∈ fp, H' b = none) → ∀ b ∈ fp, FpOk Y [] H' b := fun {H'} no b hb =>
    ⟨no b hb, (I4.ok.exf b hb).1, I4.ok.exfs b hb, .inl hb, fun x c ec => (I4.ok.exf b hb).2 x c ec, fun p' hp => absurd (show p' ∈ ([] : List (Addr × Obj)) ++ [] from hp) (by simp)⟩
  have gc : GoodC n0 Y x := by
    have fx : (x, NameKind.free) ∈ scope.names := PySem.mem_of_lookup hfr
    have hsz : C + 1 = (s3.heap.push { cls := .type "dict", data := .dict #[] }).objs.size := (Heap.size_push _ _).symm
    obtain ⟨c', e'⟩ := mem_lookup (cells_acc (names := scope.names) (n := C + 1) (cloFrom_has (cells := X.env.cells) (acc := []) fx))
    have e2 : c' = c := by
      have m := PySem.mem_of_lookup e'
      rw [hsz] at m
      rcases cells_mem m with hm | ⟨h1, _, _⟩
      · rcases cloFrom_mem hm with hm | ⟨_, e⟩
        · cases hm
        · rw [e, hlk]
          rfl
      · have := ok.uniq _ h1
        rw [hfr] at this
        cases this
    rw [e2] at e'
    refine ⟨c, u, e', cell3, I3.freeC x c hlk, ?_, fun hb => ?_, gv⟩
    · intro hb
      have hb : c ∈ frs X.stack := hb
      rcases List.mem_cons.mp (I3.stkSub c hb) with z | z
      · exact I3.cne x c hlk z
      · obtain ⟨_, o, ho, _⟩ := I3.ok.funs.mem z
        exact absurd (Nat.lt_of_lt_of_le (Heap.lt_size ho) (I3.ok.cab x c hfn hlk)) (Nat.lt_irrefl _)
    · exact (clear3 c hb).1.2.2.2.2.1 x c hlk rfl
  have loop : codeAny (model X.prog X.w) X.A (.compLoop (.ListComp elt [⟨tg, iter, ifs, 0⟩] scope at_) 0 (.ref it) (.ref s2.heap.objs.size) Y.env) (compPost (model X.prog X.w) X.A X.xe use Qf (.ref s2.heap.objs.size) C) s4 := by
    refine compLoop_any (fun n s' => n0 ≤ s'.toks ∧ ∃ i H', Inv Y [] (wipe σ (own.map (·.2))) H' s' ∧ tn i s'.heap ∧ (∀ b ∈ fp, H' b = none) ∧ Wm i n H') ?_ m0 ⟨k2, 0, H3, I4, at4, no4, w0⟩
    rintro n s5 ⟨k5, i, H5, I5, at5, no5, w5⟩
    rcases turns i n H5 w5 with ⟨stop, qq⟩ | ⟨go, Nx, less, step⟩
    · refine thnF (T.done Y rfl rfl rfl calm i [] s5 _ H5 (fun _ _ => False) I5 (clearY no5) at5 stop) fun r s6 ⟨hr, I6⟩ => ?_
      subst hr
      have I7 : Inv X pins σ H5 s6 := I3.call' (ch := fp) I6.os I6.base I6.hok I6.bare fun b hb => ⟨(clear3 b hb).1.2.2.2.1, (clear3 b hb).1.2.1, (clear3 b hb).1.2.2.2.2.1, (clear3 b hb).1.2.2.2.2.2⟩
      obtain ⟨m, hn, _⟩ := I6.loc
      exact out _ C s6 m H5 I7 qq hn (I3.fpOk (Nat.le_refl _) I6.free)
    · have tc := turnN (n0 := n0) (Y := Y) (E := fun _ _ => False) (D := s2.heap.objs.size) (vs := own.map (·.2)) (σ := σ) T calm (hg s3 H3 C cl fp) (ht s3 H3 C cl fp) (he s3 H3 C cl fp gc) (fun _ _ z => z) (fun no => clearY no) I5 k5 at5 no5 go step
        (fun s' => ∃ m, m < n ∧ n0 ≤ s'.toks ∧ ∃ i H', Inv Y [] (wipe σ (own.map (·.2))) H' s' ∧ tn i s'.heap ∧ (∀ b ∈ fp, H' b = none) ∧ Wm i m H') fun s' H' k' I' at' no' nx => by
          obtain ⟨m', lt, w'⟩ := less H' nx
          exact ⟨m', lt, k', i + 1, H', I', at', no', w'⟩
      refine thnF tc fun r s6 ⟨u, hr, h6⟩ => ?_
      subst hr
      refine thnF h6 fun _ s7 h7 => thnF h7 fun _ s8 h8 => thnF h8 fun b s9 h9 => ?_
      cases b with
      | false => exact h9
      | true => exact thnF h9 fun z s10 h10 => thnF h10 fun _ s11 h11 => h11
  exact codeAny_compStart_list loop (T.self X.A 0 _ _ _ at4 loop)
end
end PL

/-! PL95: name = f(own, 0); other = [x.replace(y, name) for x in list]: over the pure state. -/
namespace PL
open PySem PySem.Spec PyProof.Rows L2
abbrev JSK (X : Cx) (W : WX) (rk : Rk) (st : Stmt) (f : SM) : Prop := PSK X st (tSt X.g W rk f)
abbrev JBK (X : Cx) (W : WX) (rk : Rk) (st : List Stmt) (f : SM) : Prop := PBK X st (tSt X.g W rk f)
section
variable {P : Program} {w : World} {K : PySem.W.Frag} {mg : Str → Option Value} {base : Heap}
theorem fn_UK {x qual : Str} {st : Stmt} {f : Addr} {fd : FuncData} {N ps : List Str} {k : Nat} {body : SM} (F : Fun K x qual st f fd) (S : FnScope N ps (defScope st)) (hN : 0 < N.length)
    (hb : ∀ (cdv : Value) (A : Around) (outer : List Env) (s : Shared) (H : Hp) (E : XK), Room k (A.deeper (envOfC qual (defScope st) s.heap.objs.size f cdv)) → JBK (cxOf (L2.CX P w) P w K mg base N qual (defScope st) f cdv A outer s H E) (fun c d _ H => E c d H) .im (defBody st) body) :
    FnK P w K mg base (L2.CX P w) (k + 1) f fd ps (spU ⟨K, mg⟩ ps.length .im (runU N.length .im body)) := by
  refine fnK_of F S (fun vs H Q E h => h.1) (fun cdv A outer s H vs Q E hr h => ⟨_, hb cdv A outer s H E hr, ?_⟩)
  obtain ⟨hl, A, a, ws, c, ds, rfl, ha, hA, ct, rs, h⟩ := h
  obtain ⟨R, hO⟩ := start_mu (N.length - (ws.length + 1)) rs hA ha ct
  have e1 : start N (.ref a :: ws) = some (.ref a) :: (ws.map some ++ List.replicate (N.length - (ws.length + 1)) none) := rfl
  rw [e1]
  refine ⟨_, _, R, ?_⟩
  have e0 : N.length - (ws.length + 1) = N.length - (ds.length + 1) := by rw [rs.length]
  unfold runU at h
  simp only [] at h
  rw [← e0] at h
  have keep : ∀ {O' : Addr → Prop} {H' : Hp}, Kp (Own (.mu c :: (ds.map Slot.im ++ List.replicate (N.length - (ws.length + 1)) .no)) (some (.ref a) :: (ws.map some ++ List.replicate (N.length - (ws.length + 1)) none)) H) H O' H' → ∀ b u, b ≠ a → H b = some u → H' b = some u := fun k b u hb e => (k b u e fun z => hb ((hO b).mp z)).1
  have less : ∀ {τ' : PS0} {σ' : L2.St} {γ' : G} {H' : Hp} {o : D}, Rel ⟨K, mg⟩ γ' τ' σ' H' → τ'[0]? = some (.mu o) → γ'.M = a → (∀ b, A b → b ≠ a → γ'.P b) → ∀ b, A b → Av γ' τ' σ' H' b := fun {τ' σ' γ' H' o} R' e0 hM hP b hb => by
    by_cases q : b = a
    · subst q
      obtain ⟨e2, _⟩ := R'.mu 0 o e0
      rw [hM] at e2
      exact .inr ⟨0, .of e0 rfl e2⟩
    · exact .inl (hP b hb q)
  cases eb : body (.mu c :: (ds.map .im ++ List.replicate (N.length - (ws.length + 1)) .no)) with
  | stuck => rw [eb] at h; exact h.elim
  | nx τ' =>
    rw [eb] at h
    intro σ' H' R' k'
    simp only [if_true] at h
    cases eo : muP τ' with
    | none => rw [eo] at h; exact h.elim
    | some o =>
      rw [eo] at h
      have e2 := muP_at eo
      obtain ⟨e3, ct3⟩ := R'.mu 0 _ e2
      exact h .non H' ⟨keep k', .non, ct3.mono (Kp.less fun b z => less R' e2 rfl (fun b hb hn => ⟨hb, hn⟩) b z) rfl⟩
  | exc n τ' =>
    rw [eb] at h
    intro σ' H' R' k' cc hc
    simp only [] at h
    cases eo : muP τ' with
    | none => rw [eo] at h; exact h.elim
    | some o =>
      rw [eo] at h
      have e2 := muP_at eo
      obtain ⟨e3, ct3⟩ := R'.mu 0 _ e2
      exact h H' (keep k') (ct3.mono (Kp.less fun b z => less R' e2 rfl (fun b hb hn => ⟨hb, hn⟩) b z) rfl) cc hc
  | ret d τ' =>
    rw [eb] at h
    intro σ' v H' P'
    simp only [] at h
    cases eo : muP τ' with
    | none => rw [eo] at h; exact h.elim
    | some o =>
      rw [eo] at h
      have e2 := muP_at eo
      obtain ⟨R', k', r'⟩ := P'
      obtain ⟨e3, ct3⟩ := R'.mu 0 _ e2
      have lz : Kp (Av _ τ' σ' H') H' A H' := Kp.less fun b z => less R' e2 rfl (fun b hb hn => ⟨hb, hn⟩) b z
      exact h v H' ⟨keep k', r'.kp lz, ct3.mono lz rfl⟩
end
section
variable {X : Cx} {W : WX} {g : Gc} {γ : G} {τ τ' τ1 τ2 : PS0} {σ σ' σ1 : L2.St} {H H' H1 H2 : Hp} {A : Addr → Prop} {p : Addr} {v : V} {d : D} {k k1 k2 k3 kr : Kd} {rk : Rk} {m m1 m2 m3 : Bool} {e e1 e2 a b c tg iter elt : Expr} {es rest : List Expr} {f fa fb fc : M D} {t u : M Bool} {fs : M (List D)} {pos : Pos} {st st2 : Stmt} {sts sts2 : List Stmt} {h h1 h2 : SM}
/-! ### statements that give new texts alone -/
theorem jbk_cons (h1' : JSK X W rk st h1) (h2' : JBK X W rk sts h2) : JBK X W rk (st :: sts) (seqS h1 h2) := (pbk_cons h1' h2').weak fun Dn σ H ⟨γ, τ, R, q⟩ => by
  rw [fitS_seq] at q
  exact ⟨γ, τ, R, q.mono (fun τ' z σ' H' R' k => tSt_go R' k z) (fun _ _ z => z) fun _ _ z => z⟩
theorem jbk_one (h1' : JSK X W rk st h) : JBK X W rk [st] h := by
  refine PBK.weak (pbk_cons h1' pbk_nil) fun Dn σ H ⟨γ, τ, R, q⟩ => ⟨γ, τ, R, q.mono (fun τ' z σ' H' R' k => z σ' H' R' k) (fun _ _ z => z) fun _ _ z => z⟩
theorem jbk_nil : JBK X W rk [] skip := pbk_nil.weak fun Dn σ H ⟨γ, τ, R, q⟩ => q σ H R Kp.refl
theorem jsk_if (ht : JT X W m c t) (hx : JBK X W rk sts h1) (hy : JBK X W rk sts2 h2) : JSK X W rk (.If c sts sts2 pos) (ifS t h1 h2) := (psk_if ht hx hy).weak fun Dn σ H ⟨γ, τ, R, q⟩ => by
  unfold ifS at q
  refine ⟨γ, τ, R, ?_⟩
  cases et : t τ with
  | stuck => rw [et] at q; exact q.elim
  | exc n τ' => rw [et] at q; exact XS.x q
  | ok b τ1 =>
    rw [et] at q
    intro H1 s1 R1 kp1
    cases b with
    | true => exact tSt_go R1 kp1 q
    | false => exact tSt_go R1 kp1 q
theorem jsk_set (i : Nat) {x : Str} {pos' : Pos} (hN : X.N.Nodup) (he : JE X W .im m e f) (hi : X.N[i]? = some x := by rfl) (hx : Loc X.env.scope x := by first | exact .inl rfl | exact .inr rfl) (hs : swapsWith e (some (.Name x pos')) pos.line X.env = pure false := by rfl) (hf : X.fn x = true ∨ X.env.scope.names.lookup x = some .local := by first | exact .inl rfl | exact .inr rfl | assumption) :
    JSK X W rk (.Assign [.Name x pos'] e pos) (setS i f) := (psk_nx (ps_set hN hi hx he hs hf) fun Dn σ H q => q).weak fun Dn σ H q => asg_im (fun σ H Q q => q) σ H q
/-- a sign of a text alone -/
def oIxS : D → D → Option D
  | .str s, .int i => if s.length ≤ 16777216 then (atI s i).map fun c => .str [c] else none
  | _, _ => none
theorem oIxS_eq (s : List Nat) (i : Int) : oIxS (.str s) (.int i) = oIx (.str s) (.int i) := rfl
theorem o2_ixS : Op2 .im g rIxS oIxS := fun H A x y d e z Q hA rx ry ho q => by
  unfold oIxS at ho
  split at ho
  · split at ho
    · rename_i s i hz
      rw [rx.str, ry.int]
      cases hc : atI s i with
      | none => rw [hc] at ho; cases ho
      | some c =>
        rw [hc] at ho
        cases ho
        exact ⟨S s, i, c, rfl, rfl, by rw [S_len]; exact hz, hc, q (.str ⟨#[c]⟩) H (out_flat fun _ _ => .str [c])⟩
    · cases ho
  · cases ho
theorem jsk_retIx {p2 : Pos} (ha : JE X W k1 m1 a fa) (hb : JE X W k2 m2 b fb) (hk : k1 ≠ .ln ∨ m2 = false := by first | exact .inr rfl | exact .inl (by decide)) (hs : PlainIx b := by exact fun _ _ => rfl) (hrk : rk = .im := by rfl) : JSK X W rk (.Return (some (.Subscript a b p2)) pos) (retS (op2 oIxS fa fb)) := by
  subst hrk
  refine PSK.weak (psk_ret ((pek_ix ha hb hs).weak (tE_op2 (kr := .im) o2_ixS hk (by decide)))) fun Dn σ H ⟨γ, τ, R, q⟩ => ?_
  unfold retS at q
  refine ⟨γ, τ, R, ?_⟩
  cases ef : (op2 oIxS fa fb) τ with
  | stuck => rw [ef] at q; exact q.elim
  | exc n τ' => rw [ef] at q; exact XS.x q
  | ok d τ1 =>
    rw [ef] at q
    exact fun v H1 s1 P1 => q σ v H1 P1.r
/-! ### name = f(own, 0), the text new -/
theorem pae_int0 {i : Int} {j : Nat} {p2 : Pos} (hst : starEach [.Constant (.int i) j p2] X.env = (false, eval (.Constant (.int i) j p2) X.env) :: starEach [] X.env := by rfl) : PAE X [.Constant (.int i) j p2] (tA X.g W false (argC (ret (.int i)) argN)) := by
  have h := pae_head (X := X) (pee_int (i := i) (j := j) (pos := p2)) pa_nil hst
  intro pos pins s σ H Q I ⟨γ, τ, R, q⟩
  exact h pos pins s σ H Q I (q [.int i] H (fun _ => Same.refl H) R Kp.refl (.cons (.int i) .nil))
theorem jev_callU {n : Nat} {mf : List D → DR} {kk : Nat} {fa : Addr} {fd : FuncData} {ps : List Str} {x y : Str} {p py : Pos} (i : Nat) (hn : LenOk fs (n - 1)) (hn0 : 0 < n) (F : FnK X.prog X.w X.K X.mg X.base (L2.CX X.prog X.w) kk fa fd ps (spU X.g n .im mf)) (hr : Room kk X.A) (hm : X.mg x = some (.ref fa)) (hk : PySem.W.keepIn X.K (.ref fa) = true)
    (hb : Binds X.K fd ps []) (tk : Takes X W) (ha : PAE X es (tA X.g W m fs)) (hN : X.N[i]? = some y := by rfl) (hv : Vis X.env.scope y := by first | exact Or.inl rfl | exact Or.inr (Or.inl rfl) | exact Or.inr (Or.inr rfl)) (hg : Gl X x := by rfl) (hdy : (y == ("__debug__" : Str)) = false := by decide) (hcd : (y == ("__classdict__" : Str)) = false := by decide) (hdb : (x == ("__debug__" : Str)) = false := by decide)
    (he : starEach (.Name y py :: es) X.env = (false, eval (.Name y py) X.env) :: starEach es X.env := by rfl) (hpl : (backTo pos (starEach es X.env)).any (·.1) = false := by rfl) : PEV X (.Call (.Name x p) (.Name y py :: es) [] pos) (tE X.g W .im true (useU i mf fs)) :=
  (pev_call F hr hg hm hk hb (fun σ => passAt tk σ) (pae_tail (pe_var hN hv hdy hcd) ha he) hdb he hpl).weak fun σ H Q ⟨γ, τ, R, h⟩ => by
    unfold useU at h
    rw [fit_bind] at h
    cases e0 : ownC τ i with
    | none => simp only [e0] at h; exact h.elim
    | some c0 =>
      simp only [e0] at h
      obtain ⟨a, s, hs, ho, hi, ct⟩ := R.ownC e0
      refine ⟨.ref a, hi, γ, τ, R, ?_⟩
      have h : Fit (callU i mf fs τ) _ _ := h
      unfold callU at h
      rw [fit_bind] at h
      cases ef : fs τ with
      | stuck => rw [ef] at h; exact h.elim
      | exc nm τ1 => rw [ef] at h; exact h
      | ok ds τ1 =>
        rw [ef] at h
        exact fun vs H1 s1 R1 kp1 rs => spU_post hi (by rw [hn _ _ _ ef]; exact Nat.sub_add_cancel hn0) (by decide) R1 kp1 rs h
theorem jcg_set (i : Nat) {x : Str} {pos' : Pos} (hN : X.N.Nodup) (he : PEV X e (tE X.g W .im m f)) (hf : X.fn x = true) (hi : X.N[i]? = some x := by rfl) (hk : X.env.scope.names.lookup x = some .cell := by rfl) (hs : swapsWith e (some (.Name x pos')) pos.line X.env = pure false := by rfl) :
    PCG X x (.Assign [.Name x pos'] e pos) (tSt X.g W rk (setS i f)) := (pcg_set hN hi hk he hs hf).weak fun Dn σ H q => asg_im (fun σ H Q q => q) σ H q
end
end PL

/-! PL96: other = [x.replace(y, name) for x in list], the name's text new. -/
namespace PL
open PySem PySem.Spec PyProof.Rows L2
section
variable {X : Cx} {W : WX} {g : Gc} {γ : G} {τ τ' τ1 τ2 : PS0} {σ σ' σ1 : L2.St} {H H' H1 H2 : Hp} {A : Addr → Prop} {p : Addr} {v : V} {d : D} {k k1 k2 k3 kr : Kd} {rk : Rk} {m m1 m2 m3 : Bool} {e e1 e2 a b c tg iter elt o : Expr} {es rest : List Expr} {f fa fb fc : M D} {t u : M Bool} {fs : M (List D)} {pos : Pos} {st st2 : Stmt} {sts sts2 : List Stmt} {h h1 h2 h3 : SM} {n : Nat}
/-- a list in a slot, walked -/
def iterZ (j : Nat) : M (List D) := fun τ => match τ[j]? with
  | some (.im (.lst ds)) => .ok ds τ
  | _ => .stuck
theorem pik_name {j : Nat} {r : Str} {rp : Pos} {c : Addr} {u : Value} {pins : List (Addr × Obj)} {s : Shared} {R : It → Hp → Prop} (hN : X.N[j]? = some r) (hv : Vis X.env.scope r) (I : Inv X pins σ H s) (hc : s.heap.IsCell c (some u)) (h : tI X.g W false (iterZ j) σ H R) (hd : (r == ("__debug__" : Str)) = false := by decide) (hcd : (r == ("__classdict__" : Str)) = false := by decide) :
    wpAny (model X.prog X.w) X.A (eval (.Name r rp) X.env) (fun v s1 => wpAny (model X.prog X.w) X.A (pyIter v) (fun itv s2 => s2.heap.IsCell c (some u) ∧ PIE X pins σ tg R itv s2) X.xe s1) X.xe s := by
  obtain ⟨γ, τ, Rl, h⟩ := h
  unfold iterZ at h
  split at h
  · rename_i ds hj
    obtain ⟨v, hσ, rv⟩ := Rl.im j _ hj
    cases rv with
    | @lst a vs _ ha na ra =>
      refine raw_name hN hv I hσ (fun u' ru => ?_) hd hcd
      have eu : u' = Value.ref a := ru
      subst eu
      obtain ⟨its, rv, pl, hz⟩ := I.list (.inl (.inl ha))
      refine wpAny_pyIter_list pl.isList ⟨let ⟨oc, e1, e2⟩ := hc; ⟨oc, Heap.get?_push_of_some _ e1, e2⟩, ?_⟩
      refine ⟨s.heap.objs.size, [s.heap.objs.size], _, _, H, rfl, I.kept (t' := s.toks) fun b o e => Heap.get?_push_of_some _ e, turn_list a _, ⟨_, Heap.get?_push_size _ rfl, rfl, rfl⟩, fun b hb => ?_, h _ H _ (fun _ => Same.refl H) Rl Kp.refl ⟨_, .inl ⟨ha, na⟩, ra⟩ lasts_list good_list⟩
      have e : b = s.heap.objs.size := by simpa using hb
      subst e
      exact I.fpOk (Nat.le_refl _) (I.hok.fresh (Nat.le_refl _))
  · exact h.elim
/-- x.replace(y, z), z the slot's text -/
def oReplV (y : List Nat) (z : List Nat) : D → Option D
  | .str x => if y ≠ z ∧ x.length + (x.length + 1) * z.length ≤ 16777216 then some (.str (StrLaws.replL y z x)) else none
  | _ => none
def replV (i : Nat) (y : List Nat) (fa : M D) : M D := andThen fa fun d τ => match τ[i]? with
  | some (.im (.str z)) => (match oReplV y z d with
    | some r => .ok r τ
    | none => .stuck)
  | _ => .stuck
theorem jen_repl (i : Nat) {j : Nat} {x y : Str} {ly : List Nat} {c0 c1 apos : Pos} (n1 : 1 ≤ n) (G : GoodC n X x) (ha : JE X W k m o fa) (hk : X.env.kindOf x = some .cell) (hv : Vis X.env.scope x) (hN : X.N[i]? = some x := by rfl) (hy : y = S ly := by rfl) (hl : 1 ≤ ly.length := by decide)
    (hst : starEach [.Constant (.str y) j c0, .Name x c1] X.env = [(false, eval (.Constant (.str y) j c0) X.env), (false, eval (.Name x c1) X.env)] := by rfl)
    (hbase : attributeBase o "replace" X.env (eval o X.env) = eval o X.env := by rfl) (hline : (apos.endLine == pos.line) = true := by rfl) (hd : (x == ("__debug__" : Str)) = false := by decide) (hcd : (x == ("__classdict__" : Str)) = false := by decide) :
    PEN n X (.Call (.Attribute o "replace" apos) [.Constant (.str y) j c0, .Name x c1] [] pos) (tE X.g W .im m (replV i ly fa)) :=
  (pen_repl n1 G hN hk hv ha hst hbase hline hd hcd).weak fun σ H Q ⟨γ, τ, R, h⟩ => by
    unfold replV at h
    rw [fit_bind] at h
    refine ⟨γ, τ, R, h.mono (fun d τ1 h v H1 s1 P1 => ?_) fun _ _ q => q⟩
    obtain ⟨R1, kp1, v1⟩ := P1.val
    split at h
    · rename_i z hz
      obtain ⟨w, hσ, rw'⟩ := R1.im i _ hz
      cases e : oReplV ly z d with
      | none => rw [e] at h; exact h.elim
      | some r =>
        rw [e] at h
        unfold oReplV at e
        split at e
        · rename_i xs
          split at e
          · rename_i hb
            cases e
            cases rw' with
            | str =>
              subst hy
              refine ⟨S xs, S z, v1.l.str, hσ, ?_, by rw [S_len, S_len]; exact hb.2, ?_⟩
              · exact beq_eq_false_iff_ne.mpr fun q => hb.1 (S_inj q)
              · rw [repl_S hl]
                exact h _ _ s1 ⟨R1, kp1, .str _⟩
          · cases e
        · cases e
    · exact h.elim
/-! ### the statement -/
def PSC (X : Cx) (x : Str) (st : Stmt) (t : TS) : Prop := ∀ (pins : List (Addr × Obj)) (s : Shared) (σ : L2.St) (H : Hp) (D : Ends) (c : Addr) (u : Value), X.env.cells.lookup x = some c → s.heap.IsCell c (some u) → GoodV s.toks u → 1 ≤ s.toks → Inv X pins σ H s → t D σ H → wpAny (model X.prog X.w) X.A (exec st X.env) (SP X pins D) X.xe s
theorem PSC.weak {x : Str} {t t' : TS} (h : PSC X x st t) (w : ∀ D σ H, t' D σ H → t D σ H) : PSC X x st t' := fun pins s σ H D c u h1 h2 h3 h4 I q => h pins s σ H D c u h1 h2 h3 h4 I (w D σ H q)
theorem psc_setLc {i j : Nat} {x y r : Str} {py spos rp : Pos} {ifs : List Expr} {scope : Scope} {own : List (Str × Nat)} {g : TG} {tt : TT} {te : TE} (calm : X.calm = true) (nd : X.N.Nodup) (hy : X.N[i]? = some y) (hl : X.env.scope.names.lookup y = some .local)
    (sw : swapsWith (.ListComp elt [⟨tg, .Name r rp, ifs, 0⟩] scope pos) (some (.Name y py)) spos.line X.env = pure true) (hNr : X.N[j]? = some r) (hvr : Vis X.env.scope r) (ok : BlkOk X.N X.env.scope scope own) (hfn : X.fn x = true) (hfr : scope.names.lookup x = some .free)
    (hg : ∀ (s : Shared) (H : Hp) (C : Addr) (cl : List (Str × Addr)) (fp : List Addr), PG (X.blk s H scope (compEnvC scope cl C X.env) fp) tg g)
    (ht : ∀ (s : Shared) (H : Hp) (C : Addr) (cl : List (Str × Addr)) (fp : List Addr), PTs (X.blk s H scope (compEnvC scope cl C X.env) fp) ifs tt)
    (he : ∀ (n : Nat), 1 ≤ n → ∀ (s : Shared) (H : Hp) (C : Addr) (cl : List (Str × Addr)) (fp : List Addr), GoodC n (X.blk s H scope (compEnvC scope cl C X.env) fp) x → PEN n (X.blk s H scope (compEnvC scope cl C X.env) fp) elt te)
    (hs : ∀ z, foldedSetIterable (.Name r rp) X.env z = pure z := by intro _; rfl) (hd : (r == ("__debug__" : Str)) = false := by decide) (hcd : (r == ("__classdict__" : Str)) = false := by decide) : PSC X x (.Assign [.Name y py] (.ListComp elt [⟨tg, .Name r rp, ifs, 0⟩] scope pos) spos) (tAsg (tLc (tI X.g W false (iterZ j)) g tt te (own.map (·.2))) (gName i)) := by
  intro pins s σ H D c u hlk hc gv h1 I h
  have h : tLc (tI X.g W false (iterZ j)) g tt te (own.map (·.2)) σ H (fun x H1 => gName i x σ H1 D.nx) := h
  rw [exec_Assign_Name_used _ _ _ _ sw]
  have main := lcK (at_ := pos) (pos' := firstIterPos [⟨tg, .Name r rp, ifs, 0⟩] pos) (use := some (assign (.Name y py) X.env)) (Qf := fun _ s' => SP X pins D .next s') calm nd I (Nat.le_refl _) gv hlk hfn hfr (fun R q => pik_name hNr hvr I hc q hd hcd) ok hg ht (he s.toks h1) hs h fun L C s' m H' I' q hn f => by
    show wpAny _ _ (assign (.Name y py) X.env (.ref L)) _ _ _
    refine wpAny_assign_Name (store_ok2 (v := V.ref L) I' nd hy (.inl hl) rfl (fun s2 I2 ⟨c, same, hc⟩ => ?_) (.inr hl))
    have ne : C ≠ c := by
      rcases hc with rfl | hc
      · exact f.2.1
      · exact fun z => f.2.2.2.2.1 y c hc z.symm
    exact ⟨m, hn.sameBut same ne, fun h3 same3 => ⟨_, H', I2.turned (t' := s2.toks) (fun b o hb eo => (same3.2 b hb).trans eo) f.1 f.2.1 f.2.2.2.1 f.2.2.2.2.1 f.2.2.2.2.2, q⟩⟩
  exact wpAny_bind (wpAny_standAt (wpAny_bind (wpAny_bind (thn main fun _ s' hq => wpAny_pure (wpAny_pure hq)))))
theorem jsc_setLc (i j : Nat) {x y r : Str} {ifs : List Expr} {scope : Scope} {own : List (Str × Nat)} {ts : List Nat} {h : D → PS0 → Option PS0} {el : M D} {mt me : Bool} {py spos rp : Pos} (hc : X.calm = true) (hN : X.N.Nodup) (hy : X.N[i]? = some y) (hyl : X.env.scope.names.lookup y = some .local)
    (hsw : swapsWith (.ListComp elt [⟨tg, .Name r rp, ifs, 0⟩] scope pos) (some (.Name y py)) spos.line X.env = pure true) (hNr : X.N[j]? = some r) (hvr : Vis X.env.scope r) (ok : BlkOk X.N X.env.scope scope own) (hfn : X.fn x = true) (hfr : scope.names.lookup x = some .free)
    (hg : ∀ (s : Shared) (H : Hp) (C : Addr) (cl : List (Str × Addr)) (fp : List Addr), JG (X.blk s H scope (compEnvC scope cl C X.env) fp) tg h ts) (ht : ∀ (s : Shared) (H : Hp) (C : Addr) (cl : List (Str × Addr)) (fp : List Addr), JTs (X.blk s H scope (compEnvC scope cl C X.env) fp) W0 mt ifs t)
    (he : ∀ (n : Nat), 1 ≤ n → ∀ (s : Shared) (H : Hp) (C : Addr) (cl : List (Str × Addr)) (fp : List Addr), GoodC n (X.blk s H scope (compEnvC scope cl C X.env) fp) x → PEN n (X.blk s H scope (compEnvC scope cl C X.env) fp) elt (tE X.g W0 .im me el)) (hts : ∀ j, j ∈ ts → j ∈ own.map (·.2) := by decide)
    (hs : ∀ z, foldedSetIterable (.Name r rp) X.env z = pure z := by intro _; rfl) (hd : (r == ("__debug__" : Str)) = false := by decide) (hcd : (r == ("__classdict__" : Str)) = false := by decide) :
    PSC X x (.Assign [.Name y py] (.ListComp elt [⟨tg, .Name r rp, ifs, 0⟩] scope pos) spos) (tSt X.g W rk (setS i (lcE (own.map (·.2)) (iterZ j) h t el))) := PSC.weak (psc_setLc (W := W) (g := tG X.g h ts) (tt := tT X.g W0 mt t) (te := tE X.g W0 .im me el) hc hN hy hyl hsw hNr hvr ok hfn hfr hg ht he hs hd hcd) fun Dn σ H q =>
  asg_im (m := true) (f := lcE (own.map (·.2)) (iterZ j) h t el) (fun σ H Q q => tE_lc (m := false) hts σ H Q (by
    obtain ⟨γ, τ, R, q⟩ := q
    exact ⟨γ, τ, R, q.mono (fun d τ' z v H' s P => z v H' s P.toIm) fun _ _ z => z⟩)) σ H q
/-- the two, one behind the other -/
theorem pss_two {x : Str} {t1 t2 t3 : TS} (h1' : PCG X x st t1) (h2' : PSC X x st2 t2) (h3' : PSs X sts t3) : PSs X (st :: st2 :: sts) (tSeq t1 (tSeq t2 t3)) := by
  refine ⟨fun pins s σ H D I h => ?_⟩
  refine wpAny_execs_cons (thn (h1' pins s σ H { D with nx := tSeq t2 t3 D } I h) fun f s1 ⟨ef, ⟨σ1, H1, I1, q⟩, k1, c, u, hc, hz, gv⟩ => ?_)
  subst ef
  refine wpAny_execs_cons (thn (h2' pins s1 σ1 H1 { D with nx := t3 D } c u hc hz gv k1 I1 q) fun f s2 q => ?_)
  cases f with
  | next =>
    obtain ⟨σ', H', I', q⟩ := q
    exact h3'.run pins s2 σ' H' D I' q
  | ret v => exact q
  | brk => exact q
  | cont => exact q
theorem jb_two {x : Str} (h1' : PCG X x st (tSt X.g W rk h1)) (h2' : PSC X x st2 (tSt X.g W rk h2)) (h3' : JB X W rk sts h3) : JB X W rk (st :: st2 :: sts) (seqS h1 (seqS h2 h3)) := (pss_two h1' h2' h3').weak fun Dn σ H ⟨γ, τ, R, q⟩ => by
  rw [fitS_seq] at q
  refine ⟨γ, τ, R, q.mono (fun τ' z σ' H' R' k' => ?_) (fun _ _ z => z) fun _ _ z => z⟩
  rw [fitS_seq] at z
  refine ⟨γ, τ', R', z.mono (fun τ2 y σ2 H2 R2 k2 => tSt_go R2 (k'.trans k2) y) (fun d τ2 y σ2 v2 H2 P2 => y σ2 v2 H2 (P2.pre' k')) fun nm τ2 y => y.pre k'⟩
end
end PL

/-! PL97: dict(d), sum(d.values()), a fixed dict locked for one statement. -/
namespace PL
open PySem PySem.Spec PyProof.Rows L2
section
variable {X : Cx} {W : WX} {g : Gc} {γ : G} {τ τ' τ1 τ2 : PS0} {σ σ' σ1 : L2.St} {H H' H1 H2 : Hp} {A : Addr → Prop} {v : V} {d : D} {k k1 k2 k3 kr : Kd} {rk : Rk} {m m1 m2 m3 : Bool} {e e1 e2 a b c tg iter elt o : Expr} {es rest : List Expr} {f fa fb fc : M D} {pos : Pos} {st : Stmt}
def oDictD : D → Option D
  | .dK es => some (.dK es)
  | _ => none
theorem fn_dictD {k : Kd} (hk : k ≠ .ln) : Fn1 k g (fun xs H Q => ∃ (a : Addr) (kvs : List (Key × V)), xs = [.ref a] ∧ Rd H a (.dK kvs) ∧ ∀ p, H p = none → Q (.ref p) (upd H p (.dK kvs))) oDictD := fun H A x d z Q hA rx ho q => by
  unfold oDictD at ho
  split at ho
  · cases ho
    obtain ⟨a, kvs, rfl, ha, hkk, ra⟩ := rx.dK
    refine ⟨a, kvs, rfl, .inl ha, fun p hp => q _ _ ?_⟩
    have s : Same H (upd H p (.dK kvs)) := fun b o e => by rw [upd_ne (ne_of_none e hp)]; exact e
    have np : ¬ A p := fun q => by
      obtain ⟨u, e⟩ := hA p q
      rw [hp] at e; cases e
    cases k with
    | ln => exact absurd rfl hk
    | im => exact ⟨s, .dK upd_same np hkk (ra.kp (Same.kp s fun _ q => q))⟩
    | fr => exact ⟨s, p, rfl, hp, .dK upd_same hkk (ra.kp fun a o e n => ⟨s a o e, fun q => q.elim n (ne_of_none e hp)⟩)⟩
  · cases ho
/-! ### sum(d.values()) -/
def tSumVals (td : TE) : TE := fun σ H Q => td σ H fun x H1 => ∃ (d : Addr) (kvs : List (Key × V)) (ns : List Int), x = .ref d ∧ H1 d = some (.dK kvs) ∧ kvs.map (·.2) = ns.map V.int ∧ Q (.int ns.sum) H1
theorem pe_sumVals {td : TE} {o : Expr} {p apos cpos : Pos} (hc : X.calm = true) (he : PE X o td) (hg : Gl X "sum") (hm : X.mg "sum" = none) (hv : bootBuiltins "sum" = some (.builtin "sum"))
    (hbase : attributeBase o "values" X.env (eval o X.env) = eval o X.env := by rfl) (hline : (apos.endLine == cpos.line) = true := by rfl)
    (hst : starEach [.Call (.Attribute o "values" apos) [] [] cpos] X.env = (false, eval (.Call (.Attribute o "values" apos) [] [] cpos) X.env) :: starEach [] X.env := by rfl) : PE X (.Call (.Name "sum" p) [.Call (.Attribute o "values" apos) [] [] cpos] [] pos) (tSumVals td) := by
  refine ⟨fun pins s σ H Q I h => ?_⟩
  refine wpAny_Call_Name_kw (ld_blt I hg hm hv ?_ (by decide) (by decide))
  refine PyProof.Rows.callWith_builtin1 ?_ hst rfl
  rw [hst]
  refine Calls.spliced_cons ?_
  refine wpAny_Call_method (T := "dict") (id := "dict.values") hbase rfl hline F.plainAttrs_dict F.slot_dict_values F.type_dict_values (thn (he.run pins s σ H _ I h) fun u s1 ⟨x, H1, I1, rx, d, kvs, ns, ex, hk, hi, q⟩ => ?_)
  subst ex
  obtain rfl : u = Value.ref d := rx
  obtain ⟨z, lo, vs, rk, hd⟩ := (show ObjOk X.prog X.w H1 s1.heap d (.dK kvs) from I1.hok d _ hk)
  obtain ⟨ep, hat⟩ := hd.dictAt
  have hl : kvs.length = vs.length := Paired.length rk
  refine ⟨hd.typeIs, hd.mapOf.noDict, ?_⟩
  show wpAny _ _ (callWith cpos (.builtin "dict.values") [.ref d] [] []) _ X.xe s1
  refine method_meetsIn F.slot_dict_values F.entry_dict_values rfl (PySem.evalArgs_none ⟨rfl, hd.typeIs, F.args_dict_values_1 _, _, meets_dict_values (mixKind X.prog X.w) d lo, ⟨vs, hd⟩, ?_⟩)
  have I2 : Inv X pins σ H1 { s1 with heap := s1.heap.push { cls := .type "dict_values", data := .fields #[.ref d] } } := I1.kept (t' := s1.toks) fun b ob q => Heap.get?_push_of_some _ q
  refine Calls.spliced_nil ?_
  obtain ⟨oI, St, hpi, Wk, st0⟩ := (PySem.W.kdl_values (knd := mixKind X.prog X.w) (r := s1.heap.objs.size) (d := d) (kvs := vs) (ep := ep)).iter X.A.in1 { s1 with heap := s1.heap.push { cls := .type "dict_values", data := .fields #[.ref d] } } (by rw [Around.in1_handled]; exact I2.ok.hd hc) ⟨⟨_, Heap.get?_push_size _ rfl, rfl, rfl⟩, hat.push _⟩
  refine PySem.call_sum_walkAnyS (hpi _ _ ⟨_, _, _, _, _, _, _, fun i => ns.getD i 0, rfl, Wk.toS, st0, fun b hb => ?_, fun i v ⟨kk, hv⟩ => ?_, fun s' t' hm => ?_⟩)
  · show b < (Heap.push _ _).objs.size
    rw [Heap.size_push]
    rcases List.mem_cons.mp hb with rfl | hb
    · exact Nat.lt_succ_self _
    · rw [List.mem_singleton.mp hb]
      exact Nat.lt_succ_of_lt (hat.push _).lt_size
  · have hlt := (List.getElem?_eq_some_iff.mp hv).1
    have hk2 : kvs[i]? = some kvs[i] := List.getElem?_eq_getElem (by omega)
    obtain ⟨u, hu, ru⟩ := kv_get rk (k := kvs[i].1) (v := kvs[i].2) hk2
    rw [hv] at hu
    cases hu
    have e1 := congrArg (fun l => l[i]?) hi
    simp only [List.getElem?_map] at e1
    rw [hk2] at e1
    cases en : ns[i]? with
    | none => rw [en] at e1; cases e1
    | some y =>
      rw [en] at e1
      have e1 : kvs[i].2 = V.int y := Option.some.inj e1
      rw [e1] at ru
      obtain ⟨t, rfl⟩ := ru
      exact ⟨t, by show Value.int y t = Value.int (ns.getD i 0) t; rw [List.getD_eq_getElem?_getD, en]; rfl⟩
  · obtain ⟨h', g', d', tk', os'⟩ := s'
    have eg : g' = s1.gens := hm.gens
    have ed : d' = s1.drawn := hm.drawn
    have eo : os' = s1.os := hm.os
    subst eg; subst ed; subst eo
    have I3 : Inv X pins σ H1 { s1 with heap := h', toks := tk' } := I1.kept (t' := tk') fun b ob qb => hm.heap b ob (fun m => by
      have e2 : b = s1.heap.objs.size + 1 := (List.mem_singleton.mp m).trans (Heap.size_push _ _)
      have l1 : b < s1.heap.objs.size := Heap.lt_size qb
      rw [e2] at l1
      exact absurd l1 (Nat.not_lt.mpr (Nat.le_succ _))) (Heap.get?_push_of_some _ (Heap.get?_push_of_some _ qb))
    have es : preSum (fun i => ns.getD i 0) vs.length = ns.sum := by
      have nl : ns.length = vs.length := by
        have := congrArg List.length hi
        rw [List.length_map, List.length_map] at this
        omega
      have := preSum_list (h := fun v => match v with | .int i => i | _ => 0) (ns.map V.int) (fun i => ns.getD i 0) (fun i x hx => by
        rw [List.getElem?_map] at hx
        cases en : ns[i]? with
        | none => rw [en] at hx; cases hx
        | some y =>
          rw [en] at hx
          cases hx
          show ns.getD i 0 = y
          rw [List.getD_eq_getElem?_getD, en]
          rfl) vs.length (by rw [List.length_map]; omega)
      rw [this, ← nl, List.take_of_length_le (by rw [List.length_map]; exact Nat.le_refl _), List.map_map]
      congr 1
      exact List.map_id _
    rw [es]
    exact ⟨.int ns.sum, H1, I3, ⟨t', rfl⟩, q⟩
end
end PL

/-! PL98: sum(d.values()) of whole numbers; a fixed dict locked for one statement. -/
namespace PL
open PySem PySem.Spec PyProof.Rows L2
section
variable {X : Cx} {W : WX} {g : Gc} {γ : G} {τ τ' τ1 τ2 : PS0} {σ σ' σ1 : L2.St} {H H' H1 H2 : Hp} {A : Addr → Prop} {v : V} {d : D} {k k1 k2 k3 kr : Kd} {rk : Rk} {m m1 m2 m3 : Bool} {e e1 e2 a b c tg iter elt o : Expr} {es rest : List Expr} {f fa fb fc : M D} {pos : Pos} {st : Stmt}
def intsD : List D → Option (List Int)
  | [] => some []
  | .int i :: r => (intsD r).map (i :: ·)
  | _ => none
theorem intsD_rep : ∀ {ds : List D} {vs : List V} {ns : List Int}, RepA g H A vs ds → intsD ds = some ns → vs = ns.map V.int
  | [], _, _, .nil, e => by cases e; rfl
  | d :: ds, _, ns, .cons r t, e => by
    cases d with
    | int i =>
      unfold intsD at e
      cases h : intsD ds with
      | none => rw [h] at e; cases e
      | some js =>
        rw [h] at e
        cases e
        cases r with
        | int => rw [intsD_rep t h]; rfl
    | _ => unfold intsD at e; cases e
def oSumV : D → Option D
  | .dK es => (intsD (es.map (·.2))).map fun ns => .int ns.sum
  | _ => none
theorem je_sumVals {p apos cpos : Pos} (hc : X.calm = true) (ha : JE X W k1 m1 a fa) (hg : Gl X "sum") (hm : X.mg "sum" = none) (hv : bootBuiltins "sum" = some (.builtin "sum"))
    (hbase : attributeBase a "values" X.env (eval a X.env) = eval a X.env := by rfl) (hline : (apos.endLine == cpos.line) = true := by rfl)
    (hst : starEach [.Call (.Attribute a "values" apos) [] [] cpos] X.env = (false, eval (.Call (.Attribute a "values" apos) [] [] cpos) X.env) :: starEach [] X.env := by rfl) : JE X W .im m1 (.Call (.Name "sum" p) [.Call (.Attribute a "values" apos) [] [] cpos] [] pos) (op1 oSumV fa) :=
  (pe_sumVals hc ha hg hm hv hbase hline hst).weak fun σ H Q ⟨γ, τ, R, h⟩ => by
    unfold op1 at h
    rw [fit_bind] at h
    refine ⟨γ, τ, R, h.mono (fun d τ1 h v H1 s1 P1 => ?_) fun _ _ q => q⟩
    obtain ⟨z, ez, h⟩ := fit_lift.mp h
    obtain ⟨R1, kp1, v1⟩ := P1.val
    unfold oSumV at ez
    split at ez
    · rename_i es
      cases ei : intsD (es.map (·.2)) with
      | none => rw [ei] at ez; cases ez
      | some ns =>
        rw [ei] at ez
        cases ez
        obtain ⟨ad, kvs, rfl, hd, hkk, ra⟩ := v1.l.dK
        exact ⟨ad, kvs, ns, rfl, hd, intsD_rep ra ei, h _ _ s1 ⟨R1, kp1, .int _⟩⟩
    · cases ez
/-! ### a fixed dict, locked for one statement -/
def flt : D → Bool
  | .non => true
  | .bl _ => true
  | .int _ => true
  | .str _ => true
  | _ => false
def flS : Slot → Bool
  | .no => true
  | .im d => flt d
  | .ow (.dK es) => (es.map (·.2)).all flt
  | _ => false
theorem flt_rep {B : Addr → Prop} {d : D} (h : flt d = true) (r : Rep g H A v d) : Rep g H' B v d := by
  cases r with
  | non => exact .non
  | bl b => exact .bl b
  | int i => exact .int i
  | str x => exact .str x
  | _ => cases h
theorem flt_reps {B : Addr → Prop} : ∀ {ds : List D} {vs : List V}, ds.all flt = true → RepA g H A vs ds → RepA g H' B vs ds
  | [], _, _, .nil => .nil
  | d :: ds, _, h, .cons r t => by
    rw [List.all_cons, Bool.and_eq_true] at h
    exact .cons (flt_rep h.1 r) (flt_reps h.2 t)
def lckI (i : Nat) (f : SM) : SM := fun τ => match τ[i]? with
  | some (.im (.dK es)) => if ((τ.set i .no).all flS && (es.map (·.2)).all flt) = true then (match f (τ.set i (.im (.fk es))) with
    | .nx τ' => if (decide (i < τ'.length) && (τ'.set i .no).all flS) = true then .nx (τ'.set i .no) else .stuck
    | _ => .stuck) else .stuck
  | _ => .stuck
/-- where all but slot i is flat, one object may be another -/
theorem Rel.flat {i : Nat} {b : Addr} {o : HO} {s : Slot} (R : Rel g γ τ σ H) (hi : i < τ.length) (fl : (τ.set i .no).all flS = true) (hb : Th (upd H b o) b) (nb : ∀ (j : Nat) (es : List (Key × D)), τ[j]? = some (Slot.ow (.dK es)) → σ[j]? ≠ some (some (V.ref b))) (hs : s.isOwn = false)
    (new : (∀ a, Own (τ.set i s) σ (upd H b o) a → Own τ σ H a) → ∀ d, s = .im d → ∃ v, σ[i]? = some (some v) ∧ Rep g (upd H b o) (Av γ (τ.set i s) σ (upd H b o)) v d) : Rel g γ (τ.set i s) σ (upd H b o) ∧ ∀ a, Own (τ.set i s) σ (upd H b o) a → Own τ σ H a := by
  have at_ : ∀ {j : Nat} {t : Slot}, j ≠ i → τ[j]? = some t → flS t = true := fun {j t} hj ht => by
    have : (τ.set i .no)[j]? = some t := by rw [List.getElem?_set_ne (Ne.symm hj)]; exact ht
    exact List.all_eq_true.mp fl t (List.mem_of_getElem? this)
  have get : ∀ {j : Nat} {t : Slot}, (τ.set i s)[j]? = some t → (j = i ∧ t = s) ∨ (j ≠ i ∧ τ[j]? = some t) := fun {j t} h => by
    by_cases q : j = i
    · subst q
      rw [List.getElem?_set_self hi] at h
      cases h
      exact .inl ⟨rfl, rfl⟩
    · rw [List.getElem?_set_ne (Ne.symm q)] at h
      exact .inr ⟨q, h⟩
  have own : ∀ {j : Nat} {a : Addr}, OwnAt (τ.set i s) σ (upd H b o) j a → j ≠ i ∧ OwnAt τ σ H j a := fun {j a} ⟨t, v, ht, hv, hf⟩ => by
    rcases get ht with ⟨rfl, rfl⟩ | ⟨hj, ht⟩
    · rw [Slot.foot_own hf] at hs; cases hs
    · have := at_ hj ht
      cases t with
      | ow d => exact ⟨hj, _, v, ht, hv, hf⟩
      | no => exact hf.elim
      | im d => exact hf.elim
      | mu d => cases this
      | bx d => cases this
      | mb d => cases this
  have sub : ∀ a, Own (τ.set i s) σ (upd H b o) a → Own τ σ H a := fun a ⟨j, z⟩ => ⟨j, (own z).2⟩
  refine ⟨⟨by rw [List.length_set]; exact R.len, fun j d hj => ?_, fun j d hj => ?_, fun j d hj => ?_, fun j d hj => ?_, fun j d hj => ?_, fun j l a h1 h2 => R.inj j l a (own h1).2 (own h2).2, fun a ha => ⟨?_, fun z => (R.pal a ha).2 (sub a z)⟩⟩, sub⟩
  · rcases get hj with ⟨rfl, e⟩ | ⟨q, hj⟩
    · exact new sub d e.symm
    · obtain ⟨v, hv, r⟩ := R.im j d hj
      exact ⟨v, hv, flt_rep (at_ q hj) r⟩
  · rcases get hj with ⟨rfl, e⟩ | ⟨q, hj⟩
    · subst e; cases hs
    · obtain ⟨a, ha, c⟩ := R.ow j d hj
      refine ⟨a, ha, ?_⟩
      have fl2 := at_ q hj
      cases c with
      | @dK kvs es h1 h2 h3 =>
        have ne : a ≠ b := fun z => by
          subst z
          exact nb j es hj ha
        exact .dK ((upd_ne ne).trans h1) h2 (flt_reps fl2 h3)
      | lst _ _ => cases fl2
      | dT _ _ _ => cases fl2
  · rcases get hj with ⟨rfl, e⟩ | ⟨q, hj⟩
    · subst e; cases hs
    · cases at_ q hj
  · rcases get hj with ⟨rfl, e⟩ | ⟨q, hj⟩
    · subst e; cases hs
    · cases at_ q hj
  · rcases get hj with ⟨rfl, e⟩ | ⟨q, hj⟩
    · subst e; cases hs
    · cases at_ q hj
  · by_cases q : a = b
    · rw [q]; exact hb
    · obtain ⟨u, h1, h2⟩ := (R.pal a ha).1
      exact ⟨u, (upd_ne q).trans h1, h2⟩
theorem js_lckI (i : Nat) {f : SM} (h : JS X W rk st f) : JS X W rk st (lckI i f) := (ps_lock h).weak fun Dn σ H ⟨γ, τ, R, q⟩ => by
  unfold lckI at q
  split at q
  · rename_i es hi
    split at q
    · rename_i fl0
      rw [Bool.and_eq_true] at fl0
      obtain ⟨fl, fv⟩ := fl0
      have hlt : i < τ.length := (List.getElem?_eq_some_iff.mp hi).1
      obtain ⟨v, hv, r⟩ := R.im i _ hi
      cases r with
      | @dK a kvs _ ha na hkk ra =>
        refine ⟨a, _, ha, trivial, fun od => ?_⟩
        obtain ⟨R1, sub1⟩ := R.flat (b := a) (o := .frz od (.dK kvs)) (s := .im (.fk es)) hlt fl ⟨_, upd_same, fun _ z => nomatch z⟩ (fun j es' hj z => na (.inr ⟨j, .of hj rfl z⟩)) rfl (fun sub d ed => by
          cases ed
          exact ⟨_, hv, .fk ⟨od, upd_same⟩ (fun z => na (z.imp id (sub _))) hkk (flt_reps fv ra)⟩)
        refine ⟨γ, _, R1, ?_⟩
        cases ef : f (τ.set i (.im (.fk es))) with
        | stuck => rw [ef] at q; exact q.elim
        | exc n τ' => rw [ef] at q; exact q.elim
        | ret d τ' => rw [ef] at q; exact q.elim
        | nx τ' =>
          rw [ef] at q
          simp only [] at q
          split at q
          · rename_i fl'
            rw [Bool.and_eq_true, decide_eq_true_eq] at fl'
            obtain ⟨hl', fl'⟩ := fl'
            intro σ' H' R' k'
            have nO1 : ¬ Own (τ.set i (.im (.fk es))) σ (upd H a (.frz od (.dK kvs))) a := fun z => na (.inr (sub1 a z))
            obtain ⟨ha', nO'⟩ := k' a _ upd_same nO1
            refine ⟨ha', ?_⟩
            obtain ⟨R2, sub2⟩ := R'.flat (b := a) (o := .dK kvs) (s := .no) hl' fl' ⟨_, upd_same, fun _ z => nomatch z⟩ (fun j es' hj z => nO' ⟨j, .of hj rfl z⟩) rfl (fun _ _ ed => nomatch ed)
            refine q σ' _ R2 fun b o eb nb => ?_
            by_cases hb : b = a
            · subst hb
              rw [ha] at eb
              cases eb
              exact ⟨upd_same, fun z => nO' (sub2 _ z)⟩
            · obtain ⟨e1, e2⟩ := k' b o ((upd_ne hb).trans eb) fun z => nb (sub1 b z)
              exact ⟨(upd_ne hb).trans e1, fun z => e2 (sub2 b z)⟩
          · exact q.elim
    · exact q.elim
  · exact q.elim
end
end PL

/-! PL99: what is known of a def whose texts are new. -/
namespace PL
open PySem PySem.Spec PyProof.Rows L2
structure KnK (P : Program) (w : World) (K : PySem.W.Frag) (mg : Str → Option Value) (base : Heap) (x : Str) (ps : List Str) (f : Addr) (fd : FuncData) (k : Nat) (sp : Sp) : Prop where
  g : mg x = some (.ref f)
  kp : PySem.W.keepIn K (.ref f) = true
  b : Binds K fd ps []
  ok : FnK P w K mg base (L2.CX P w) k f fd ps sp
end PL

/-! PM0: how the pure functions are reckoned: each word's step as an equation for simp; loops by invariants. -/
namespace PL
open PySem PySem.Spec PyProof.Rows L2

section
variable {α β : Type} {τ τ' : PS0} {i j n : Nat} {d e : D} {ds : List D} {s : Slot} {f fa fb fc : M D} {fs : M (List D)} {t u : M Bool} {x y : SM} {nm : Str}
def bM (r : Res α) (f : α → M β) : Res β := match r with
  | .ok a τ => f a τ
  | .exc n τ => .exc n τ
  | .stuck => .stuck
theorem bM_ok {a : α} {f : α → M β} : bM (.ok a τ) f = f a τ := rfl
theorem bM_exc {f : α → M β} : bM (.exc nm τ) f = .exc nm τ := rfl
def bR (r : Res α) (f : α → SM) : SR := match r with
  | .ok a τ => f a τ
  | .exc n τ => .exc n τ
  | .stuck => .stuck
theorem bR_ok {a : α} {f : α → SM} : bR (.ok a τ) f = f a τ := rfl
theorem bR_exc {f : α → SM} : bR (.exc nm τ) f = .exc nm τ := rfl
def bS (r : SR) (y : SM) : SR := match r with
  | .nx τ => y τ
  | r => r
theorem bS_nx : bS (.nx τ) y = y τ := rfl
theorem bS_ret : bS (.ret d τ) y = .ret d τ := rfl
theorem bS_exc : bS (.exc nm τ) y = .exc nm τ := rfl
def bO (o : Option α) (f : α → SR) : SR := match o with
  | some a => f a
  | none => .stuck
theorem bO_some {a : α} {f : α → SR} : bO (some a) f = f a := rfl
def bOM (o : Option α) (f : α → Res β) : Res β := match o with
  | some a => f a
  | none => .stuck
theorem bOM_some {a : α} {f : α → Res β} : bOM (some a) f = f a := rfl
def selM (b : Bool) (f g : M α) : M α := if b = true then f else g
theorem selM_t {f g : M α} : selM true f g = f := rfl
theorem selM_f {f g : M α} : selM false f g = g := rfl
def selS (b : Bool) (f g : SM) : SM := if b = true then f else g
theorem selS_t {f g : SM} : selS true f g = f := rfl
theorem selS_f {f g : SM} : selS false f g = g := rfl
def rdO (o : Option Slot) (i : Nat) (τ : PS0) : Res D := match o with
  | some (.im d) => .ok d τ
  | some (.ow d) => .ok d (τ.set i (.im d))
  | _ => .stuck
theorem rdO_im : rdO (some (.im d)) i τ = .ok d τ := rfl
theorem rdO_ow : rdO (some (.ow d)) i τ = .ok d (τ.set i (.im d)) := rfl
def lookO (o : Option Slot) (τ : PS0) : Res D := match o with
  | some (.im d) => .ok d τ
  | some (.ow d) => .ok d τ
  | some (.mu d) => .ok d τ
  | _ => .stuck
theorem lookO_im : lookO (some (.im d)) τ = .ok d τ := rfl
theorem lookO_ow : lookO (some (.ow d)) τ = .ok d τ := rfl
theorem lookO_mu : lookO (some (.mu d)) τ = .ok d τ := rfl
def moveO (o : Option Slot) (i : Nat) (τ : PS0) : Res D := match o with
  | some (.ow d) => .ok d (τ.set i .no)
  | _ => .stuck
theorem moveO_ow : moveO (some (.ow d)) i τ = .ok d (τ.set i .no) := rfl
def ownO (o : Option Slot) : Option D := match o with
  | some (.ow d) => some d
  | some (.mu d) => some d
  | _ => none
theorem ownO_ow : ownO (some (.ow d)) = some d := rfl
theorem ownO_mu : ownO (some (.mu d)) = some d := rfl
def putO (o : Option Slot) (τ : PS0) (i : Nat) (d : D) : PS0 := match o with
  | some s => τ.set i (s.put d)
  | none => τ
theorem putO_ow : putO (some (.ow e)) τ i d = τ.set i (.ow d) := rfl
theorem putO_mu : putO (some (.mu e)) τ i d = τ.set i (.mu d) := rfl
def ofDR (r : DR) : M D := fun τ => match r with
  | .ret d _ => .ok d τ
  | .exc n _ => .exc n τ
  | .stuck => .stuck
theorem ofDR_ret {o : D} : ofDR (.ret d o) τ = .ok d τ := rfl
theorem ofDR_exc {o : D} : ofDR (.exc nm o) τ = .exc nm τ := rfl
def ofDU (i : Nat) (r : DR) : M D := fun τ => match r with
  | .ret d o => .ok d (putC τ i o)
  | .exc n o => .exc n (putC τ i o)
  | .stuck => .stuck
theorem ofDU_ret {o : D} : ofDU i (.ret d o) τ = .ok d (putC τ i o) := rfl
theorem ofDU_exc {o : D} : ofDU i (.exc nm o) τ = .exc nm (putC τ i o) := rfl
def endF (rk : Kd) (r : SR) : DR := match r with
  | .nx τ => if rk = .im then .ret .non .non else .stuck
  | .ret d τ => .ret d .non
  | .exc n τ => .exc n .non
  | .stuck => .stuck
theorem endF_nx : endF .im (.nx τ) = .ret .non .non := rfl
theorem endF_ret {rk : Kd} : endF rk (.ret d τ) = .ret d .non := rfl
theorem endF_exc {rk : Kd} : endF rk (.exc nm τ) = .exc nm .non := rfl
def endU (rk : Kd) (r : SR) : DR := match r with
  | .nx τ => if rk = .im then withM .non (muP τ) else .stuck
  | .ret d τ => withM d (muP τ)
  | .exc n τ => excM n (muP τ)
  | .stuck => .stuck
theorem endU_nx : endU .im (.nx (.mu d :: τ)) = .ret .non d := rfl
theorem endU_ret {rk : Kd} : endU rk (.ret d (.mu e :: τ)) = .ret d e := rfl
theorem endU_exc {rk : Kd} : endU rk (.exc nm (.mu e :: τ)) = .exc nm e := rfl
theorem e_runF {rk : Kd} {body : SM} : runF n rk body ds = endF rk (body (ds.map .im ++ List.replicate (n - ds.length) .no)) := by
  unfold runF endF
  cases body (ds.map .im ++ List.replicate (n - ds.length) .no) <;> rfl
theorem e_runU {rk : Kd} {body : SM} {c : D} : runU n rk body (c :: ds) = endU rk (body (.mu c :: (ds.map .im ++ List.replicate (n - (ds.length + 1)) .no))) := by
  unfold runU endU
  simp only []
  all_goals (cases body (.mu c :: (ds.map .im ++ List.replicate (n - (ds.length + 1)) .no)) <;> rfl)
theorem e_bind {f : α → M β} {g : M α} : andThen g f τ = bM (g τ) f := rfl
theorem e_ret {a : α} : ret a τ = .ok a τ := rfl
theorem e_lift {a : α} : lift (some a) τ = .ok a τ := rfl
theorem e_rd : rd i τ = rdO τ[i]? i τ := by
  unfold rd rdO
  cases τ[i]? with
  | none => rfl
  | some s => cases s <;> rfl
theorem e_look : look i τ = lookO τ[i]? τ := by
  unfold look lookO
  cases τ[i]? with
  | none => rfl
  | some s => cases s <;> rfl
theorem e_move : move i τ = moveO τ[i]? i τ := by
  unfold move moveO
  cases τ[i]? with
  | none => rfl
  | some s => cases s <;> rfl
theorem e_ownC : ownC τ i = ownO τ[i]? := by
  unfold ownC ownO
  cases τ[i]? with
  | none => rfl
  | some s => cases s <;> rfl
theorem e_putC : putC τ i d = putO τ[i]? τ i d := rfl
theorem e_op2 {o : D → D → Option D} : op2 o fa fb τ = bM (fa τ) fun x => andThen fb fun y => lift (o x y) := rfl
theorem e_op1 {o : D → Option D} : op1 o fa τ = bM (fa τ) fun x => lift (o x) := rfl
theorem e_tst : tst f τ = bM (f τ) fun d => lift (asB d) := rfl
theorem e_notM : notM t τ = bM (t τ) fun b => ret (!b) := rfl
theorem e_andM : PL.andM t u τ = bM (t τ) fun b => selM b u (ret false) := rfl
theorem e_orM : PL.orM t u τ = bM (t τ) fun b => selM b (ret true) u := rfl
theorem e_notE : notE f τ = bM (tst f τ) fun b => ret (.bl (!b)) := rfl
theorem e_andE : andE fa fb τ = bM (tst fa τ) fun b => selM b fb (ret (.bl false)) := rfl
theorem e_orE : orE fa fb τ = bM (tst fa τ) fun b => selM b (ret (.bl true)) fb := rfl
theorem e_iteE : iteE t fa fb τ = bM (t τ) fun b => selM b fa fb := rfl
theorem e_chn {o o' : D → D → Option D} : chn o o' fa fb fc τ = bM (fa τ) fun x => andThen fb fun y => andThen (lift ((o x y).bind asB)) fun k => selM k (andThen fc fun z => lift (o' y z)) (ret (.bl false)) := rfl
theorem e_argN : argN τ = .ok [] τ := rfl
theorem e_argC : argC f fs τ = bM (f τ) fun d => andThen fs fun ds => ret (d :: ds) := rfl
theorem e_tupE : tupE fs τ = bM (fs τ) fun ds => lift (if ds.length ≤ 16777216 then some (.tup ds) else none) := rfl
theorem e_lstE : lstE fs τ = bM (fs τ) fun ds => lift (if ds.length ≤ 16777216 then some (.lst ds) else none) := rfl
theorem e_noP : noP τ = .ok none τ := rfl
theorem e_partM : partM f τ = bM (f τ) fun d => lift ((asI d).map some) := rfl
theorem e_sl3 {o : D → Option Int → Option Int → Option D} {fl fh : MO} : sl3 o fa fl fh τ = bM (fa τ) fun x => andThen fl fun lo => andThen fh fun hi => lift (o x lo hi) := rfl
def asStr : D → Option D
  | .str s => some (.str s)
  | _ => none
theorem asStr_str {l : List Nat} : asStr (.str l) = some (.str l) := rfl
theorem e_strM {o : D → D → Option D} : strM fa fb o τ = bM (fa τ) fun x => andThen (lift (asStr x)) fun x => andThen fb fun y => lift (o x y) := by
  unfold strM andThen bM
  cases fa τ with
  | ok a τ' => cases a <;> rfl
  | exc n τ' => rfl
  | stuck => rfl
theorem e_callF {mf : List D → DR} : callF mf fs τ = bM (fs τ) fun ds => ofDR (mf ds) := by
  unfold callF andThen bM ofDR
  cases fs τ with
  | ok a τ' => rfl
  | exc n τ' => rfl
  | stuck => rfl
theorem e_callU {mf : List D → DR} : callU i mf fs τ = bM (fs τ) fun ds τ => bOM (ownC τ i) fun c => ofDU i (mf (c :: ds)) τ := by
  unfold callU andThen bM
  cases fs τ with
  | ok a τ' =>
    simp only []
    cases ownC τ' i with
    | none => rfl
    | some c =>
      simp only [bOM, ofDU]
      all_goals (cases mf (c :: a) <;> rfl)
  | exc n τ' => rfl
  | stuck => rfl
theorem e_useU {mf : List D → DR} : useU i mf fs τ = bOM (ownC τ i) fun _ => callU i mf fs τ := by
  unfold useU andThen
  cases e : ownC τ i <;> simp only [e] <;> rfl
theorem e_mutM {T : String} {o : OMt} : mutM T i fs o τ = bOM (ownC τ i) fun c => selM (tyOk T c) (fun τ => bM (fs τ) fun ds τ => bOM (ownC τ i) fun c => bOM (o c ds) fun p => .ok p.1 (putC τ i p.2)) (fun _ => .stuck) τ := by
  unfold mutM andThen
  cases e0 : ownC τ i with
  | none =>
    simp only [e0]
    rfl
  | some c =>
    simp only [e0, bOM, selM]
    cases tyOk T c with
    | false => rfl
    | true =>
      simp only [if_true, bM]
      cases fs τ with
      | ok ds τ1 =>
        simp only []
        cases e1 : ownC τ1 i with
        | none => rfl
        | some c1 =>
          simp only []
          cases o c1 ds <;> rfl
      | exc n τ1 => rfl
      | stuck => rfl
theorem e_skip : skip τ = .nx τ := rfl
theorem e_seqS : seqS x y τ = bS (x τ) y := by
  unfold seqS bS
  cases x τ <;> rfl
theorem e_ifS : ifS t x y τ = bR (t τ) fun b => selS b x y := by
  unfold ifS bR
  cases t τ with
  | ok b τ' => cases b <;> rfl
  | exc n τ' => rfl
  | stuck => rfl
theorem e_exprS : exprS f τ = bR (f τ) fun _ τ => .nx τ := by
  unfold exprS bR
  cases f τ <;> rfl
theorem e_retS : retS f τ = bR (f τ) fun d τ => .ret d τ := by
  unfold retS bR
  cases f τ <;> rfl
theorem e_setS : setS i f τ = bR (f τ) fun d τ => .nx (τ.set i (.im d)) := by
  unfold setS bR
  cases f τ <;> rfl
theorem e_ownS : ownS i f τ = bR (f τ) fun d τ => if i < τ.length then .nx (τ.set i (.ow d)) else .stuck := by
  unfold ownS bR
  cases f τ <;> rfl
theorem e_stIx {fv fi : M D} {o : OMt} : stIx i fv fi o τ = bR (fv τ) fun v τ => bO (ownC τ i) fun _ => bR (fi τ) fun j τ => bO (ownC τ i) fun c => bO (o c [j, v]) fun p => .nx (putC τ i p.2) := by
  unfold stIx bR
  cases fv τ with
  | ok v τ1 =>
    simp only [bO]
    cases ownC τ1 i with
    | none => rfl
    | some _ =>
      simp only []
      cases fi τ1 with
      | ok j τ2 =>
        simp only []
        cases ownC τ2 i with
        | none => rfl
        | some c =>
          simp only []
          cases o c [j, v] <;> rfl
      | exc n τ2 => rfl
      | stuck => rfl
  | exc n τ1 => rfl
  | stuck => rfl
theorem e_tgS {h : D → PS0 → Option PS0} : tgS h f τ = bR (f τ) fun d τ => bO (h d τ) fun τ => .nx τ := by
  unfold tgS bR
  cases f τ with
  | ok d τ1 =>
    simp only [bO]
    cases h d τ1 <;> rfl
  | exc n τ1 => rfl
  | stuck => rfl
theorem e_tgN : tgN i d τ = some (τ.set i (.im d)) := rfl
theorem e_tgT {hs : List D → PS0 → Option PS0} : tgT n hs (.tup ds) τ = if ds.length = n then hs ds τ else none := rfl
theorem e_tgCons {h : D → PS0 → Option PS0} {hs : List D → PS0 → Option PS0} : tgCons h hs (d :: ds) τ = (h d τ).bind (hs ds) := rfl
theorem e_tgNil : tgNil [] τ = some τ := rfl
def parK (i j : Nat) : List D → SM
  | [x, y] => fun τ1 => .nx ((τ1.set i (.im x)).set j (.im y))
  | _ => fun _ => .stuck
theorem parK_2 : parK i j [d, e] τ = .nx ((τ.set i (.im d)).set j (.im e)) := rfl
theorem e_parS : parS i j fs τ = bR (fs τ) (parK i j) := by
  unfold parS bR parK
  split <;> simp_all
theorem e_forS {h : D → PS0 → Option PS0} {body : SM} : forS fs h body τ = bR (fs τ) fun ds τ => forL h body ds τ := by
  unfold forS bR
  cases fs τ <;> rfl
theorem e_rng1M : rng1M f τ = bM (f τ) fun d => lift (oRange1 d) := rfl
theorem e_rng2M : rng2M fa fb τ = bM (fa τ) fun x => andThen fb fun y => lift (oRange2 x y) := rfl
theorem e_iterM : iterM f τ = bM (f τ) fun d => lift (oIter d) := rfl
theorem e_enumA : enumA f τ = bM (f τ) fun d => lift (oEnumA d) := rfl
theorem e_zipM : zipM fa fb τ = bM (fa τ) fun x => andThen fb fun y => lift (oZip x y) := rfl
theorem e_lcE {vs : List Nat} {h : D → PS0 → Option PS0} {t : M Bool} {el : M D} : lcE vs fs h t el τ = bM (fs τ) fun ds τ => if freeP τ vs = true then lcL vs h t el ds [] τ else .stuck := by
  unfold lcE bM
  cases fs τ <;> rfl
def freeO : Option Slot → Bool
  | some s => !s.isOwn
  | none => true
theorem freeO_no : freeO (some .no) = true := rfl
theorem freeO_im : freeO (some (.im d)) = true := rfl
theorem e_freeP1 : freeP τ [i] = freeO τ[i]? := by
  unfold freeP freeO
  rw [List.all_cons, List.all_nil, Bool.and_true]
  all_goals (cases τ[i]? <;> rfl)
theorem e_freeP2 : freeP τ [i, j] = (freeO τ[i]? && freeO τ[j]?) := by
  unfold freeP freeO
  rw [List.all_cons, List.all_cons, List.all_nil, Bool.and_true]
  all_goals (cases τ[i]? <;> cases τ[j]? <;> rfl)
theorem e_wipe1 : wipeP τ [i] = τ.set i .no := rfl
theorem e_wipe2 : wipeP τ [i, j] = (τ.set j .no).set i .no := rfl
def backO (o : Option Slot) (τb : PS0) (v : Nat) : PS0 := match o with
  | some s => τb.set v s
  | none => τb
theorem backO_s : backO (some s) τ i = τ.set i s := rfl
theorem e_back1 : backP τ τ' [i] = backO τ[i]? τ' i := by
  unfold backP backO
  cases τ[i]? <;> rfl
theorem e_back2 : backP τ τ' [i, j] = backO τ[i]? (backO τ[j]? τ' j) i := by
  unfold backP backO
  rw [show backP τ τ' [j] = backO τ[j]? τ' j from e_back1]
  unfold backO
  cases τ[i]? <;> cases τ[j]? <;> rfl
theorem o_iterL : oIter (.lst ds) = some ds := rfl
theorem o_iterF : oIter (.fz ds) = some ds := rfl
theorem o_iterT : oIter (.tup ds) = some ds := rfl
theorem o_iterM : oIter (.mt ds) = some ds := rfl
/-! ### what the operations tell -/
variable {a b : Int} {s z : List Nat} {xs ys : List D}
theorem o_subI : oSub (.int a) (.int b) = some (.int (a - b)) := rfl
theorem o_addI : oAdd (.int a) (.int b) = some (.int (a + b)) := rfl
theorem o_addS (h : s.length + z.length ≤ 16777216) : oAdd (.str s) (.str z) = some (.str (s ++ z)) := if_pos h
theorem o_divI (h : 0 < b) (h2 : b.natAbs.log2 < 9000) : oDiv (.int a) (.int b) = some (.int (a / b)) := if_pos (decide_eq_true ⟨h, h2⟩)
theorem o_modI (h : 0 < b) : oMod (.int a) (.int b) = some (.int (a % b)) := if_pos (decide_eq_true h)
theorem o_mulI (h : a.natAbs.log2 + b.natAbs.log2 < 1000000) : oMulA (.int a) (.int b) = some (.int (a * b)) := if_pos h
theorem o_eqI : oEq (.int a) (.int b) = some (.bl (decide (a = b))) := by
  show some (D.bl (a == b)) = _
  rw [show (a == b) = decide (a = b) from rfl]
theorem o_neI : oNe (.int a) (.int b) = some (.bl (!decide (a = b))) := by
  show some (D.bl (!(a == b))) = _
  rw [show (a == b) = decide (a = b) from rfl]
theorem o_eqS : oEq (.str s) (.str z) = some (.bl (decide (s = z))) := by
  show some (D.bl (s == z)) = _
  rw [show (s == z) = decide (s = z) by by_cases h : s = z <;> simp [h]]
theorem o_neS : oNe (.str s) (.str z) = some (.bl (!decide (s = z))) := by
  show some (D.bl (!(s == z))) = _
  rw [show (s == z) = decide (s = z) by by_cases h : s = z <;> simp [h]]
theorem o_ltI : oLt (.int a) (.int b) = some (.bl (decide (a < b))) := rfl
theorem o_leI : oLe (.int a) (.int b) = some (.bl (decide (a ≤ b))) := rfl
theorem o_gtI : oGt (.int a) (.int b) = some (.bl (decide (b < a))) := rfl
theorem o_geI : oGe (.int a) (.int b) = some (.bl (decide (b ≤ a))) := rfl
theorem o_maxI : oMax (.int a) (.int b) = some (.int (if b > a then b else a)) := rfl
theorem o_minI : oMin (.int a) (.int b) = some (.int (if b < a then b else a)) := rfl
theorem o_lenL : oLen (.lst xs) = some (.int xs.length) := rfl
theorem o_lenF : oLen (.fz xs) = some (.int xs.length) := rfl
theorem o_lenT : oLen (.tup xs) = some (.int xs.length) := rfl
theorem o_lenS (h : s.length ≤ 16777216) : oLen (.str s) = some (.int s.length) := if_pos h
theorem o_negI : oNeg (.int a) = some (.int (-a)) := rfl
theorem o_asB {k : Bool} : asB (.bl k) = some k := rfl
theorem atI_nat' {α : Type} {xs : List α} {i : Int} (h0 : 0 ≤ i) (h1 : i < xs.length) : atI xs i = xs[i.toNat]? := by
  unfold atI ixN
  rw [if_pos h0, if_pos h1]
  rfl
theorem o_ixL (h0 : 0 ≤ a) (h1 : a < xs.length) : oIx (.lst xs) (.int a) = xs[a.toNat]? := atI_nat' h0 h1
theorem o_ixF (h0 : 0 ≤ a) (h1 : a < xs.length) : oIx (.fz xs) (.int a) = xs[a.toNat]? := atI_nat' h0 h1
theorem o_ixT (h0 : 0 ≤ a) (h1 : a < xs.length) : oIx (.tup xs) (.int a) = xs[a.toNat]? := atI_nat' h0 h1
theorem o_ixS (hz : s.length ≤ 16777216) (h0 : 0 ≤ a) (h1 : a < s.length) : oIx (.str s) (.int a) = (s[a.toNat]?).map fun c => .str [c] := by
  show (if s.length ≤ 16777216 then (atI s a).map fun c => D.str [c] else none) = _
  rw [if_pos hz, atI_nat' h0 h1]
theorem o_append (h : xs.length < 16777216) : oAppend (.lst xs) [d] = some (.non, .lst (xs ++ [d])) := if_pos h
theorem o_rangeI (a : Int) (h0 : 0 ≤ a) (h : a < 2 ^ 62) : oRange1 (.int a) = some (rangeD 0 a.toNat) := by
  unfold oRange1
  exact if_pos ⟨Int.le_trans (by decide) h0, h⟩
theorem o_range (n : Nat) (h : n < 2 ^ 62) : oRange1 (.int n) = some (rangeD 0 n) := by
  have h2 : (n : Int) < 2 ^ 62 := by
    have : ((2 ^ 62 : Nat) : Int) = 2 ^ 62 := by decide
    rw [← this]
    exact Int.ofNat_lt.mpr h
  rw [o_rangeI _ (Int.natCast_nonneg n) h2, Int.toNat_natCast]
theorem o_setIx {k : Nat} (h : ixN xs.length a = some k) : oSetIx (.lst xs) [.int a, d] = some (.non, .lst (xs.set k d)) := by
  show (ixN xs.length a).map _ = _
  rw [h]
  rfl
theorem o_isiS : oIsi "str" (.str s) = some (.bl true) := rfl
theorem rangeD_get {lo : Int} {n i : Nat} (h : i < n) : (rangeD lo n)[i]? = some (.int (lo + i)) := by
  unfold rangeD
  rw [List.getElem?_map, List.getElem?_range h]
  rfl
theorem rangeD_len {lo : Int} {n : Nat} : (rangeD lo n).length = n := by
  unfold rangeD
  rw [List.length_map, List.length_range]
end
/-! ### loops -/
theorem for_run {h : D → PS0 → Option PS0} {body : SM} {R : SR → Prop} : ∀ {ds : List D} {τ : PS0} (I : Nat → PS0 → Prop), I 0 τ →
    (∀ i d τ, ds[i]? = some d → I i τ → ∃ τ1, h d τ = some τ1 ∧ ((∃ τ2, body τ1 = .nx τ2 ∧ I (i + 1) τ2) ∨ ((∀ τ2, body τ1 ≠ .nx τ2) ∧ R (body τ1)))) → (∀ τ, I ds.length τ → R (.nx τ)) → R (forL h body ds τ)
  | [], τ, I, h0, _, hf => hf τ h0
  | d :: ds, τ, I, h0, st, hf => by
    obtain ⟨τ1, e1, q⟩ := st 0 d τ rfl h0
    unfold forL
    rw [e1]
    simp only []
    rcases q with ⟨τ2, e2, q⟩ | ⟨n2, q⟩
    · rw [e2]
      exact for_run (ds := ds) (fun i => I (i + 1)) q (fun i d τ hd hI => st (i + 1) d τ hd hI) hf
    · cases e : body τ1 with
      | nx τ2 => exact absurd e (n2 τ2)
      | ret d τ2 => rw [e] at q; exact q
      | exc n τ2 => rw [e] at q; exact q
      | stuck => rw [e] at q; exact q
theorem for_list {h : D → PS0 → Option PS0} {body : SM} {ds : List D} {τ : PS0} (I : Nat → PS0 → Prop) (h0 : I 0 τ)
    (st : ∀ i d τ, ds[i]? = some d → I i τ → ∃ τ1 τ2, h d τ = some τ1 ∧ body τ1 = .nx τ2 ∧ I (i + 1) τ2) : ∃ τ', forL h body ds τ = .nx τ' ∧ I ds.length τ' :=
  for_run (R := fun r => ∃ τ', r = .nx τ' ∧ I ds.length τ') I h0 (fun i d τ hd hI => let ⟨τ1, τ2, e1, e2, q⟩ := st i d τ hd hI; ⟨τ1, e1, .inl ⟨τ2, e2, q⟩⟩) fun τ q => ⟨τ, rfl, q⟩
theorem for_range {h : D → PS0 → Option PS0} {body : SM} {lo : Int} {n : Nat} {τ : PS0} (I : Nat → PS0 → Prop) (h0 : I 0 τ)
    (st : ∀ i τ, i < n → I i τ → ∃ τ1 τ2, h (.int (lo + (i : Int))) τ = some τ1 ∧ body τ1 = .nx τ2 ∧ I (i + 1) τ2) : ∃ τ', forL h body (rangeD lo n) τ = .nx τ' ∧ I n τ' := by
  have := for_list (h := h) (body := body) (ds := rangeD lo n) I h0 fun i d τ hd hI => by
    have hi : i < n := by
      have := (List.getElem?_eq_some_iff.mp hd).1
      rwa [rangeD_len] at this
    rw [rangeD_get hi] at hd
    cases hd
    exact st i τ hi hI
  rwa [rangeD_len] at this
theorem lc_list {vs : List Nat} {h : D → PS0 → Option PS0} {t : M Bool} {el : M D} : ∀ {ds acc : List D} {τ : PS0} (I : Nat → List D → PS0 → Prop), I 0 acc τ → acc.length + ds.length ≤ 16777216 →
    (∀ i d acc τ, ds[i]? = some d → I i acc τ → ∃ τb τc, h d (wipeP τ vs) = some τb ∧ ((t τb = .ok false τc ∧ I (i + 1) acc (backP τ τc vs)) ∨ (t τb = .ok true τc ∧ ∃ y τd, el τc = .ok y τd ∧ I (i + 1) (acc ++ [y]) (backP τ τd vs)))) →
    ∃ ys τ', lcL vs h t el ds acc τ = .ok (.lst ys) τ' ∧ I ds.length ys τ'
  | [], acc, τ, I, h0, _, _ => ⟨acc, τ, rfl, h0⟩
  | d :: ds, acc, τ, I, h0, hz, st => by
    obtain ⟨τb, τc, e1, q⟩ := st 0 d acc τ rfl h0
    have hz' : acc.length + (ds.length + 1) ≤ 16777216 := hz
    unfold lcL
    rw [e1]
    simp only []
    rcases q with ⟨e2, q⟩ | ⟨e2, y, τd, e3, q⟩
    · rw [e2]
      simp only []
      exact lc_list (ds := ds) (fun i => I (i + 1)) q (by omega) fun i d acc τ hd hI => st (i + 1) d acc τ hd hI
    · rw [e2]
      simp only []
      rw [e3]
      simp only []
      rw [if_pos (show acc.length < 16777216 by omega)]
      exact lc_list (ds := ds) (fun i => I (i + 1)) q (by rw [List.length_append, List.length_singleton]; omega) fun i d acc τ hd hI => st (i + 1) d acc τ hd hI
theorem strsOf_str : ∀ ss : List (List Nat), strsOf (ss.map .str) = some ss
  | [] => rfl
  | s :: r => by
    show (strsOf (r.map .str)).map (s :: ·) = _
    rw [strsOf_str r]
    rfl
theorem joinD_nil : ∀ ss : List (List Nat), joinD [] ss = ss.flatten
  | [] => rfl
  | s :: r => by
    show r.foldl (fun acc q => acc ++ [] ++ q) s = s ++ r.flatten
    have : ∀ (r : List (List Nat)) (acc : List Nat), r.foldl (fun acc q => acc ++ [] ++ q) acc = acc ++ r.flatten := by
      intro r
      induction r with
      | nil => simp
      | cons q r ih => intro acc; simp only [List.foldl_cons, List.flatten_cons]; rw [ih]; simp
    exact this r s
theorem o_join {ss : List (List Nat)} (h : (ss.map List.length).sum ≤ 16777216) : oJoin (.str []) (.lst (ss.map .str)) = some (.str ss.flatten) := by
  unfold oJoin
  simp only []
  rw [strsOf_str]
  simp only [List.length_nil, Nat.mul_zero, Nat.add_zero]
  rw [if_pos h, joinD_nil]
theorem lc_mapL {α : Type} {vs : List Nat} {h : D → PS0 → Option PS0} {t : M Bool} {el : M D} {τ : PS0} {A : List α} (k g : α → D) (hz : A.length ≤ 16777216)
    (st : ∀ a, a ∈ A → ∃ τb τc τd, h (k a) (wipeP τ vs) = some τb ∧ t τb = .ok true τc ∧ el τc = .ok (g a) τd ∧ backP τ τd vs = τ) : lcL vs h t el (A.map k) [] τ = .ok (.lst (A.map g)) τ := by
  obtain ⟨ys, τ', e, e1, e2⟩ := lc_list (vs := vs) (h := h) (t := t) (el := el) (ds := A.map k) (acc := []) (τ := τ) (fun i acc τ' => τ' = τ ∧ acc = (A.take i).map g) ⟨rfl, by simp⟩ (by simpa using hz) fun i d acc τ' hd hI => by
    obtain ⟨rfl, rfl⟩ := hI
    rw [List.getElem?_map] at hd
    cases ha : A[i]? with
    | none => rw [ha] at hd; cases hd
    | some a =>
      rw [ha] at hd
      cases hd
      obtain ⟨τb, τc, τd, e1, e2, e3, e4⟩ := st a (List.mem_of_getElem? ha)
      refine ⟨τb, τc, e1, .inr ⟨e2, g a, τd, e3, e4, ?_⟩⟩
      rw [List.take_add_one, ha, List.map_append]
      rfl
  rw [e, e1, e2, List.length_map, List.take_length]
theorem lc_filtL {α : Type} {vs : List Nat} {h : D → PS0 → Option PS0} {t : M Bool} {el : M D} {τ : PS0} {A : List α} (k g : α → D) (p : α → Bool) (hz : A.length ≤ 16777216)
    (st : ∀ a, a ∈ A → ∃ τb τc, h (k a) (wipeP τ vs) = some τb ∧ t τb = .ok (p a) τc ∧ (p a = false → backP τ τc vs = τ) ∧ (p a = true → ∃ τd, el τc = .ok (g a) τd ∧ backP τ τd vs = τ)) : lcL vs h t el (A.map k) [] τ = .ok (.lst ((A.filter p).map g)) τ := by
  obtain ⟨ys, τ', e, e1, e2⟩ := lc_list (vs := vs) (h := h) (t := t) (el := el) (ds := A.map k) (acc := []) (τ := τ) (fun i acc τ' => τ' = τ ∧ acc = ((A.take i).filter p).map g) ⟨rfl, by simp⟩ (by simpa using hz) fun i d acc τ' hd hI => by
    obtain ⟨rfl, rfl⟩ := hI
    rw [List.getElem?_map] at hd
    cases ha : A[i]? with
    | none => rw [ha] at hd; cases hd
    | some a =>
      rw [ha] at hd
      cases hd
      obtain ⟨τb, τc, e1, e2, e3, e4⟩ := st a (List.mem_of_getElem? ha)
      refine ⟨τb, τc, e1, ?_⟩
      have et : A.take (i + 1) = A.take i ++ [a] := by
        rw [List.take_add_one, ha]
        rfl
      cases hp : p a with
      | false =>
        refine .inl ⟨by rw [e2, hp], e3 hp, ?_⟩
        rw [et, List.filter_append, List.map_append]
        simp [hp]
      | true =>
        obtain ⟨τd, e5, e6⟩ := e4 hp
        refine .inr ⟨by rw [e2, hp], g a, τd, e5, e6, ?_⟩
        rw [et, List.filter_append, List.map_append]
        simp [hp]
  rw [e, e1, e2, List.length_map, List.take_length]
theorem iterS_map {s : List Nat} : oIter (.str s) = some (s.map fun c => .str [c]) := rfl
theorem o_revS {s : List Nat} (h : s.length ≤ 16777216) : oRev (.str s) = some (.str s.reverse) := if_pos h
theorem o_revL {xs : List D} : oRev (.lst xs) = some (.lst xs.reverse) := rfl
theorem plA_str {n : Nat} : ∀ {A : List (List Nat)}, (∀ s, s ∈ A → ∀ c, c ∈ s → c < 1114112) → plA n (A.map .str) = true
  | [], _ => rfl
  | s :: A, h => by
    show (pl n (.str s) && plA n (A.map .str)) = true
    rw [plA_str fun z hz => h z (List.mem_cons_of_mem _ hz), Bool.and_true]
    unfold pl
    exact List.all_eq_true.mpr fun c hc => decide_eq_true (h s List.mem_cons_self c hc)
theorem eqDA_str : ∀ {A B : List (List Nat)}, eqDA (A.map .str) (B.map .str) = decide (A = B)
  | [], [] => rfl
  | [], _ :: _ => by simp [eqDA]
  | _ :: _, [] => by simp [eqDA]
  | s :: A, z :: B => by
    show (eqD (.str s) (.str z) && eqDA (A.map .str) (B.map .str)) = _
    rw [eqDA_str]
    unfold eqD
    by_cases h1 : s = z <;> by_cases h2 : A = B <;> simp [h1, h2]
def Cps (A : List (List Nat)) : Prop := ∀ s, s ∈ A → ∀ c, c ∈ s → c < 1114112
theorem Cps.nil : Cps [] := fun _ h => nomatch h
theorem plC_lst {A : List (List Nat)} (h : Cps A) : pl 60 (.lst (A.map .str)) = true := by
  unfold pl
  exact plA_str h
theorem o_eqL {A B : List (List Nat)} (h : Cps A) (k : Cps B) : oEq (.lst (A.map .str)) (.lst (B.map .str)) = some (.bl (decide (A = B))) := by
  unfold oEq
  rw [plC_lst h, plC_lst k]
  simp only [Bool.and_self, Bool.or_true, if_true]
  rw [show eqD (.lst (A.map .str)) (.lst (B.map .str)) = decide (A = B) by unfold eqD; exact eqDA_str]
theorem o_eqNil {A : List (List Nat)} (h : Cps A) : oEq (.lst (A.map .str)) (.lst []) = some (.bl (decide (A = []))) := o_eqL (B := []) h Cps.nil
theorem le_one {a b : Nat} : oLe (.str [a]) (.str [b]) = some (.bl (decide (a ≤ b))) := by
  show some (D.bl (!decide ([b] < [a]))) = _
  have : ([b] < [a]) ↔ b < a := by
    constructor
    · intro h
      cases h with
      | rel h => exact h
      | cons h => cases h
    · intro h
      exact .rel h
  congr 2
  by_cases h : a ≤ b
  · rw [decide_eq_false (fun z => by have := this.mp z; omega), decide_eq_true h]; rfl
  · rw [decide_eq_true (this.mpr (by omega)), decide_eq_false h]; rfl
/-! ### errors -/
section
variable {τ : PS0} {i : Nat} {d : D} {nm : Str} {fb fs : SM} {cl : Str → Option Bool}
def sK (i : Nat) : SR → SR
  | .nx τ => .nx (τ.set i .no)
  | .ret d τ => .ret d τ
  | _ => .stuck
theorem sK_nx : sK i (.nx τ) = .nx (τ.set i .no) := rfl
theorem sK_ret : sK i (.ret d τ) = .ret d τ := rfl
def tK (i : Nat) (cl : Str → Option Bool) (fs : SM) : SR → SR
  | .exc n τ1 => (match cl n with
    | some true => sK i (fs (τ1.set i (.im (.exc n))))
    | some false => .exc n τ1
    | none => .stuck)
  | r => r
theorem tK_nx : tK i cl fs (.nx τ) = .nx τ := rfl
theorem tK_ret : tK i cl fs (.ret d τ) = .ret d τ := rfl
theorem e_tryS : tryS i cl fb fs τ = tK i cl fs (fb τ) := by
  unfold tryS
  cases fb τ with
  | exc n τ1 =>
    unfold tK
    simp only []
    cases cl n with
    | none => rfl
    | some b =>
      cases b with
      | false => rfl
      | true =>
        simp only []
        cases fs (τ1.set i (.im (.exc n))) <;> rfl
  | nx τ1 => rfl
  | ret d τ1 => rfl
  | stuck => rfl
theorem e_raiseS : raiseS nm τ = .exc nm τ := rfl
theorem o_isE {f : Str → Option Bool} : oIsE f (.exc nm) = (f nm).map .bl := rfl
theorem o_isEN {f : Str → Option Bool} : oIsE f .non = some (.bl false) := rfl
theorem o_notNN : oNotN .non .non = some (.bl false) := rfl
theorem o_notNE : oNotN (.exc nm) .non = some (.bl true) := rfl
theorem o_isNN : oIsN .non .non = some (.bl true) := rfl
theorem o_isNE : oIsN (.exc nm) .non = some (.bl false) := rfl
end
/-! ### dicts -/
theorem e_prN {τ : PS0} : prN τ = .ok [] τ := rfl
theorem e_prC {fk fv : M D} {f : M (List (D × D))} {τ : PS0} : prC fk fv f τ = bM (fk τ) fun k => andThen fv fun v => andThen f fun ps => ret ((k, v) :: ps) := rfl
theorem e_dispE {f : M (List (D × D))} {τ : PS0} : dispE f τ = bM (f τ) fun ps => lift (oDisp ps) := rfl
theorem o_addL {xs ys : List D} (h : xs.length + ys.length ≤ 16777216) : oAdd (.lst xs) (.lst ys) = some (.lst (xs ++ ys)) := if_pos h
theorem e_zipA {fa fb : M D} {τ : PS0} : zipA fa fb τ = bM (fa τ) fun x => andThen fb fun y => lift (oZipA x y) := rfl
theorem o_zipSS {x y : List Nat} : oZipA (.str x) (.str y) = some (zipD (chars x) (chars y)) := rfl
theorem o_zipSL {x : List Nat} {ys : List D} : oZipA (.str x) (.lst ys) = some (zipD (chars x) ys) := rfl
theorem o_zipLL {xs ys : List D} : oZipA (.lst xs) (.lst ys) = some (zipD xs ys) := rfl
theorem o_asI {a : Int} : asI (.int a) = some a := rfl
def ofDL (r : DR) : M D := fun τ => match r with
  | .ret d _ => if flD d = true then .ok d τ else .stuck
  | .exc n _ => .exc n τ
  | .stuck => .stuck
theorem ofDL_bl {b : Bool} {o : D} {τ : PS0} : ofDL (.ret (.bl b) o) τ = .ok (.bl b) τ := rfl
theorem ofDL_int {i : Int} {o : D} {τ : PS0} : ofDL (.ret (.int i) o) τ = .ok (.int i) τ := rfl
theorem ofDL_str {s : List Nat} {o : D} {τ : PS0} : ofDL (.ret (.str s) o) τ = .ok (.str s) τ := rfl
theorem ofDL_non {o : D} {τ : PS0} : ofDL (.ret .non o) τ = .ok .non τ := rfl
theorem ofDL_exc {n : Str} {o : D} {τ : PS0} : ofDL (.exc n o) τ = .exc n τ := rfl
theorem e_callL {mf : List D → DR} {fs : M (List D)} {τ : PS0} : callL mf fs τ = bM (fs τ) fun ds => ofDL (mf ds) := by
  unfold callL andThen bM ofDL
  cases fs τ with
  | ok a τ' => rfl
  | exc n τ' => rfl
  | stuck => rfl
end PL

/-! PM1: loops and comprehensions as equations whose state is found by unification. -/
namespace PL
open PySem PySem.Spec PyProof.Rows L2
section
variable {α β : Type} {τ τ' : PS0} {i j n : Nat} {d e : D} {ds : List D} {h : D → PS0 → Option PS0} {body f : SM} {vs : List Nat} {t : M Bool} {el : M D} {nm : Str} {A : List α} {k : α → D}
def kK (vs : List Nat) : SR → SR
  | .nx τ' => .nx (wipeP τ' vs)
  | r => r
theorem kK_nx : kK vs (.nx τ) = .nx (wipeP τ vs) := rfl
theorem kK_ret : kK vs (.ret d τ) = .ret d τ := rfl
theorem kK_exc : kK vs (.exc nm τ) = .exc nm τ := rfl
theorem e_killS : killS vs f τ = kK vs (f τ) := by
  unfold killS kK
  cases f τ <;> rfl
def kiY (vs : List Nat) (y : SM) : SM := fun τ => y (wipeP τ vs)
theorem e_kiY {y : SM} : kiY vs y τ = y (wipeP τ vs) := rfl
theorem e_bSkK {r : SR} {y : SM} : bS (kK vs r) y = bS r (kiY vs y) := by cases r <;> rfl
theorem e_wipeC {v : Nat} : wipeP τ (v :: vs) = (wipeP τ vs).set v .no := rfl
theorem e_wipeN : wipeP τ [] = τ := rfl
theorem e_backN {τb : PS0} : backP τ τb [] = τb := rfl
theorem e_backC {τb : PS0} {v : Nat} : backP τ τb (v :: vs) = backO τ[v]? (backP τ τb vs) v := by
  unfold backO
  show (match τ[v]? with | some s => (backP τ τb vs).set v s | none => backP τ τb vs) = _
  cases τ[v]? <;> rfl
/-- one turn of a loop -/
def stp (h : D → PS0 → Option PS0) (body : SM) (τ : PS0) (d : D) : SR := bO (h d τ) body
theorem e_stp : stp h body τ d = bO (h d τ) body := rfl
theorem forL_cons : forL h body (d :: ds) τ = bS (stp h body τ d) (forL h body ds) := by
  unfold stp
  show (match h d τ with | some τ1 => (match body τ1 with | .nx τ2 => forL h body ds τ2 | r => r) | none => .stuck) = _
  cases h d τ with
  | none => rfl
  | some τ1 =>
    show (match body τ1 with | .nx τ2 => forL h body ds τ2 | r => r) = bS (body τ1) _
    cases body τ1 <;> rfl
theorem for_sameD : ∀ {ds : List D}, (∀ d, d ∈ ds → stp h body τ d = .nx τ) → forL h body ds τ = .nx τ
  | [], _ => rfl
  | d :: ds, st => by
    rw [forL_cons, st d List.mem_cons_self]
    exact for_sameD fun d hd => st d (List.mem_cons_of_mem _ hd)
theorem for_same (st : ∀ a, a ∈ A → stp h body τ (k a) = .nx τ) : forL h body (A.map k) τ = .nx τ := for_sameD fun d hd => by
  obtain ⟨a, ha, rfl⟩ := List.mem_map.mp hd
  exact st a ha
theorem for_sameR {lo : Int} (st : ∀ i : Nat, i < n → stp h body τ (.int (lo + (i : Int))) = .nx τ) : forL h body (rangeD lo n) τ = .nx τ := for_same fun a ha => st a (List.mem_range.mp ha)
/-- what is not told by an equation: a relation of one slot, of two -/
theorem for_relD : ∀ {ds : List D} {s : Slot} (i : Nat) (I : Nat → Slot → Prop), I 0 s → (∀ n d s, ds[n]? = some d → I n s → ∃ s', stp h body (τ.set i s) d = .nx (τ.set i s') ∧ I (n + 1) s') → ∃ s', forL h body ds (τ.set i s) = .nx (τ.set i s') ∧ I ds.length s'
  | [], s, i, I, h0, _ => ⟨s, rfl, h0⟩
  | d :: ds, s, i, I, h0, step => by
    obtain ⟨s', e, h1⟩ := step 0 d s rfl h0
    rw [forL_cons, e]
    exact for_relD (ds := ds) i (fun n => I (n + 1)) h1 fun n d s hd hI => step (n + 1) d s hd hI
/-! ### comprehensions -/
def joinC (b : Bool) (x y : Res (Option D)) : Res (Option D) := if b = true then x else y
theorem joinC_t {x y : Res (Option D)} : joinC true x y = x := rfl
theorem joinC_f {x y : Res (Option D)} : joinC false x y = y := rfl
theorem joinC_ok {b : Bool} {u v : Option D} : joinC b (.ok u τ) (.ok v τ) = .ok (if b = true then u else v) τ := by cases b <;> rfl
def lcs (vs : List Nat) (h : D → PS0 → Option PS0) (t : M Bool) (el : M D) (τ : PS0) (d : D) : Res (Option D) :=
  bOM (h d (wipeP τ vs)) fun τb => bM (t τb) fun b τ1 => joinC b (bM (el τ1) fun y τd => .ok (some y) (backP τ τd vs)) (.ok none (backP τ τ1 vs))
theorem e_lcs : lcs vs h t el τ d = bOM (h d (wipeP τ vs)) fun τb => bM (t τb) fun b τ1 => joinC b (bM (el τ1) fun y τd => .ok (some y) (backP τ τd vs)) (.ok none (backP τ τ1 vs)) := rfl
theorem lcs_some {y : D} (e : lcs vs h t el τ d = .ok (some y) τ') : ∃ τb τc τd, h d (wipeP τ vs) = some τb ∧ t τb = .ok true τc ∧ el τc = .ok y τd ∧ backP τ τd vs = τ' := by
  unfold lcs at e
  cases eh : h d (wipeP τ vs) with
  | none => rw [eh] at e; cases e
  | some τb =>
    rw [eh, bOM_some] at e
    cases et : t τb with
    | stuck => rw [et] at e; cases e
    | exc n τ1 => rw [et] at e; cases e
    | ok b τ1 =>
      rw [et, bM_ok] at e
      cases b with
      | false => rw [joinC_f] at e; cases e
      | true =>
        rw [joinC_t] at e
        cases ee : el τ1 with
        | stuck => rw [ee] at e; cases e
        | exc n τ2 => rw [ee] at e; cases e
        | ok z τd => rw [ee] at e; cases e; exact ⟨τb, τ1, τd, rfl, et, ee, rfl⟩
theorem lcs_none (e : lcs vs h t el τ d = .ok none τ') : ∃ τb τc, h d (wipeP τ vs) = some τb ∧ t τb = .ok false τc ∧ backP τ τc vs = τ' := by
  unfold lcs at e
  cases eh : h d (wipeP τ vs) with
  | none => rw [eh] at e; cases e
  | some τb =>
    rw [eh, bOM_some] at e
    cases et : t τb with
    | stuck => rw [et] at e; cases e
    | exc n τ1 => rw [et] at e; cases e
    | ok b τ1 =>
      rw [et, bM_ok] at e
      cases b with
      | false => rw [joinC_f] at e; cases e; exact ⟨τb, τ1, rfl, et, rfl⟩
      | true =>
        rw [joinC_t] at e
        cases ee : el τ1 with
        | stuck => rw [ee] at e; cases e
        | exc n τ2 => rw [ee] at e; cases e
        | ok z τd => rw [ee] at e; cases e
theorem lc_filt (p : α → Bool) (g : α → D) (hz : A.length ≤ 16777216) (st : ∀ a, a ∈ A → lcs vs h t el τ (k a) = .ok (if p a = true then some (g a) else none) τ) : lcL vs h t el (A.map k) [] τ = .ok (.lst ((A.filter p).map g)) τ :=
  lc_filtL k g p hz fun a ha => by
    have e := st a ha
    cases hp : p a with
    | true =>
      rw [hp] at e
      obtain ⟨τb, τc, τd, e1, e2, e3, e4⟩ := lcs_some e
      exact ⟨τb, τc, e1, e2, fun z => (nomatch z), fun _ => ⟨τd, e3, e4⟩⟩
    | false =>
      rw [hp] at e
      obtain ⟨τb, τc, e1, e2, e3⟩ := lcs_none e
      exact ⟨τb, τc, e1, e2, fun _ => e3, fun z => (nomatch z)⟩
theorem lc_mp (g : α → D) (hz : A.length ≤ 16777216) (st : ∀ a, a ∈ A → lcs vs h t el τ (k a) = .ok (some (g a)) τ) : lcL vs h t el (A.map k) [] τ = .ok (.lst (A.map g)) τ :=
  lc_mapL k g hz fun a ha => by
    obtain ⟨τb, τc, τd, e1, e2, e3, e4⟩ := lcs_some (st a ha)
    exact ⟨τb, τc, τd, e1, e2, e3, e4⟩
/-! ### equality -/
mutual
theorem eqD_refl : ∀ (n : Nat) (d : D), pl n d = true → eqD d d = true
  | n, .non, _ => rfl
  | n, .bl b, _ => by unfold eqD; exact beq_self_eq_true b
  | n, .int i, _ => by unfold eqD; exact beq_self_eq_true i
  | n, .str x, _ => by unfold eqD; exact beq_self_eq_true x
  | 0, .lst xs, h => by unfold pl at h; cases h
  | n + 1, .lst xs, h => by
    unfold pl at h
    unfold eqD
    exact eqDA_refl n xs h
  | 0, .tup xs, h => by unfold pl at h; cases h
  | n + 1, .tup xs, h => by
    unfold pl at h
    unfold eqD
    exact eqDA_refl n xs h
  | n, .dK _, h => by unfold pl at h; cases h
  | n, .dT _, h => by unfold pl at h; cases h
  | n, .exc _, h => by unfold pl at h; cases h
  | n, .fz _, h => by unfold pl at h; cases h
  | n, .mt _, h => by unfold pl at h; cases h
  | n, .fk _, h => by unfold pl at h; cases h
  | n, .ft _, h => by unfold pl at h; cases h
  | n, .nw _, h => by unfold pl at h; cases h
  | n, .nx _, h => by unfold pl at h; cases h
  | n, .ob _ _, h => by unfold pl at h; cases h
  | n, .ex _ _, h => by unfold pl at h; cases h
theorem eqDA_refl : ∀ (n : Nat) (xs : List D), plA n xs = true → eqDA xs xs = true
  | n, [], _ => rfl
  | n, x :: xs, h => by
    unfold plA at h
    rw [Bool.and_eq_true] at h
    unfold eqDA
    rw [eqD_refl n x h.1, eqDA_refl n xs h.2]
    rfl
end
theorem ne_self (h : pl 60 d = true) : oNe d d = some (.bl false) := by
  unfold oNe
  rw [h, eqD_refl 60 d h]
  simp
theorem zadd : (0 : Int) + (n : Int) = n := Int.zero_add _
end
end PL

/-! PM2: more equations for reckoning. -/
namespace PL
open PySem PySem.Spec PyProof.Rows L2
section
variable {τ : PS0} {i n : Nat} {d e : D} {f fa fb fc : M D} {a b : Int} {xs ys : List D} {s : List Nat}
def augO (i : Nat) (o : Option Slot) (f : M D) (τ : PS0) : SR := match o with
  | some (.im (.int a)) => bR (f τ) fun d τ1 => bO (asI d) fun b => .nx (τ1.set i (.im (.int (a + b))))
  | _ => .stuck
theorem e_augI : augI i f τ = augO i τ[i]? f τ := by
  unfold augI augO
  cases τ[i]? with
  | none => rfl
  | some s =>
    cases s with
    | im d =>
      cases d with
      | int a =>
        simp only [bR]
        cases f τ with
        | ok d τ1 => cases d <;> rfl
        | exc n τ1 => rfl
        | stuck => rfl
      | _ => rfl
    | _ => rfl
theorem augO_int : augO i (some (.im (.int a))) f τ = bR (f τ) fun d τ1 => bO (asI d) fun b => .nx (τ1.set i (.im (.int (a + b)))) := rfl
theorem e_getE : getE fa fb fc τ = bM (fa τ) fun x => andThen (lift (asD x)) fun es => andThen fb fun y => andThen (lift (keyD y)) fun kk => andThen fc fun z => ret ((getD' es kk).getD z) := rfl
theorem e_dixE : dixE fa fb τ = bM (fa τ) fun x => andThen fb fun y => andThen (lift (asD x)) fun es => andThen (lift (keyD y)) fun kk => lift (getD' es kk) := rfl
theorem asD_k {es : List (Key × D)} : asD (.dK es) = some es := rfl
theorem keyD_s : keyD (.str s) = some (.inr (S s)) := rfl
theorem keyD_i : keyD (.int a) = some (.inl a) := rfl
theorem o_setD {es : List (Key × D)} {k : Key} (h : es.length < 16777216) (hk : keyD e = some k) : oSetD (.dK es) [e, d] = some (.non, .dK (putD es k d)) := by
  show (if es.length < 16777216 then (keyD e).map _ else none) = _
  rw [if_pos h, hk]
  rfl
theorem ix0 {x : D} {xs : List D} : oIx (.lst (x :: xs)) (.int 0) = some x := o_ixL (by decide) (by simp only [List.length_cons]; omega)
theorem ix1 {x y : D} {xs : List D} : oIx (.lst (x :: y :: xs)) (.int 1) = some y := o_ixL (by decide) (by simp only [List.length_cons]; omega)
theorem ix2 {x y z : D} {xs : List D} : oIx (.lst (x :: y :: z :: xs)) (.int 2) = some z := o_ixL (by decide) (by simp only [List.length_cons]; omega)
theorem tx0 {x : D} {xs : List D} : oIx (.tup (x :: xs)) (.int 0) = some x := o_ixT (by decide) (by simp only [List.length_cons]; omega)
theorem tx1 {x y : D} {xs : List D} : oIx (.tup (x :: y :: xs)) (.int 1) = some y := o_ixT (by decide) (by simp only [List.length_cons]; omega)
theorem tx2 {x y z : D} {xs : List D} : oIx (.tup (x :: y :: z :: xs)) (.int 2) = some z := o_ixT (by decide) (by simp only [List.length_cons]; omega)
theorem set0 {x y : D} {xs : List D} : oSetIx (.lst (x :: xs)) [.int 0, y] = some (.non, .lst (y :: xs)) := o_setIx (k := 0) (by unfold L2.ixN; rw [if_pos (by decide), if_pos (by simp only [List.length_cons]; omega)]; rfl)
theorem set2 {x y z u : D} {xs : List D} : oSetIx (.lst (x :: y :: z :: xs)) [.int 2, u] = some (.non, .lst (x :: y :: u :: xs)) := o_setIx (k := 2) (by unfold L2.ixN; rw [if_pos (by decide), if_pos (by simp only [List.length_cons]; omega)]; rfl)
theorem o_intB {k : Bool} : oInt (.bl k) = some (.int (if k = true then 1 else 0)) := rfl
theorem isi_lst : oIsi "list" (.lst xs) = some (.bl true) := rfl
theorem isi_tup : oIsi "tuple" (.tup xs) = some (.bl true) := rfl
theorem isi_bi : oIsi "bool" (.int a) = some (.bl false) := rfl
theorem isi_bb {k : Bool} : oIsi "bool" (.bl k) = some (.bl true) := rfl
theorem isi_ii : oIsi "int" (.int a) = some (.bl true) := rfl
theorem isi_ss : oIsi "str" (.str s) = some (.bl true) := rfl
theorem o_listL : oListA (.lst xs) = some (.lst xs) := rfl
theorem o_iterS' : oIter (.str s) = some (s.map fun c => .str [c]) := rfl
theorem o_enumL' : oEnumA (.lst xs) = some (enumD 0 xs) := rfl
theorem o_enumS' : oEnumA (.str s) = some (enumD 0 (s.map fun c => .str [c])) := rfl
theorem one_eq {x y : Nat} : ([x] = [y]) = (x = y) := by simp
theorem s_eq {x y : Nat} : oEq (.str [x]) (.str [y]) = some (.bl (decide (x = y))) := by
  rw [o_eqS]
  simp
theorem e_strX : strX f τ = bM (f τ) fun d => lift (match d with | .str s => some (.str s) | _ => none) := rfl
theorem e_rng3A {fs : M (List D)} : rng3A fs τ = bM (fs τ) fun ds => lift (oRange3 ds) := rfl
theorem e_freeP3 {i j k : Nat} : freeP τ [i, j, k] = (freeO τ[i]? && (freeO τ[j]? && freeO τ[k]?)) := by
  unfold freeP freeO
  rw [List.all_cons, List.all_cons, List.all_cons, List.all_nil, Bool.and_true]
  all_goals (cases τ[i]? <;> cases τ[j]? <;> cases τ[k]? <;> rfl)
def kF (i : Nat) : SR → SR
  | .nx τ' => bO (frzO i τ') fun τ2 => .nx τ2
  | r => r
theorem e_frzS {f : SM} : frzS i f τ = kF i (f τ) := by
  unfold frzS kF bO
  cases f τ with
  | nx τ' =>
    simp only []
    generalize frzO i τ' = o
    cases o <;> rfl
  | _ => rfl
theorem kF_nx : kF i (.nx τ) = bO (frzO i τ) fun τ2 => .nx τ2 := rfl
def fO (i : Nat) (τ : PS0) : Option Slot → Option PS0
  | some (.ow d) => some (τ.set i (.im d))
  | _ => none
theorem e_frzO : frzO i τ = fO i τ τ[i]? := by
  unfold frzO fO
  cases τ[i]? with
  | none => rfl
  | some s => cases s <;> rfl
theorem fO_ow : fO i τ (some (.ow d)) = some (τ.set i (.im d)) := rfl
end
/-! ### locked dicts -/
section
variable {i : Nat} {τ : PS0} {r : SR} {es : List (Key × D)} {ts : List (List Key × D)} {f fa fb fc : M D} {d : D}
def kL (i : Nat) (r : SR) : SR := match r with
  | .nx τ' => bO (lckO i τ') fun τ2 => .nx τ2
  | r => r
theorem e_lckS {f : SM} : lckS i f τ = kL i (f τ) := by
  unfold lckS kL bO
  cases f τ with
  | nx τ' =>
    simp only []
    generalize lckO i τ' = o
    cases o <;> rfl
  | _ => rfl
theorem kL_nx : kL i (.nx τ) = bO (lckO i τ) fun τ2 => .nx τ2 := rfl
def lO (i : Nat) (τ : PS0) : Option Slot → Option PS0
  | some (.ow d) => (lckD d).map fun e => τ.set i (.im e)
  | _ => none
theorem e_lckO : lckO i τ = lO i τ τ[i]? := by
  unfold lckO lO
  cases τ[i]? with
  | none => rfl
  | some s => cases s <;> rfl
theorem lO_k : lO i τ (some (.ow (.dK es))) = some (τ.set i (.im (.fk es))) := rfl
theorem lO_t : lO i τ (some (.ow (.dT ts))) = some (τ.set i (.im (.ft ts))) := rfl
theorem e_iterK : iterK f τ = bM (f τ) fun d => lift (oIterK d) := rfl
theorem o_iterKk : oIterK (.fk es) = some (es.map fun kv => keyO kv.1) := rfl
theorem o_iterKt : oIterK (.ft ts) = some (ts.map fun kv => .tup (kv.1.map keyO)) := rfl
theorem e_getA : getA fa fb fc τ = bM (fa τ) fun x => andThen (lift (isDct x)) fun _ => andThen fb fun y => andThen fc fun z => lift ((oGetA x y).map fun r => r.getD z) := rfl
theorem e_dixA : dixA fa fb τ = bM (fa τ) fun x => andThen fb fun y => lift ((oGetA x y).bind id) := rfl
theorem e_iterL : iterL f τ = bM (f τ) fun d => lift (oIterL d) := rfl
theorem isDct_k : isDct (.dK es) = some () := rfl
theorem isDct_t : isDct (.dT ts) = some () := rfl
theorem isDct_fk : isDct (.fk es) = some () := rfl
theorem isDct_ft : isDct (.ft ts) = some () := rfl
theorem oGetA_k : oGetA (.dK es) d = (keyD d).map (getD' es) := rfl
theorem oGetA_fk : oGetA (.fk es) d = (keyD d).map (getD' es) := rfl
theorem oGetA_t : oGetA (.dT ts) d = (keyT d).map (getT ts) := rfl
theorem oGetA_ft : oGetA (.ft ts) d = (keyT d).map (getT ts) := rfl
end
/-! ### tests over what one owns -/
section
variable {τ τ' : PS0} {t : M Bool} {b : Bool} {s : Slot} {d : D} {xs : List D} {n : Int}
def lookR (τ : PS0) : Res Bool → Res Bool
  | .ok b _ => .ok b τ
  | _ => .stuck
theorem e_lookT : lookT t τ = lookR τ (t (frzAll τ)) := by
  unfold lookT lookR
  cases t (frzAll τ) <;> rfl
theorem lookR_ok : lookR τ (.ok b τ') = .ok b τ := rfl
def lookER (τ : PS0) : Res D → Res D
  | .ok d _ => if lstT d = true then .ok d τ else .stuck
  | _ => .stuck
theorem e_lookE {f : M D} : lookE f τ = lookER τ (f (frzAll τ)) := by
  unfold lookE lookER
  cases f (frzAll τ) <;> rfl
theorem frzA_c : frzAll (s :: τ) = s.frz :: frzAll τ := rfl
theorem frzA_n : frzAll [] = [] := rfl
theorem frz_im' : Slot.frz (.im d) = .im d := rfl
theorem frz_ow' : Slot.frz (.ow d) = .im d := rfl
theorem frz_mu' : Slot.frz (.mu d) = .im d := rfl
theorem frz_no' : Slot.frz .no = .no := rfl
end
/-! ### boxes -/
section
variable {τ τ' : PS0} {i j n : Nat} {d e c : D} {ds xs : List D} {f : M D} {fs : M (List D)} {T : String} {o : OMt} {b : Bool} {nm : Str} {body : SM}
def endN (r : SR) : DR := match r with
  | .nx _ => .ret .non .non
  | .ret d _ => .ret d .non
  | .exc n _ => .exc n .non
  | .stuck => .stuck
theorem e_runN : runN n body ds = endN (body (ds.map .im ++ List.replicate (n - ds.length) .no)) := by
  unfold runN endN
  cases body (ds.map .im ++ List.replicate (n - ds.length) .no) <;> rfl
theorem endN_nx : endN (.nx τ) = .ret .non .non := rfl
theorem endN_ret : endN (.ret d τ) = .ret d .non := rfl
theorem endN_exc : endN (.exc nm τ) = .exc nm .non := rfl
theorem e_bxS : bxS i f τ = bR (f τ) fun d τ => if i < τ.length then .nx (τ.set i (.bx d)) else .stuck := by
  unfold bxS bR
  cases f τ <;> rfl
theorem e_nwM : nwM f τ = bM (f τ) fun d => ret (.nw d) := rfl
theorem e_nxM : nxM f τ = bM (f τ) fun d => ret (.nx d) := rfl
theorem e_fixM : fixM f τ = bM (f τ) fun d => lift (if d.okB = true then some d.fix else none) := rfl
theorem e_tupN : tupN fs τ = bM (fs τ) fun ds => lift (if ds.length ≤ 16777216 then some (.nx (.tup ds)) else none) := rfl
def moveBO (i : Nat) (τ : PS0) : Option Slot → Res D
  | some (.bx d) => .ok d (τ.set i .no)
  | _ => .stuck
theorem e_moveB : moveB i τ = moveBO i τ τ[i]? := by
  unfold moveB moveBO
  cases τ[i]? with
  | none => rfl
  | some s => cases s <;> rfl
theorem moveBO_bx : moveBO i τ (some (.bx d)) = .ok d (τ.set i .no) := rfl
def frzB (b : Bool) (d : D) : Slot := if b = true then .im d else .no
theorem frz_bx' : Slot.frz (.bx d) = frzB d.okB d.fix := rfl
theorem frz_mb' : Slot.frz (.mb d) = frzB d.okB d.fix := rfl
theorem frzB_t : frzB true d = .im d := rfl
theorem okB_nw : D.okB (.nw d) = true := rfl
theorem okB_int {i : Int} : D.okB (.int i) = true := rfl
theorem okB_str {s : List Nat} : D.okB (.str s) = true := rfl
theorem okB_lst : D.okB (.lst xs) = true := rfl
theorem okB_tup : D.okB (.tup xs) = true := rfl
theorem okB_non : D.okB .non = true := rfl
theorem okB_bl : D.okB (.bl b) = true := rfl
theorem okB_nxt : D.okB (.nx (.tup ds)) = okA ds := rfl
theorem okB_nxl : D.okB (.nx (.lst ds)) = okA ds := rfl
theorem okA_c : okA (d :: ds) = (d.okB && okA ds) := rfl
theorem okA_n : okA [] = true := rfl
theorem fix_nw : D.fix (.nw d) = d := rfl
theorem fix_int {i : Int} : D.fix (.int i) = .int i := rfl
theorem fix_str {s : List Nat} : D.fix (.str s) = .str s := rfl
theorem fix_lst : D.fix (.lst xs) = .lst xs := rfl
theorem fix_tup : D.fix (.tup xs) = .tup xs := rfl
theorem fix_non : D.fix .non = .non := rfl
theorem fix_bl : D.fix (.bl b) = .bl b := rfl
theorem fix_nxt : D.fix (.nx (.tup ds)) = .tup (fixA ds) := rfl
theorem fix_nxl : D.fix (.nx (.lst ds)) = .lst (fixA ds) := rfl
theorem fixA_c : fixA (d :: ds) = d.fix :: fixA ds := rfl
theorem fixA_n : fixA [] = [] := rfl
def bxTD (ds : List D) : Option D → Option (List D × D)
  | some (.nw c) => some (ds, c)
  | _ => none
def bxTO (j : Nat) : Option Slot → Option (List D × D)
  | some (.bx (.nx (.tup ds))) => bxTD ds ds[j]?
  | _ => none
theorem e_bxT : bxT τ i j = bxTO j τ[i]? := by
  unfold bxT
  cases τ[i]? with
  | none => rfl
  | some s =>
    cases s with
    | bx d =>
      cases d with
      | nx e =>
        cases e with
        | tup ds =>
          show (match ds[j]? with | some (.nw c) => some (ds, c) | _ => none) = bxTD ds ds[j]?
          cases ds[j]? with
          | none => rfl
          | some d => cases d <;> rfl
        | _ => rfl
      | _ => rfl
    | _ => rfl
theorem bxTO_bx : bxTO j (some (.bx (.nx (.tup ds)))) = bxTD ds ds[j]? := rfl
theorem bxTD_nw : bxTD ds (some (.nw c)) = some (ds, c) := rfl
theorem e_bxAtT : bxAtT T i j fs o τ = bO (bxT τ i j) fun p => selS (tyOk T p.2) (fun τ => bR (fs τ) fun xs τ1 => bO (bxT τ1 i j) fun q => bO (o q.2 xs) fun r => .nx (τ1.set i (.bx (.nx (.tup (q.1.set j (.nw r.2))))))) (fun _ => .stuck) τ := by
  unfold bxAtT bO selS bR
  cases bxT τ i j with
  | none => rfl
  | some p =>
    obtain ⟨ds, c⟩ := p
    simp only []
    cases tyOk T c with
    | false => rfl
    | true =>
      simp only [if_true]
      cases fs τ with
      | stuck => rfl
      | exc n τ' => rfl
      | ok xs τ1 =>
        simp only []
        cases bxT τ1 i j with
        | none => rfl
        | some q =>
          simp only []
          cases o q.2 xs <;> rfl
def ofLF (r : DR) : M D := fun τ => match r with
  | .ret d _ => if flL d = true then .ok d τ else .stuck
  | .exc n _ => .exc n τ
  | .stuck => .stuck
def ofLN (r : DR) : M D := fun τ => match r with
  | .ret d _ => if flB d = true then .ok d τ else .stuck
  | .exc n _ => .exc n τ
  | .stuck => .stuck
theorem e_callLF {mf : List D → DR} {fs : M (List D)} {τ : PS0} : callLF mf fs τ = bM (fs τ) fun ds => ofLF (mf ds) := by
  unfold callLF andThen bM ofLF
  cases fs τ with
  | ok a τ' => rfl
  | exc n τ' => rfl
  | stuck => rfl
theorem e_callLN {mf : List D → DR} {fs : M (List D)} {τ : PS0} : callLN mf fs τ = bM (fs τ) fun ds => ofLN (mf ds) := by
  unfold callLN andThen bM ofLN
  cases fs τ with
  | ok a τ' => rfl
  | exc n τ' => rfl
  | stuck => rfl
theorem flL_t {T : List (List Nat)} : flL (.lst (T.map .str)) = true := by
  show (T.map D.str).all flD = true
  rw [List.all_map]
  exact List.all_eq_true.mpr fun _ _ => rfl
theorem ofLF_t {T : List (List Nat)} {o : D} {τ : PS0} : ofLF (.ret (.lst (T.map .str)) o) τ = .ok (.lst (T.map .str)) τ := if_pos flL_t
theorem ofLF_exc {n : Str} {o : D} {τ : PS0} : ofLF (.exc n o) τ = .exc n τ := rfl
theorem ofLN_b {T : List (List Nat)} {a b : Int} {o : D} {τ : PS0} : ofLN (.ret (.nx (.tup [.int a, .int b, .nw (.lst (T.map .str))])) o) τ = .ok (.nx (.tup [.int a, .int b, .nw (.lst (T.map .str))])) τ := if_pos (by
  have h := flL_t (T := T)
  show (true && (true && (flL (.lst (T.map .str)) && true))) = true
  rw [h]
  rfl)
theorem ofLN_exc {n : Str} {o : D} {τ : PS0} : ofLN (.exc n o) τ = .exc n τ := rfl
def mkT (n : Str) : D → Option D
  | .str s => some (.ex n s)
  | _ => none
theorem e_mkX {n : Str} {f : M D} {τ : PS0} : mkX n f τ = bM (f τ) fun d => lift (mkT n d) := rfl
theorem mkT_str {n : Str} {s : List Nat} : mkT n (.str s) = some (.ex n s) := rfl
/-! ### boxes that are dicts by tuples, or lists of lists -/
def bRs {α : Type} (r : Res α) (f : α → SM) : SR := match r with
  | .ok a τ => f a τ
  | _ => .stuck
theorem bRs_ok {α : Type} {a : α} {f : α → SM} {τ : PS0} : bRs (.ok a τ) f = f a τ := rfl
def bxKo : Option Slot → Option (List (List L2.Key × D))
  | some (.bx (.nx (.dT es))) => some es
  | _ => none
theorem e_bxK {τ : PS0} {i : Nat} : bxK τ i = bxKo τ[i]? := by
  unfold bxK
  cases τ[i]? with
  | none => rfl
  | some s =>
    cases s with
    | bx d =>
      cases d with
      | nx e => cases e <;> rfl
      | _ => rfl
    | _ => rfl
theorem bxKo_bx {es : List (List L2.Key × D)} : bxKo (some (.bx (.nx (.dT es)))) = some es := rfl
def putN (es : List (List L2.Key × D)) (kk : List L2.Key) (d : D) : Option (List (List L2.Key × D)) := if (es.any fun kv => decide (kv.1 = kk)) = false ∧ es.length < 16777216 then some (es ++ [(kk, d)]) else none
theorem e_bxPutK {τ : PS0} {i : Nat} {f fi : M D} : bxPutK i f fi τ = bR (f τ) fun d τ1 => bO (bxK τ1 i) fun _ => bRs (fi τ1) fun kd τ2 => bO (bxK τ2 i) fun es => bO (keyT kd) fun kk => bO (putN es kk d) fun es' => .nx (τ2.set i (.bx (.nx (.dT es')))) := by
  unfold bxPutK bR bO bRs
  cases f τ with
  | stuck => rfl
  | exc n τ' => rfl
  | ok d τ1 =>
    simp only []
    cases bxK τ1 i with
    | none => rfl
    | some _ =>
      simp only []
      cases fi τ1 with
      | stuck => rfl
      | exc n τ' => rfl
      | ok kd τ2 =>
        simp only []
        cases bxK τ2 i with
        | none => rfl
        | some es =>
          simp only []
          cases keyT kd with
          | none => rfl
          | some kk =>
            simp only []
            unfold putN
            by_cases h : (es.any fun kv => decide (kv.1 = kk)) = false ∧ es.length < 16777216
            · rw [if_pos h, if_pos h]
            · rw [if_neg h, if_neg h]
theorem e_bxAtK {τ : PS0} {i : Nat} {T : String} {fk : M D} {fs : M (List D)} {o : OMt} : bxAtK T i fk fs o τ = bO (bxK τ i) fun _ => bR (fk τ) fun kd τ1 => bO (bxK τ1 i) fun es1 => bO (atC es1 kd) fun p => selS (tyOk T p.2.2) (fun τ1 => bR (fs τ1) fun xs τ2 => bO (bxK τ2 i) fun es2 => bO (atC es2 kd) fun q => bO (o q.2.2 xs) fun r => .nx (τ2.set i (.bx (.nx (.dT (es2.set q.1 (q.2.1, .nw r.2))))))) (fun _ => .stuck) τ1 := by
  unfold bxAtK bO bR selS
  cases bxK τ i with
  | none => rfl
  | some _ =>
    simp only []
    cases fk τ with
    | stuck => rfl
    | exc n τ' => rfl
    | ok kd τ1 =>
      simp only []
      cases bxK τ1 i with
      | none => rfl
      | some es1 =>
        simp only []
        cases atC es1 kd with
        | none => rfl
        | some p =>
          obtain ⟨j, kk, c⟩ := p
          simp only []
          cases tyOk T c with
          | false => rfl
          | true =>
            simp only [if_true]
            cases fs τ1 with
            | stuck => rfl
            | exc n τ' => rfl
            | ok xs τ2 =>
              simp only []
              cases bxK τ2 i with
              | none => rfl
              | some es2 =>
                simp only []
                cases atC es2 kd with
                | none => rfl
                | some q =>
                  obtain ⟨j2, kk2, c2⟩ := q
                  simp only []
                  cases o c2 xs <;> rfl
def bxLo : Option Slot → Option (List D)
  | some (.bx (.nx (.lst ds))) => some ds
  | _ => none
theorem e_bxL {τ : PS0} {i : Nat} : bxL τ i = bxLo τ[i]? := by
  unfold bxL
  cases τ[i]? with
  | none => rfl
  | some s =>
    cases s with
    | bx d =>
      cases d with
      | nx e => cases e <;> rfl
      | _ => rfl
    | _ => rfl
theorem bxLo_bx {ds : List D} : bxLo (some (.bx (.nx (.lst ds)))) = some ds := rfl
theorem e_bxSet2 {τ : PS0} {i : Nat} {f1 f2 fv : M D} : bxSet2 i f1 f2 fv τ = bR (fv τ) fun d τ1 => bO (bxL τ1 i) fun _ => bRs (f1 τ1) fun x τ2 => bO (asI x) fun a => bO (bxL τ2 i) fun ds2 => bO (atL ds2 a) fun _ => bRs (f2 τ2) fun y τ3 => bO (asI y) fun b => bO (bxL τ3 i) fun ds => bO (atL ds a) fun p => bO (ixN p.2.length b) fun l => .nx (τ3.set i (.bx (.nx (.lst (ds.set p.1 (.nw (.lst (p.2.set l d)))))))) := by
  unfold bxSet2 bR bO bRs
  cases fv τ with
  | stuck => rfl
  | exc n τ' => rfl
  | ok d τ1 =>
    simp only []
    cases bxL τ1 i with
    | none => rfl
    | some _ =>
      simp only []
      cases f1 τ1 with
      | stuck => rfl
      | exc n τ' => rfl
      | ok x τ2 =>
        cases x with
        | int a =>
          simp only [o_asI]
          cases bxL τ2 i with
          | none => rfl
          | some ds2 =>
            simp only []
            cases atL ds2 a with
            | none => rfl
            | some _ =>
              simp only []
              cases f2 τ2 with
              | stuck => rfl
              | exc n τ' => rfl
              | ok y τ3 =>
                cases y with
                | int b =>
                  simp only [o_asI]
                  cases bxL τ3 i with
                  | none => rfl
                  | some ds =>
                    simp only []
                    cases atL ds a with
                    | none => rfl
                    | some p =>
                      obtain ⟨j, xs⟩ := p
                      simp only []
                      cases ixN xs.length b <;> rfl
                | _ => rfl
        | _ => rfl
theorem e_lcEN {vs : List Nat} {fs : M (List D)} {h : D → PS0 → Option PS0} {t : M Bool} {el : M D} {τ : PS0} : lcEN vs fs h t el τ = nxM (lcE vs fs h t (nwM el)) τ := rfl
def kOw (i : Nat) : SR → SR
  | .nx τ' => bO (owbO i τ') fun τ2 => .nx τ2
  | r => r
theorem e_owbS {i : Nat} {f : SM} {τ : PS0} : owbS i f τ = kOw i (f τ) := by
  unfold owbS kOw bO
  cases f τ with
  | nx τ' =>
    simp only []
    generalize owbO i τ' = o
    cases o <;> rfl
  | _ => rfl
theorem kOw_nx {i : Nat} {τ : PS0} : kOw i (.nx τ) = bO (owbO i τ) fun τ2 => .nx τ2 := rfl
def owO (i : Nat) (τ : PS0) : Option Slot → Option PS0
  | some (.bx d) => (owbD d).map fun e => τ.set i (.ow e)
  | _ => none
theorem e_owbO {i : Nat} {τ : PS0} : owbO i τ = owO i τ τ[i]? := by
  unfold owbO owO
  cases τ[i]? with
  | none => rfl
  | some s => cases s <;> rfl
theorem owO_bx {i : Nat} {τ : PS0} {d : D} : owO i τ (some (.bx d)) = (owbD d).map fun e => τ.set i (.ow e) := rfl
theorem o_lenDT {es : List (List L2.Key × D)} : oLenT (.dT es) = some (.int (es.length : Nat)) := rfl
theorem fix_nxt2 {es : List (List L2.Key × D)} : D.fix (.nx (.dT es)) = .dT (fixT es) := rfl
theorem okB_nxt2 {es : List (List L2.Key × D)} : D.okB (.nx (.dT es)) = okU es := rfl
theorem e_callUF {mf : List D → DR} {f0 : M D} {fs : M (List D)} {τ : PS0} : callUF mf f0 fs τ = bM (f0 τ) fun c => andThen fs fun ds => ofDR (mf (c :: ds)) := rfl
theorem e_owbA {i : Nat} {f : SM} {τ : PS0} : owbA i f τ = bO (owbO i τ) f := by
  unfold owbA bO
  cases owbO i τ <;> rfl
end
/-! ### objects -/
section
variable {τ τ' : PS0} {i j : Nat} {n x mn : Str} {d e c o : D} {fs : List (Str × D)} {f fv fi : M D} {gs : M (List D)} {mf : List D → DR} {nm : Str} {T : String} {om : OMt} {rk : Kd} {body : SM} {es : List (L2.Key × D)} {r : List (List Nat × List Nat)}
def obO (n : Str) (o : Option Slot) : Option (List (Str × D)) := (o.bind boxD).bind (obD n)
theorem e_obF : obF τ i n = obO n τ[i]? := rfl
theorem obO_mb : obO n (some (.mb (.nx (.ob n fs)))) = some fs := if_pos rfl
theorem obO_bx : obO n (some (.bx (.nx (.ob n fs)))) = some fs := if_pos rfl
def imO (n : Str) (o : Option Slot) : Option (List (Str × D)) := match o with
  | some (.im (.ob n' ds)) => if n' = n then some ds else none
  | _ => none
theorem e_imF : imF τ i n = imO n τ[i]? := rfl
theorem imO_im : imO n (some (.im (.ob n fs))) = some fs := if_pos rfl
def bxOo (o : Option Slot) : Option D := o.bind boxD
theorem e_bxO : bxO τ i = bxOo τ[i]? := rfl
theorem bxOo_bx : bxOo (some (.bx d)) = some d := rfl
theorem bxOo_mb : bxOo (some (.mb d)) = some d := rfl
def bpO (i : Nat) (e : D) (τ : PS0) (o : Option Slot) : PS0 := match o with
  | some s => τ.set i (s.bput e)
  | none => τ
theorem e_bputO : bputO i e τ = bpO i e τ τ[i]? := by
  unfold bputO bpO
  cases τ[i]? <;> rfl
theorem bpO_mb : bpO i e τ (some (.mb d)) = τ.set i (.mb e) := rfl
theorem bpO_bx : bpO i e τ (some (.bx d)) = τ.set i (.bx e) := rfl
theorem lkp_c : List.lookup x ((x, d) :: fs) = some d := by rw [List.lookup_cons, beq_self_eq_true]
theorem fldD_nw : fldD (.nw d) = some d := rfl
theorem fldD_int {a : Int} : fldD (.int a) = some (.int a) := rfl
theorem fldD_lst {ds : List D} : fldD (.lst ds) = some (.lst ds) := rfl
theorem e_lookF : lookF i n x τ = bOM (obF τ i n) fun ds => bOM ((ds.lookup x).bind fldD) fun d => .ok d τ := by
  unfold lookF bOM
  cases obF τ i n with
  | none => rfl
  | some ds => simp only []; cases (ds.lookup x).bind fldD <;> rfl
def valO (a b : Option (List (Str × D))) (x : Str) (τ : PS0) : Res D := match a with
  | some ds => bOM (ds.lookup x) fun d => .ok d τ
  | none => bOM b fun ds => bOM ((ds.lookup x).bind noNw) fun d => .ok d τ
theorem e_fldS : fldS i n x f τ = bR (f τ) fun d τ1 => bO (obF τ1 i n) fun ds => if ds.length < 900 then .nx (bputO i (.nx (.ob n (putFd x d ds))) τ1) else .stuck := by
  unfold fldS bR bO
  cases f τ with
  | ok d τ1 => simp only []; cases obF τ1 i n <;> rfl
  | exc _ _ => rfl
  | stuck => rfl
def fldCo (a : Option (List (Str × D))) (x : Str) : Option (List (Str × D) × D) := match a with
  | some ds => (match ds.lookup x with
    | some (.nw c) => some (ds, c)
    | _ => none)
  | none => none
theorem e_fldC : fldC τ i n x = fldCo (obF τ i n) x := rfl
theorem fldCo_c : fldCo (some ((x, .nw c) :: fs)) x = some ((x, .nw c) :: fs, c) := by
  unfold fldCo
  simp only [lkp_c]
theorem putFd_c : putFd x e ((x, d) :: fs) = (x, e) :: fs := if_pos rfl
theorem putFd_n : putFd x e [] = [(x, e)] := rfl
theorem e_fldM : fldM T i n x gs om τ = bO (fldC τ i n x) fun p => selS (tyOk T p.2) (fun τ => bR (gs τ) fun xs τ1 => bO (fldC τ1 i n x) fun q => bO (om q.2 xs) fun r => .nx (bputO i (.nx (.ob n (putFd x (.nw r.2) q.1))) τ1)) (fun _ => .stuck) τ := by
  unfold fldM bO
  cases e : fldC τ i n x with
  | none => simp only [e]
  | some p =>
    obtain ⟨ds, c⟩ := p
    simp only [e]
    cases h : tyOk T c with
    | false => simp only [selS_f, h]; rfl
    | true =>
      simp only [selS_t, h]
      unfold bR
      cases e2 : gs τ with
      | ok xs τ1 =>
        simp only [e2]
        cases e3 : fldC τ1 i n x with
        | none => simp only [e3]; rfl
        | some q =>
          obtain ⟨ds1, c1⟩ := q
          simp only [e3]
          cases e4 : om c1 xs <;> (simp only [e4]; rfl)
      | exc _ _ => simp only [e2]; rfl
      | stuck => simp only [e2]; rfl
theorem e_fldP : fldP i n x fv fi τ = bR (fv τ) fun d τ1 => bO (fldC τ1 i n x) fun _ => bR (fi τ1) fun j τ2 => bO (fldC τ2 i n x) fun q => bO (oSetD q.2 [j, d]) fun r => .nx (bputO i (.nx (.ob n (putFd x (.nw r.2) q.1))) τ2) := by
  unfold fldP bO bR
  cases fv τ with
  | ok d τ1 =>
    simp only []
    cases fldC τ1 i n x with
    | none => rfl
    | some _ =>
      simp only []
      cases fi τ1 with
      | ok j τ2 =>
        simp only []
        cases fldC τ2 i n x with
        | none => rfl
        | some q =>
          obtain ⟨ds1, c1⟩ := q
          simp only []
          cases oSetD c1 [j, d] with
          | none => rfl
          | some r => rfl
      | exc _ _ => rfl
      | stuck => rfl
  | exc _ _ => rfl
  | stuck => rfl
def dkO : D → Option Unit
  | .dK _ => some ()
  | _ => none
theorem dkO_k {es : List (Key × D)} : dkO (.dK es) = some () := rfl
theorem e_fldQ : fldQ i n x fi τ = bO (fldC τ i n x) fun q0 => bO (dkO q0.2) fun _ => bR (fi τ) fun j τ2 => bO (fldC τ2 i n x) fun q => bO (oDropK q.2 j) fun c' => .nx (bputO i (.nx (.ob n (putFd x (.nw c') q.1))) τ2) := by
  unfold fldQ bO bR
  cases fldC τ i n x with
  | none => rfl
  | some q0 =>
    obtain ⟨ds0, c0⟩ := q0
    cases c0 with
    | dK es =>
      simp only [dkO]
      cases fi τ with
      | ok j τ2 =>
        simp only []
        cases fldC τ2 i n x with
        | none => rfl
        | some q =>
          obtain ⟨ds1, c1⟩ := q
          simp only []
          cases oDropK c1 j with
          | none => rfl
          | some r => rfl
      | exc _ _ => rfl
      | stuck => rfl
    | _ => rfl
/-- what a call of an object's def gives back -/
def ofDM (i : Nat) (r : DR) : M D := fun τ => match r with
  | .ret d o => .ok d (bputO i o τ)
  | .exc n o => .exc n (bputO i o τ)
  | .stuck => .stuck
theorem ofDM_ret : ofDM i (.ret d o) τ = .ok d (bputO i o τ) := rfl
theorem ofDM_exc : ofDM i (.exc nm o) τ = .exc nm (bputO i o τ) := rfl
theorem e_callB : callB i mf gs τ = bM (gs τ) fun ds τ1 => bOM (bxO τ1 i) fun c => ofDM i (mf (c :: ds)) τ1 := by
  unfold callB andThen bM bOM ofDM
  cases gs τ with
  | ok ds τ1 =>
    simp only []
    cases bxO τ1 i with
    | none => rfl
    | some c => (try simp only []) <;> (cases mf (c :: ds) <;> rfl)
  | exc _ _ => rfl
  | stuck => rfl
theorem e_callM : callM i n mf gs τ = bOM (obF τ i n) fun _ => callB i mf gs τ := by
  unfold callM andThen bOM
  cases e : obF τ i n <;> simp only [e]
theorem e_methM : methM i n mn mf gs τ = bOM (obF τ i n) fun ds => if noFld ds mn = true then callB i mf gs τ else .stuck := by
  unfold methM andThen bOM
  cases e : obF τ i n with
  | none => simp only [e]
  | some ds =>
    simp only [e]
    cases noFld ds mn <;> rfl
def mkO (r : DR) (τ : PS0) : Res D := match r with
  | .ret .non o => .ok o τ
  | _ => .stuck
theorem mkO_ret : mkO (.ret .non o) τ = .ok o τ := rfl
theorem e_makeM : makeM n mf gs τ = bM (gs τ) fun ds τ => mkO (mf (.nx (.ob n []) :: ds)) τ := by
  unfold makeM andThen bM mkO
  cases gs τ with
  | ok ds τ1 => rfl
  | exc _ _ => rfl
  | stuck => rfl
def endM (rk : Kd) (r : SR) : DR := match r with
  | .nx τ' => (match rk with
    | .im => (match mbP τ' with
      | some o => .ret .non o
      | none => .stuck)
    | _ => .stuck)
  | .ret d τ' => (match mbP τ' with
    | some o => .ret d o
    | none => .stuck)
  | .exc nm τ' => (match mbP τ' with
    | some o => .exc nm o
    | none => .stuck)
  | .stuck => .stuck
theorem endM_nx : endM .im (.nx (.mb o :: τ)) = .ret .non o := rfl
theorem endM_ret : endM rk (.ret d (.mb o :: τ)) = .ret d o := rfl
theorem endM_exc : endM rk (.exc nm (.mb o :: τ)) = .exc nm o := rfl
theorem e_runM {k : Nat} {ds : List D} : runM k rk body (c :: ds) = endM rk (body (.mb c :: (ds.map .im ++ List.replicate (k - (ds.length + 1)) .no))) := by
  unfold runM endM
  simp only []
  all_goals (cases body (.mb c :: (ds.map .im ++ List.replicate (k - (ds.length + 1)) .no)) <;> rfl)
theorem e_mdIn {neg : Bool} : mdIn neg r f τ = bM (f τ) fun d => lift (mdV neg r d) := rfl
theorem e_mdAt : mdAt r f τ = bM (f τ) fun d => lift (mdG r d) := rfl
end
/-! ### fixed objects; except without a name -/
section
variable {τ τ' : PS0} {i j : Nat} {n x mn nm : Str} {d e c o : D} {fs : List (Str × D)} {f : SM} {gs : M (List D)} {mf : List D → DR} {cl : Str → Option Bool} {fb fs' : SM}
theorem e_valF : valF i n x τ = valO (imF τ i n) (obF τ i n) x τ := by
  unfold valF valO bOM
  cases imF τ i n with
  | some ds =>
    simp only []
    cases ds.lookup x <;> rfl
  | none =>
    simp only []
    cases obF τ i n with
    | none => rfl
    | some ds =>
      simp only []
      cases (ds.lookup x).bind noNw <;> rfl
theorem valO_s {b : Option (List (Str × D))} : valO (some fs) b x τ = bOM (fs.lookup x) fun d => .ok d τ := rfl
def oiO (a : Option (List (Str × D))) (n mn : Str) (τ : PS0) : Res D := match a with
  | some ds => if noFld ds mn = true then .ok (.ob n ds) τ else .stuck
  | none => .stuck
theorem e_obI : obI i n mn τ = oiO (imF τ i n) n mn τ := rfl
theorem oiO_s : oiO (some fs) n mn τ = if noFld fs mn = true then .ok (.ob n fs) τ else .stuck := rfl
theorem e_callV : callV mf o gs τ = bM (gs τ) fun ds => ofDR (mf (o :: ds)) := rfl
theorem e_methV : methV i n mn mf gs τ = bM (obI i n mn τ) fun o => callV mf o gs := rfl
def kFB (i : Nat) : SR → SR
  | .nx τ' => bO (frzBO i τ') fun τ2 => .nx τ2
  | r => r
theorem e_frzBS : frzBS i f τ = kFB i (f τ) := by
  unfold frzBS kFB bO
  cases e : f τ with
  | nx τ' => simp only [e]; cases frzBO i τ' <;> rfl
  | ret _ _ => simp only [e]
  | exc _ _ => simp only [e]
  | stuck => simp only [e]
theorem kFB_nx : kFB i (.nx τ) = bO (frzBO i τ) fun τ2 => .nx τ2 := rfl
theorem kFB_ret : kFB i (.ret d τ) = .ret d τ := rfl
def fBO (i : Nat) (τ : PS0) : Option Slot → Option PS0
  | some (.bx d) => if d.okB = true then some (τ.set i (.im d.fix)) else none
  | _ => none
theorem e_frzBO : frzBO i τ = fBO i τ τ[i]? := by
  unfold frzBO fBO
  cases τ[i]? with
  | none => rfl
  | some s => cases s <;> rfl
theorem fBO_bx : fBO i τ (some (.bx d)) = if d.okB = true then some (τ.set i (.im d.fix)) else none := rfl
theorem okB_ob : D.okB (.nx (.ob n fs)) = okF fs := rfl
theorem okF_c : okF ((x, d) :: fs) = (d.okB && okF fs) := rfl
theorem okF_n : okF [] = true := rfl
theorem fix_ob : D.fix (.nx (.ob n fs)) = .ob n (fixF fs) := rfl
theorem fixF_c : fixF ((x, d) :: fs) = (x, d.fix) :: fixF fs := rfl
theorem fixF_n : fixF [] = [] := rfl
def sN : SR → SR
  | .nx τ2 => .nx τ2
  | .ret d τ2 => .ret d τ2
  | _ => .stuck
def tN' (cl : Str → Option Bool) (fs : SM) : SR → SR
  | .exc n τ1 => (match cl n with
    | some true => sN (fs τ1)
    | some false => .exc n τ1
    | none => .stuck)
  | r => r
theorem sN_nx : sN (.nx τ) = .nx τ := rfl
theorem sN_ret : sN (.ret d τ) = .ret d τ := rfl
theorem tN_nx : tN' cl fs' (.nx τ) = .nx τ := rfl
theorem tN_ret : tN' cl fs' (.ret d τ) = .ret d τ := rfl
theorem e_tryN : tryN cl fb fs' τ = tN' cl fs' (fb τ) := by
  unfold tryN tN'
  cases e : fb τ with
  | nx _ => simp only [e]
  | ret _ _ => simp only [e]
  | stuck => simp only [e]
  | exc n τ1 =>
    simp only [e]
    cases cl n with
    | none => rfl
    | some b =>
      cases b with
      | false => rfl
      | true =>
        simp only []
        unfold sN
        cases fs' τ1 <;> rfl
end
end PL

section
open PL
local macro_rules
  | `(tactic| simp! only [$a,*] $[$l]?) => `(tactic| simp -implicitDefEqProofs only [$a,*, bM_ok, bM_exc, bR_ok, bR_exc, bS_nx, bS_ret, bS_exc, bO_some, bOM_some, selM_t, selM_f, selS_t, selS_f, rdO_im, rdO_ow, lookO_im, lookO_ow, lookO_mu, moveO_ow, ownO_ow, ownO_mu, putO_ow, putO_mu, ofDR_ret, ofDR_exc, ofDU_ret, ofDU_exc, endF_nx, endF_ret, endF_exc, endU_nx, endU_ret, endU_exc, e_runF, e_runU, e_bind, e_ret, e_lift, e_rd, e_look, e_move, e_ownC, e_putC, e_op2, e_op1, e_tst, e_notM, e_andM, e_orM, e_notE, e_andE, e_orE, e_iteE, e_chn, e_argN, e_argC, e_tupE, e_lstE, e_noP, e_partM, e_sl3, asStr_str, e_strM, e_callF, e_callU, e_useU, e_mutM, e_skip, e_seqS, e_ifS, e_exprS, e_retS, e_setS, e_ownS, e_stIx, e_tgS, e_tgN, e_tgT, e_tgCons, e_tgNil, parK_2, e_parS, e_forS, e_rng1M, e_rng2M, e_iterM, e_enumA, e_zipM, e_lcE, o_subI, o_addI, o_eqI, o_neI, o_eqS, o_neS, o_ltI, o_leI, o_gtI, o_geI, o_maxI, o_minI, o_lenL, o_lenF, o_lenT, o_negI, o_asB, o_isiS, List.map_cons, List.map_nil, List.length_cons, List.length_nil, List.cons_append, List.nil_append, List.append_nil, List.replicate_succ, List.replicate_zero, List.getElem?_cons_succ, List.getElem?_cons_zero, List.set_cons_succ, List.set_cons_zero, Option.map_some, Option.map_none, Option.bind_some, Option.bind_none, if_true, if_false, ite_true, ite_false, decide_true, decide_false, Bool.not_true, Bool.not_false, Nat.zero_add, Nat.reduceAdd, Nat.reduceSub, reduceIte, reduceCtorEq, Nat.reduceLT, Nat.reduceLeDiff, Int.reduceLT, Int.reduceLE, Int.reduceToNat, Int.reduceNeg, Int.reduceEq, Int.reduceSub, Int.reduceAdd, Int.reduceMul, Int.reducePow, tyOk, beq_self_eq_true, e_freeP1, e_freeP2, freeO_no, freeO_im, e_wipe1, e_wipe2, e_back1, e_back2, backO_s, o_iterL, o_iterF, o_iterT, Bool.and_true, sK_nx, sK_ret, tK_nx, tK_ret, e_tryS, e_raiseS, o_isE, o_isEN, o_notNN, o_notNE, o_isNN, o_isNE, e_prN, e_prC, e_dispE, e_zipA, o_zipSS, o_zipSL, o_zipLL, o_asI, e_callL, e_callLF, bRs_ok, e_bxK, bxKo_bx, e_bxPutK, e_bxAtK, e_bxL, bxLo_bx, e_bxSet2, e_lcEN, e_owbS, kOw_nx, e_owbO, owO_bx, o_lenDT, fix_nxt2, okB_nxt2, e_mkX, mkT_str, e_callLN, ofLF_t, ofLF_exc, ofLN_b, ofLN_exc, ofDL_bl, ofDL_int, ofDL_str, ofDL_non, ofDL_exc, e_killS, kK_nx, kK_ret, kK_exc, e_wipeC, e_wipeN, e_backC, e_backN, e_stp, e_lcs, joinC_t, joinC_f, joinC_ok, e_augI, augO_int, e_getE, e_dixE, asD_k, keyD_s, keyD_i, e_bSkK, e_kiY, e_frzS, kF_nx, e_frzO, fO_ow, e_freeP3, e_strX, e_rng3A, o_iterM, e_lckS, kL_nx, e_lckO, lO_k, lO_t, e_iterK, o_iterKk, o_iterKt, e_getA, e_dixA, isDct_k, isDct_t, isDct_fk, isDct_ft, oGetA_k, oGetA_fk, oGetA_t, oGetA_ft, id_eq, e_iterL, e_lookT, lookR_ok, frzA_c, frzA_n, frz_im', frz_ow', frz_mu', frz_no', e_runN, endN_nx, endN_ret, endN_exc, e_bxS, e_nwM, e_nxM, e_fixM, e_tupN, e_moveB, moveBO_bx, frz_bx', frz_mb', frzB_t, okB_nw, okB_int, okB_str, okB_lst, okB_tup, okB_non, okB_bl, okB_nxt, okB_nxl, okA_c, okA_n, fix_nw, fix_int, fix_str, fix_lst, fix_tup, fix_non, fix_bl, fix_nxt, fix_nxl, fixA_c, fixA_n, e_bxT, bxTO_bx, bxTD_nw, e_bxAtT, e_callUF, e_owbA, e_obF, obO_mb, obO_bx, e_imF, imO_im, e_bxO, bxOo_bx, bxOo_mb, e_bputO, bpO_mb, bpO_bx, lkp_c, fldD_nw, fldD_int, fldD_lst, e_lookF, e_fldS, e_fldC, fldCo_c, putFd_c, putFd_n, e_fldM, e_fldP, ofDM_ret, ofDM_exc, e_callB, e_callM, e_methM, mkO_ret, e_makeM, endM_nx, endM_ret, endM_exc, e_runM, e_mdIn, e_mdAt, e_valF, valO_s, e_obI, oiO_s, e_callV, e_methV, e_frzBS, kFB_nx, kFB_ret, e_frzBO, fBO_bx, okB_ob, okF_c, okF_n, fix_ob, fixF_c, fixF_n, sN_nx, sN_ret, tN_nx, tN_ret, e_tryN, e_fldQ, dkO_k, e_lookE] $[$l]?)
local macro_rules
  | `(tactic| simp_all! only [$a,*]) => `(tactic| simp -implicitDefEqProofs (disch := (first | assumption | omega | ((try simp only [List.length_map, List.length_range, List.length_append, List.length_cons, List.length_nil, List.length_reverse, List.length_take, List.length_drop, List.length_set]); omega))) only [$a,*, bM_ok, bM_exc, bR_ok, bR_exc, bS_nx, bS_ret, bS_exc, bO_some, bOM_some, selM_t, selM_f, selS_t, selS_f, rdO_im, rdO_ow, lookO_im, lookO_ow, lookO_mu, moveO_ow, ownO_ow, ownO_mu, putO_ow, putO_mu, ofDR_ret, ofDR_exc, ofDU_ret, ofDU_exc, endF_nx, endF_ret, endF_exc, endU_nx, endU_ret, endU_exc, e_runF, e_runU, e_bind, e_ret, e_lift, e_rd, e_look, e_move, e_ownC, e_putC, e_op2, e_op1, e_tst, e_notM, e_andM, e_orM, e_notE, e_andE, e_orE, e_iteE, e_chn, e_argN, e_argC, e_tupE, e_lstE, e_noP, e_partM, e_sl3, asStr_str, e_strM, e_callF, e_callU, e_useU, e_mutM, e_skip, e_seqS, e_ifS, e_exprS, e_retS, e_setS, e_ownS, e_stIx, e_tgS, e_tgN, e_tgT, e_tgCons, e_tgNil, parK_2, e_parS, e_forS, e_rng1M, e_rng2M, e_iterM, e_enumA, e_zipM, e_lcE, o_subI, o_addI, o_eqI, o_neI, o_eqS, o_neS, o_ltI, o_leI, o_gtI, o_geI, o_maxI, o_minI, o_lenL, o_lenF, o_lenT, o_negI, o_asB, o_isiS, List.map_cons, List.map_nil, List.length_cons, List.length_nil, List.cons_append, List.nil_append, List.append_nil, List.replicate_succ, List.replicate_zero, List.getElem?_cons_succ, List.getElem?_cons_zero, List.set_cons_succ, List.set_cons_zero, Option.map_some, Option.map_none, Option.bind_some, Option.bind_none, if_true, if_false, ite_true, ite_false, decide_true, decide_false, Bool.not_true, Bool.not_false, Nat.zero_add, Nat.reduceAdd, Nat.reduceSub, reduceIte, reduceCtorEq, Nat.reduceLT, Nat.reduceLeDiff, Int.reduceLT, Int.reduceLE, Int.reduceToNat, Int.reduceNeg, Int.reduceEq, Int.reduceSub, Int.reduceAdd, Int.reduceMul, Int.reducePow, tyOk, beq_self_eq_true, e_freeP1, e_freeP2, freeO_no, freeO_im, e_wipe1, e_wipe2, e_back1, e_back2, backO_s, o_iterL, o_iterF, o_iterT, Bool.and_true, sK_nx, sK_ret, tK_nx, tK_ret, e_tryS, e_raiseS, o_isE, o_isEN, o_notNN, o_notNE, o_isNN, o_isNE, e_prN, e_prC, e_dispE, e_zipA, o_zipSS, o_zipSL, o_zipLL, o_asI, e_callL, e_callLF, bRs_ok, e_bxK, bxKo_bx, e_bxPutK, e_bxAtK, e_bxL, bxLo_bx, e_bxSet2, e_lcEN, e_owbS, kOw_nx, e_owbO, owO_bx, o_lenDT, fix_nxt2, okB_nxt2, e_mkX, mkT_str, e_callLN, ofLF_t, ofLF_exc, ofLN_b, ofLN_exc, ofDL_bl, ofDL_int, ofDL_str, ofDL_non, ofDL_exc, e_killS, kK_nx, kK_ret, kK_exc, e_wipeC, e_wipeN, e_backC, e_backN, e_stp, e_lcs, joinC_t, joinC_f, joinC_ok, e_augI, augO_int, e_getE, e_dixE, asD_k, keyD_s, keyD_i, e_bSkK, e_kiY, e_frzS, kF_nx, e_frzO, fO_ow, e_freeP3, e_strX, e_rng3A, o_iterM, e_lckS, kL_nx, e_lckO, lO_k, lO_t, e_iterK, o_iterKk, o_iterKt, e_getA, e_dixA, isDct_k, isDct_t, isDct_fk, isDct_ft, oGetA_k, oGetA_fk, oGetA_t, oGetA_ft, id_eq, e_iterL, e_lookT, lookR_ok, frzA_c, frzA_n, frz_im', frz_ow', frz_mu', frz_no', e_runN, endN_nx, endN_ret, endN_exc, e_bxS, e_nwM, e_nxM, e_fixM, e_tupN, e_moveB, moveBO_bx, frz_bx', frz_mb', frzB_t, okB_nw, okB_int, okB_str, okB_lst, okB_tup, okB_non, okB_bl, okB_nxt, okB_nxl, okA_c, okA_n, fix_nw, fix_int, fix_str, fix_lst, fix_tup, fix_non, fix_bl, fix_nxt, fix_nxl, fixA_c, fixA_n, e_bxT, bxTO_bx, bxTD_nw, e_bxAtT, e_callUF, e_owbA, e_obF, obO_mb, obO_bx, e_imF, imO_im, e_bxO, bxOo_bx, bxOo_mb, e_bputO, bpO_mb, bpO_bx, lkp_c, fldD_nw, fldD_int, fldD_lst, e_lookF, e_fldS, e_fldC, fldCo_c, putFd_c, putFd_n, e_fldM, e_fldP, ofDM_ret, ofDM_exc, e_callB, e_callM, e_methM, mkO_ret, e_makeM, endM_nx, endM_ret, endM_exc, e_runM, e_mdIn, e_mdAt, e_valF, valO_s, e_obI, oiO_s, e_callV, e_methV, e_frzBS, kFB_nx, kFB_ret, e_frzBO, fBO_bx, okB_ob, okF_c, okF_n, fix_ob, fixF_c, fixF_n, sN_nx, sN_ret, tN_nx, tN_ret, e_tryN, e_fldQ, dkO_k, e_lookE])

namespace Q
open PL
open PySem (Str)
noncomputable section
abbrev K_FREE : D := .str [63]
abbrev K_PER_CENT : D := .int 37
abbrev T_1 : List Nat := [33, 34, 35, 36, 38, 39, 40, 41, 42, 43, 44, 45, 46, 47, 48, 49, 50, 51, 52, 53, 54, 55, 56, 57, 58, 59, 60, 61, 62, 64, 65, 66, 67, 68, 69, 70, 71, 72, 73, 74, 75, 76, 77, 78, 79, 80, 81, 82, 83, 84, 85, 86, 87, 88, 89, 90, 91, 92, 93, 94, 95, 96, 97, 98, 99, 100, 101, 102, 103, 104, 105, 106, 107, 108, 109, 110, 111, 112, 113, 114, 115, 116, 117, 118, 119, 120, 121, 122, 123, 124, 125, 126]
abbrev N_is_row : List Str := ["thing", "sign"]
def b_is_row : SM := (seqS (ifS (orM (notM (tst (op1 (oIsi "str") (rd 0)))) (tst (op2 oEq (rd 0) (ret (.str []))))) (retS (ret (.bl false))) skip) (retS (op2 oEq (lcE [1] (iterM (rd 0)) (tgN 1) (orM (notM (tst (chn oLe oLe (ret (.str [33])) (rd 1) (ret (.str [126]))))) (tst (op2 oEq (op1 oOrd (rd 1)) (ret K_PER_CENT)))) (rd 1)) (lstE argN))))
def m_is_row : List D → DR := runF 2 .im b_is_row
abbrev N__law_pool : List Str := ["script", "k", "cell"]
def b__law_pool : SM := (seqS (setS 2 (ret (.int 0))) (seqS (ifS (tst (op2 oLt (rd 1) (op1 oLen (rd 0)))) (setS 2 (op2 oIx (rd 0) (rd 1))) skip) (seqS (ifS (tst (op2 oGe (rd 2) (op2 oPow (ret (.int 10)) (ret (.int 18))))) (retS (lstE (argC (op2 oSub (rd 2) (op2 oPow (ret (.int 10)) (ret (.int 18)))) (argC (ret (.int 1)) (argC (ret (.int 0)) argN))))) skip) (retS (lstE (argC (rd 2) (argC (ret (.int 0)) (argC (op2 oMulA (ret (.int 67)) (rd 1)) argN))))))))
def m__law_pool : List D → DR := runF 3 .fr b__law_pool
abbrev N__law_take : List Str := ["pool", "many", "step", "mark", "found"]
def b__law_take : SM := (seqS (ifS (tst (op2 oEq (op2 oIx (look 0) (ret (.int 1))) (ret (.int 1)))) (seqS (setS 4 (op2 oMod (op2 oIx (look 0) (ret (.int 0))) (rd 1))) (seqS (stIx 0 (op2 oDiv (op2 oIx (look 0) (ret (.int 0))) (rd 1)) (ret (.int 0)) oSetIx) (retS (rd 4)))) skip) (seqS (stIx 0 (op2 oAdd (op2 oIx (look 0) (ret (.int 2))) (ret (.int 1))) (ret (.int 2)) oSetIx) (seqS (setS 2 (op2 oIx (look 0) (ret (.int 2)))) (seqS (setS 3 (op2 oMulA (op2 oAdd (op2 oMod (op2 oIx (look 0) (ret (.int 0))) (ret (.int 9999999491))) (ret (.int 1033))) (op2 oAdd (op2 oMulA (ret (.int 59)) (rd 2)) (ret (.int 89))))) (seqS (setS 3 (op2 oAdd (rd 3) (op2 oMulA (op2 oMulA (ret (.int 3613)) (rd 2)) (rd 2)))) (seqS (setS 3 (op2 oMod (op2 oMulA (rd 3) (rd 3)) (ret (.int 99999999559)))) (retS (op2 oMod (op2 oDiv (op2 oMod (op2 oMulA (rd 3) (op2 oAdd (rd 3) (ret (.int 71)))) (ret (.int 99999999839))) (ret (.int 127))) (rd 1)))))))))
def m__law_take : List D → DR := runU 5 .im b__law_take
def b__law_added_1 : SM := (killS [3] (stIx 2 (op2 oAdd (getE (look 2) (rd 3) (ret (.int 0))) (dixA (rd 1) (rd 3))) (rd 3) oSetD))
abbrev N__law_added : List Str := ["one", "other", "found", "sign"]
def b__law_added : SM := (seqS (killS [0] (ownS 2 (op1 oDictD (rd 0)))) (seqS (lckI 1 (forS (iterK (rd 1)) (tgN 3) b__law_added_1)) (retS (rd 2))))
def m__law_added : List D → DR := runF 4 .im b__law_added
abbrev N_is_little : List Str := ["thing", "row"]
def b_is_little : SM := (seqS (ifS (orM (notM (tst (op1 (oIsi "list") (rd 0)))) (tst (op2 oEq (rd 0) (lstE argN)))) (retS (ret (.bl false))) skip) (seqS (ifS (tst (op2 oNe (lcE [1] (iterM (rd 0)) (tgN 1) (notM (tst (callF m_is_row (argC (rd 1) argN)))) (rd 1)) (lstE argN))) (retS (ret (.bl false))) skip) (retS (op2 oEq (lcE [1] (iterM (rd 0)) (tgN 1) (tst (op2 oNe (op1 oLen (rd 1)) (op1 oLen (op2 oIx (rd 0) (ret (.int 0)))))) (rd 1)) (lstE argN)))))
def m_is_little : List D → DR := runF 2 .im b_is_little
abbrev N__law_sign : List Str := ["pool", "few", "signs"]
def b__law_sign : SM := (seqS (ifS (tst (op2 oGt (rd 1) (ret (.int 0)))) (retS (op2 oIx (ret (.str [35, 46, 97, 98])) (useU 0 m__law_take (argC (rd 1) argN)))) skip) (seqS (setS 2 (ret (.str T_1))) (retS (op2 oIx (rd 2) (useU 0 m__law_take (argC (op1 oLen (rd 2)) argN))))))
def m__law_sign : List D → DR := runU 3 .im b__law_sign
abbrev N__law_sign_K : List Str := ["pool", "few", "signs"]
def b__law_sign_K : SM := (seqS (ifS (tst (op2 oGt (rd 1) (ret (.int 0)))) (retS (op2 oIxS (ret (.str [35, 46, 97, 98])) (useU 0 m__law_take (argC (rd 1) argN)))) skip) (seqS (setS 2 (ret (.str T_1))) (retS (op2 oIxS (rd 2) (useU 0 m__law_take (argC (op1 oLen (rd 2)) argN))))))
def m__law_sign_K : List D → DR := runU 3 .im b__law_sign_K
abbrev N__law_side : List Str := ["pool", "most", "way"]
def b__law_side : SM := (seqS (setS 2 (useU 0 m__law_take (argC (ret (.int 4)) argN))) (seqS (ifS (tst (op2 oEq (rd 2) (ret (.int 0)))) (retS (rd 1)) skip) (seqS (ifS (tst (op2 oEq (rd 2) (ret (.int 1)))) (retS (op2 oAdd (ret (.int 1)) (useU 0 m__law_take (argC (rd 1) argN)))) skip) (retS (op2 oAdd (ret (.int 1)) (useU 0 m__law_take (argC (op2 oMin (rd 1) (ret (.int 6))) argN)))))))
def m__law_side : List D → DR := runU 3 .im b__law_side
abbrev N_is_table : List Str := ["thing", "row"]
def b_is_table : SM := (retS (andE (callF m_is_little (argC (rd 0) argN)) (op2 oEq (lcE [1] (iterM (rd 0)) (tgN 1) (tst (op2 (oIn false) (ret K_FREE) (rd 1))) (rd 1)) (lstE argN))))
def m_is_table : List D → DR := runF 2 .im b_is_table
abbrev N_need_little : List Str := ["little"]
def b_need_little : SM := (ifS (notM (tst (callF m_is_little (argC (rd 0) argN)))) (fun _ => .stuck) skip)
def m_need_little : List D → DR := runF 1 .im b_need_little
def b__law_table_1 : SM := (seqS (setS 9 (useU 0 m__law_sign (argC (rd 4) argN))) (seqS (ifS (andM (tst (op2 oGt (rd 3) (ret (.int 0)))) (tst (op2 oEq (useU 0 m__law_take (argC (rd 3) argN)) (ret (.int 0))))) (setS 9 (ret (.str [63]))) skip) (setS 7 (op2 oAdd (rd 7) (rd 9)))))
def b__law_table_2 : SM := (seqS (setS 7 (ret (.str []))) (seqS (forS (rng1M (rd 2)) (tgN 8) b__law_table_1) (exprS (mutM "list" 5 (argC (rd 7) argN) oAppend))))
abbrev N__law_table : List Str := ["pool", "rows", "columns", "free", "few", "found", "i", "row", "j", "sign"]
def b__law_table : SM := (seqS (setS 4 (op2 oIx (lstE (argC (ret (.int 0)) (argC (ret (.int 1)) (argC (ret (.int 2)) (argC (ret (.int 4)) argN))))) (useU 0 m__law_take (argC (ret (.int 4)) argN)))) (seqS (ownS 5 (lstE argN)) (seqS (forS (rng1M (rd 1)) (tgN 6) b__law_table_2) (retS (rd 5)))))
def m__law_table : List D → DR := runU 10 .im b__law_table
abbrev N_size_of : List Str := ["little"]
def b_size_of : SM := (seqS (exprS (callF m_need_little (argC (rd 0) argN))) (retS (tupE (argC (op1 oLen (rd 0)) (argC (op1 oLen (op2 oIx (rd 0) (ret (.int 0)))) argN)))))
def m_size_of : List D → DR := runF 1 .im b_size_of
abbrev N_how_many_free : List Str := ["little", "sign"]
def b_how_many_free : SM := (seqS (exprS (callF m_need_little (argC (rd 0) argN))) (retS (op1 oLen (lcE [1] (iterM (strM (ret (.str [])) (rd 0) oJoin)) (tgN 1) (tst (op2 oEq (rd 1) (ret K_FREE))) (rd 1)))))
def m_how_many_free : List D → DR := runF 2 .im b_how_many_free
def b_signs_counted_1 : SM := (killS [2] (ifS (tst (op2 oNe (rd 2) (ret K_FREE))) (killS [2] (stIx 1 (op2 oAdd (getE (look 1) (rd 2) (ret (.int 0))) (ret (.int 1))) (rd 2) oSetD)) skip))
abbrev N_signs_counted : List Str := ["little", "found", "sign"]
def b_signs_counted : SM := (seqS (exprS (callF m_need_little (argC (rd 0) argN))) (seqS (ownS 1 (ret (.dK []))) (seqS (killS [0] (forS (iterM (strM (ret (.str [])) (rd 0) oJoin)) (tgN 2) b_signs_counted_1)) (retS (rd 1)))))
def m_signs_counted : List D → DR := runF 3 .im b_signs_counted
def b__law_together_1 : SM := (seqS (setS 2 (callF m__law_added (argC (rd 2) (argC (callF m_signs_counted (argC (rd 4) argN)) argN)))) (killS [4] (setS 3 (op2 oAdd (rd 3) (callF m_how_many_free (argC (rd 4) argN))))))
abbrev N__law_together : List Str := ["parts", "whole", "counts", "free", "part"]
def b__law_together : SM := (seqS (setS 2 (ret (.dK []))) (seqS (setS 3 (ret (.int 0))) (seqS (killS [0] (forS (iterM (rd 0)) (tgN 4) b__law_together_1)) (retS (andE (op2 oEqK (callF m_signs_counted (argC (rd 1) argN)) (rd 2)) (op2 oEq (callF m_how_many_free (argC (rd 1) argN)) (rd 3)))))))
def m__law_together : List D → DR := runF 5 .im b__law_together
def b__law_alone_1 : SM := (killS [4] (ifS (orM (tst (op2 oNeK (callF m_signs_counted (argC (rd 4) argN)) (rd 2))) (orM (tst (op2 oNe (callF m_how_many_free (argC (rd 4) argN)) (rd 3))) (tst (op2 oNe (callF m_size_of (argC (rd 4) argN)) (tupE (argC (rd 7) (argC (rd 8) argN))))))) (retS (ret (.bl false))) skip))
abbrev N__law_alone : List Str := ["pool", "rows", "counts", "free", "other", "sign", "full", "many", "columns", "row"]
def b__law_alone : SM := (seqS (tgS (tgT 2 (tgCons (tgN 7) (tgCons (tgN 8) tgNil))) (callF m_size_of (argC (rd 1) argN))) (seqS (setS 2 (callF m_signs_counted (argC (rd 1) argN))) (seqS (setS 3 (callF m_how_many_free (argC (rd 1) argN))) (seqS (ifS (orM (tst (op2 oNe (op2 oAdd (rd 3) (op1 oSumV (rd 2))) (op2 oMulA (rd 7) (rd 8)))) (orM (notM (tst (callF m_is_little (argC (rd 1) argN)))) (tst (op2 oNe (callF m_is_table (argC (rd 1) argN)) (op2 oEq (rd 3) (ret (.int 0))))))) (retS (ret (.bl false))) skip) (seqS (killS [7, 8] (forS (iterM (lstE (argC (op1 oRev (rd 1)) (argC (lcE [9] (iterM (rd 1)) (tgN 9) (ret true) (op1 oRev (rd 9))) (argC (op2 oAdd (sl3 oSl (rd 1) (partM (ret (.int 1))) noP) (sl3 oSl (rd 1) noP (partM (ret (.int 1))))) argN))))) (tgN 4) b__law_alone_1)) (seqS (setS 5 (useU 0 m__law_sign_K (argC (ret (.int 0)) argN))) (seqS (setS 6 (lcE [9] (iterZ 1) (tgN 9) (ret true) (replV 5 [63] (rd 9)))) (seqS (ifS (orM (notM (tst (callF m_is_table (argC (rd 6) argN)))) (tst (op2 oNe (callF m_how_many_free (argC (rd 6) argN)) (ret (.int 0))))) (retS (ret (.bl false))) skip) (seqS (killS [1] (ifS (tst (op2 oEq (rd 3) (ret (.int 0)))) (retS (op2 oEq (rd 6) (rd 1))) skip)) (retS (op2 oEqK (callF m_signs_counted (argC (rd 6) argN)) (callF m__law_added (argC (rd 2) (argC (dispE (prC (rd 5) (rd 3) prN)) argN))))))))))))))
def m__law_alone : List D → DR := runU 10 .im b__law_alone
def e_law_1 : M D := (op2 oAdd (rd 10) (rd 11))
def b_law_2 : SM := (seqS (killS [7, 8] (setS 9 (lcE [10, 11] (zipA (rd 7) (rd 8)) (tgT 2 (tgCons (tgN 10) (tgCons (tgN 11) tgNil))) (ret true) e_law_1))) (killS [9] (ifS (orM (tst (op2 oNe (callF m_size_of (argC (rd 9) argN)) (tupE (argC (rd 3) (argC (op2 oAdd (op1 oLen (op2 oIx (rd 4) (ret (.int 0)))) (op1 oLen (op2 oIx (rd 5) (ret (.int 0))))) argN))))) (notM (tst (callF m__law_together (argC (lstE (argC (rd 4) (argC (rd 5) argN))) (argC (rd 9) argN)))))) (retS (ret (.bl false))) skip)))
def b_law_3 : SM := (seqS (killS [1] (ownS 2 (callF m__law_pool (argC (rd 0) (argC (rd 1) argN))))) (seqS (setS 3 (useU 2 m__law_side (argC (ret (.int 12)) argN))) (seqS (setS 4 (useU 2 m__law_table (argC (rd 3) (argC (useU 2 m__law_side (argC (ret (.int 6)) argN)) (argC (op2 oIx (lstE (argC (ret (.int 0)) (argC (ret (.int 9)) (argC (ret (.int 3)) (argC (ret (.int 1)) argN))))) (useU 2 m__law_take (argC (ret (.int 4)) argN))) argN))))) (seqS (setS 5 (useU 2 m__law_table (argC (rd 3) (argC (useU 2 m__law_side (argC (ret (.int 6)) argN)) (argC (op2 oIx (lstE (argC (ret (.int 0)) (argC (ret (.int 9)) (argC (ret (.int 3)) (argC (ret (.int 1)) argN))))) (useU 2 m__law_take (argC (ret (.int 4)) argN))) argN))))) (seqS (ifS (orM (notM (tst (useU 2 m__law_alone (argC (rd 4) argN)))) (notM (tst (useU 2 m__law_alone (argC (rd 5) argN))))) (retS (ret (.bl false))) skip) (seqS (killS [5] (forS (iterM (lstE (argC (tupE (argC (rd 4) (argC (rd 5) argN))) (argC (tupE (argC (rd 5) (argC (rd 4) argN))) argN)))) (tgT 2 (tgCons (tgN 7) (tgCons (tgN 8) tgNil))) b_law_2)) (seqS (killS [2] (setS 6 (useU 2 m__law_take (argC (rd 3) argN)))) (seqS (ifS (andM (tst (op2 oGt (rd 6) (ret (.int 0)))) (notM (tst (callF m__law_together (argC (lstE (argC (sl3 oSl (rd 4) noP (partM (rd 6))) (argC (sl3 oSl (rd 4) (partM (rd 6)) noP) argN))) (argC (rd 4) argN)))))) (retS (ret (.bl false))) skip) (killS [3, 4, 6] (ifS (andM (tst (op2 oGt (rd 6) (ret (.int 0)))) (tst (op2 oNe (op2 oAdd (op2 oIx (callF m_size_of (argC (sl3 oSl (rd 4) noP (partM (rd 6))) argN)) (ret (.int 0))) (op2 oIx (callF m_size_of (argC (sl3 oSl (rd 4) (partM (rd 6)) noP) argN)) (ret (.int 0)))) (rd 3)))) (retS (ret (.bl false))) skip))))))))))
abbrev N_law : List Str := ["script", "k", "pool", "many", "one", "other", "cut", "first", "second", "beside", "row", "more"]
def b_law : SM := (seqS (killS [0] (forS (rng1M (op2 oMax (ret (.int 1)) (op2 oMin (ret (.int 8)) (op1 oLen (rd 0))))) (tgN 1) b_law_3)) (retS (ret (.bl true))))
def m_law : List D → DR := runF 12 .im b_law
end
end Q

namespace Q
open PySem PySem.Spec PyProof.Rows L2 PL
def topS (i : Nat) : Stmt := PySem.Challenge.pw_tablefind_k04_whole_counts_of_tables.main.body.getD i (.Pass ⟨0, 0, 0, 0⟩)
section
variable {P : Program} {w : World} {K : PySem.W.Frag} {mg : Str → Option Value} {base : Heap}
structure Zs (mg : Str → Option Value) : Prop where
  dict : mg "dict" = none
  isinstance : mg "isinstance" = none
  len : mg "len" = none
  list : mg "list" = none
  max : mg "max" = none
  min : mg "min" = none
  ord : mg "ord" = none
  range : mg "range" = none
  str : mg "str" = none
  sum : mg "sum" = none
  zip : mg "zip" = none
structure Cs (g : Gc) : Prop where
  FREE : GC g "FREE" K_FREE
  PER_CENT : GC g "PER_CENT" K_PER_CENT
abbrev s_is_row : Stmt := topS 6
theorem sc_is_row : FnScope N_is_row ["thing"] (defScope s_is_row) := ⟨rfl, rfl, rfl, by decide +kernel, rfl, by decide +kernel, by decide +kernel⟩
set_option maxHeartbeats 1000000 in
theorem ok_is_row {f : Addr} {fd : FuncData} (T : FnT K mg "is_row" s_is_row ["thing"] f fd) (z : Zs mg) (c : Cs ⟨K, mg⟩) : Kn P w K mg base "is_row" ["thing"] f fd 1 (spF ⟨K, mg⟩ 1 .im m_is_row) := by
  have sc := sc_is_row
  exact ⟨T.g, T.F.kp, T.b, fn_F T.F sc_is_row (by decide) fun cdv A outer s H E hr => show JB _ _ _ (defBody s_is_row) (seqS (ifS (orM (notM (tst (op1 (oIsi "str") (rd 0)))) (tst (op2 oEq (rd 0) (ret (.str []))))) (retS (ret (.bl false))) skip) (retS (op2 oEq (lcE [1] (iterM (rd 0)) (tgN 1) (orM (notM (tst (chn oLe oLe (ret (.str [33])) (rd 1) (ret (.str [126]))))) (tst (op2 oEq (op1 oOrd (rd 1)) (ret K_PER_CENT)))) (rd 1)) (lstE argN)))) from
    (jb_cons (js_if (jt_w (jw_or (jt_not (jt_val (je_isi isi_str rfl z.isinstance (by decide +kernel) rfl z.str (by decide +kernel) (je_rd 0)))) (jw_or1 (jt_cmp (op_eqAll hr.units) o2_eq (je_rd 0) (je_str (l := [])))))) (jb_one (js_ret je_bl)) jb_nil) (jb_one (js_ret (je_cmp (op_eqAll hr.units) o2_eq (je_lc rfl sc.nd (own := [("sign", 1)]) (ji_val (je_rd 0)) (blkOk_by (own := [("sign", 1)]) (N := N_is_row) (sc := (defScope s_is_row)) (by decide +kernel)) (fun _ _ _ _ _ => (jg_name 1 sc.nd)) (fun _ _ _ _ _ => (jts_one (jt_w (jw_or (jt_not (jt_chain op_leA o2_le op_leA o2_le (je_str (l := [33])) (je_rd 1) (je_str (l := [126])))) (jw_or1 (jt_cmp (op_eqAll hr.units) o2_eq (je_b1 call_ord fn_ord rfl z.ord (by decide +kernel) (je_rd 1)) (je_glob c.PER_CENT))))))) (fun _ _ _ _ _ => (je_rd 1))) (je_lst ja_nil)))))⟩
abbrev s__law_pool : Stmt := topS 14
theorem sc__law_pool : FnScope N__law_pool ["script", "k"] (defScope s__law_pool) := ⟨rfl, rfl, rfl, by decide +kernel, rfl, by decide +kernel, by decide +kernel⟩
set_option maxHeartbeats 1000000 in
theorem ok__law_pool {f : Addr} {fd : FuncData} (T : FnT K mg "_law_pool" s__law_pool ["script", "k"] f fd) (z : Zs mg) : Kn P w K mg base "_law_pool" ["script", "k"] f fd 1 (spF ⟨K, mg⟩ 2 .fr m__law_pool) := by
  have sc := sc__law_pool
  exact ⟨T.g, T.F.kp, T.b, fn_F T.F sc__law_pool (by decide) fun cdv A outer s H E hr => show JB _ _ _ (defBody s__law_pool) (seqS (setS 2 (ret (.int 0))) (seqS (ifS (tst (op2 oLt (rd 1) (op1 oLen (rd 0)))) (setS 2 (op2 oIx (rd 0) (rd 1))) skip) (seqS (ifS (tst (op2 oGe (rd 2) (op2 oPow (ret (.int 10)) (ret (.int 18))))) (retS (lstE (argC (op2 oSub (rd 2) (op2 oPow (ret (.int 10)) (ret (.int 18)))) (argC (ret (.int 1)) (argC (ret (.int 0)) argN))))) skip) (retS (lstE (argC (rd 2) (argC (ret (.int 0)) (argC (op2 oMulA (ret (.int 67)) (rd 1)) argN)))))))) from
    (jb_cons (js_set 2 sc.nd je_int) (jb_cons (js_if (jt_cmp op_ltA o2_lt (je_rd 1) (je_b1 call_lenA fn_len rfl z.len (by decide +kernel) (je_rd 0))) (jb_one (js_set 2 sc.nd (je_ix (je_rd 0) (je_rd 1)))) jb_nil) (jb_cons (js_if (jt_cmp op_geA o2_ge (je_rd 2) (je_op op_pow o2_pow je_int je_int)) (jb_one (js_ret (je_lst (ja_cons (je_op op_sub o2_sub (je_rd 2) (je_op op_pow o2_pow je_int je_int)) (ja_cons je_int (ja_cons je_int ja_nil)))))) jb_nil) (jb_one (js_ret (je_lst (ja_cons (je_rd 2) (ja_cons je_int (ja_cons (je_op op_mulAll o2_mulA je_int (je_rd 1)) ja_nil)))))))))⟩
abbrev s__law_take : Stmt := topS 15
theorem sc__law_take : FnScope N__law_take ["pool", "many"] (defScope s__law_take) := ⟨rfl, rfl, rfl, by decide +kernel, rfl, by decide +kernel, by decide +kernel⟩
set_option maxHeartbeats 1000000 in
theorem ok__law_take {f : Addr} {fd : FuncData} (T : FnT K mg "_law_take" s__law_take ["pool", "many"] f fd) : Kn P w K mg base "_law_take" ["pool", "many"] f fd 1 (spU ⟨K, mg⟩ 2 .im m__law_take) := by
  have sc := sc__law_take
  exact ⟨T.g, T.F.kp, T.b, fn_U T.F sc__law_take (by decide) (by decide) fun cdv A outer s H E hr => show JB _ _ _ (defBody s__law_take) (seqS (ifS (tst (op2 oEq (op2 oIx (look 0) (ret (.int 1))) (ret (.int 1)))) (seqS (setS 4 (op2 oMod (op2 oIx (look 0) (ret (.int 0))) (rd 1))) (seqS (stIx 0 (op2 oDiv (op2 oIx (look 0) (ret (.int 0))) (rd 1)) (ret (.int 0)) oSetIx) (retS (rd 4)))) skip) (seqS (stIx 0 (op2 oAdd (op2 oIx (look 0) (ret (.int 2))) (ret (.int 1))) (ret (.int 2)) oSetIx) (seqS (setS 2 (op2 oIx (look 0) (ret (.int 2)))) (seqS (setS 3 (op2 oMulA (op2 oAdd (op2 oMod (op2 oIx (look 0) (ret (.int 0))) (ret (.int 9999999491))) (ret (.int 1033))) (op2 oAdd (op2 oMulA (ret (.int 59)) (rd 2)) (ret (.int 89))))) (seqS (setS 3 (op2 oAdd (rd 3) (op2 oMulA (op2 oMulA (ret (.int 3613)) (rd 2)) (rd 2)))) (seqS (setS 3 (op2 oMod (op2 oMulA (rd 3) (rd 3)) (ret (.int 99999999559)))) (retS (op2 oMod (op2 oDiv (op2 oMod (op2 oMulA (rd 3) (op2 oAdd (rd 3) (ret (.int 71)))) (ret (.int 99999999839))) (ret (.int 127))) (rd 1))))))))) from
    (jb_cons (js_if (jt_cmp (op_eqAll hr.units) o2_eq (je_ix (je_look 0) je_int) je_int) (jb_cons (js_set 4 sc.nd (je_op op_mod o2_mod (je_ix (je_look 0) je_int) (je_rd 1))) (jb_cons (js_ix 0 (je_op op_fdivW o2_div (je_ix (je_look 0) je_int) (je_rd 1)) je_int) (jb_one (js_ret (je_rd 4))))) jb_nil) (jb_cons (js_ix 0 (je_op op_addAll (o2_add rfl) (je_ix (je_look 0) je_int) je_int) je_int) (jb_cons (js_set 2 sc.nd (je_ix (je_look 0) je_int)) (jb_cons (js_set 3 sc.nd (je_op op_mulAll o2_mulA (je_op op_addAll (o2_add rfl) (je_op op_mod o2_mod (je_ix (je_look 0) je_int) je_int) je_int) (je_op op_addAll (o2_add rfl) (je_op op_mulAll o2_mulA je_int (je_rd 2)) je_int))) (jb_cons (js_set 3 sc.nd (je_op op_addAll (o2_add rfl) (je_rd 3) (je_op op_mulAll o2_mulA (je_op op_mulAll o2_mulA je_int (je_rd 2)) (je_rd 2)))) (jb_cons (js_set 3 sc.nd (je_op op_mod o2_mod (je_op op_mulAll o2_mulA (je_rd 3) (je_rd 3)) je_int)) (jb_one (js_ret (je_op op_mod o2_mod (je_op op_fdivW o2_div (je_op op_mod o2_mod (je_op op_mulAll o2_mulA (je_rd 3) (je_op op_addAll (o2_add rfl) (je_rd 3) je_int)) je_int) je_int) (je_rd 1))))))))))⟩
abbrev s__law_added : Stmt := topS 20
theorem sc__law_added : FnScope N__law_added ["one", "other"] (defScope s__law_added) := ⟨rfl, rfl, rfl, by decide +kernel, rfl, by decide +kernel, by decide +kernel⟩
set_option maxHeartbeats 1000000 in
theorem ok__law_added {f : Addr} {fd : FuncData} (T : FnT K mg "_law_added" s__law_added ["one", "other"] f fd) (z : Zs mg) : Kn P w K mg base "_law_added" ["one", "other"] f fd 1 (spF ⟨K, mg⟩ 2 .im m__law_added) := by
  have sc := sc__law_added
  exact ⟨T.g, T.F.kp, T.b, fn_F T.F sc__law_added (by decide) fun cdv A outer s H E hr => show JB _ _ _ (defBody s__law_added) (seqS (killS [0] (ownS 2 (op1 oDictD (rd 0)))) (seqS (lckI 1 (forS (iterK (rd 1)) (tgN 3) b__law_added_1)) (retS (rd 2)))) from
    (jb_cons (js_kill [0] (js_own 2 sc.nd (je_t1 call_dictD (fn_dictD (k := .fr) (by decide)) rfl z.dict (by decide +kernel) (je_rd 0)))) (jb_cons (js_lckI 1 (js_for (passes_of rfl) rfl (ji_keys (je_rd 1)) (jg_name 3 sc.nd) (jb_one (js_kill [3] (js_dix 2 (u1 hr) (je_op op_addAll (o2_add rfl) (je_dget2 (u1 hr) (je_look 2) (je_rd 3) je_int) (je_dixA (u1 hr) (je_rd 1) (je_rd 3))) (je_rd 3)))))) (jb_one (js_ret (je_rd 2)))))⟩
abbrev s_is_little : Stmt := topS 7
theorem sc_is_little : FnScope N_is_little ["thing"] (defScope s_is_little) := ⟨rfl, rfl, rfl, by decide +kernel, rfl, by decide +kernel, by decide +kernel⟩
set_option maxHeartbeats 1000000 in
theorem ok_is_little {f : Addr} {fd : FuncData} (T : FnT K mg "is_little" s_is_little ["thing"] f fd) (z : Zs mg) {f_is_row : Addr} {d_is_row : FuncData} (C_is_row : Kn P w K mg base "is_row" ["thing"] f_is_row d_is_row 1 (spF ⟨K, mg⟩ 1 .im m_is_row)) : Kn P w K mg base "is_little" ["thing"] f fd 2 (spF ⟨K, mg⟩ 1 .im m_is_little) := by
  have sc := sc_is_little
  exact ⟨T.g, T.F.kp, T.b, fn_F T.F sc_is_little (by decide) fun cdv A outer s H E hr => show JB _ _ _ (defBody s_is_little) (seqS (ifS (orM (notM (tst (op1 (oIsi "list") (rd 0)))) (tst (op2 oEq (rd 0) (lstE argN)))) (retS (ret (.bl false))) skip) (seqS (ifS (tst (op2 oNe (lcE [1] (iterM (rd 0)) (tgN 1) (notM (tst (callF m_is_row (argC (rd 1) argN)))) (rd 1)) (lstE argN))) (retS (ret (.bl false))) skip) (retS (op2 oEq (lcE [1] (iterM (rd 0)) (tgN 1) (tst (op2 oNe (op1 oLen (rd 1)) (op1 oLen (op2 oIx (rd 0) (ret (.int 0)))))) (rd 1)) (lstE argN))))) from
    (jb_cons (js_if (jt_w (jw_or (jt_not (jt_val (je_isi isi_list rfl z.isinstance (by decide +kernel) rfl z.list (by decide +kernel) (je_rd 0)))) (jw_or1 (jt_cmp (op_eqAll hr.units) o2_eq (je_rd 0) (je_lst ja_nil))))) (jb_one (js_ret je_bl)) jb_nil) (jb_cons (js_if (jt_cmp (op_neAll hr.units) o2_ne (je_lc rfl sc.nd (own := [("row", 1)]) (ji_val (je_rd 0)) (blkOk_by (own := [("row", 1)]) (N := N_is_little) (sc := (defScope s_is_little)) (by decide +kernel)) (fun _ _ _ _ _ => (jg_name 1 sc.nd)) (fun _ _ _ _ _ => (jts_one (jt_not (jt_val (je_call (argC_len argN_len) C_is_row.ok (hr.mono (by decide)) C_is_row.g C_is_row.kp C_is_row.b takes0 (ja_cons (je_rd 1) ja_nil)))))) (fun _ _ _ _ _ => (je_rd 1))) (je_lst ja_nil)) (jb_one (js_ret je_bl)) jb_nil) (jb_one (js_ret (je_cmp (op_eqAll hr.units) o2_eq (je_lc rfl sc.nd (own := [("row", 1)]) (ji_val (je_rd 0)) (blkOk_by (own := [("row", 1)]) (N := N_is_little) (sc := (defScope s_is_little)) (by decide +kernel)) (fun _ _ _ _ _ => (jg_name 1 sc.nd)) (fun _ _ _ _ _ => (jts_one (jt_cmp (op_neAll hr.units) o2_ne (je_b1 call_lenA fn_len rfl z.len (by decide +kernel) (je_rd 1)) (je_b1 call_lenA fn_len rfl z.len (by decide +kernel) (je_ix (je_rd 0) je_int))))) (fun _ _ _ _ _ => (je_rd 1))) (je_lst ja_nil))))))⟩
abbrev s__law_sign : Stmt := topS 16
theorem sc__law_sign : FnScope N__law_sign ["pool", "few"] (defScope s__law_sign) := ⟨rfl, rfl, rfl, by decide +kernel, rfl, by decide +kernel, by decide +kernel⟩
set_option maxHeartbeats 1000000 in
theorem ok__law_sign {f : Addr} {fd : FuncData} (T : FnT K mg "_law_sign" s__law_sign ["pool", "few"] f fd) (z : Zs mg) {f__law_take : Addr} {d__law_take : FuncData} (C__law_take : Kn P w K mg base "_law_take" ["pool", "many"] f__law_take d__law_take 1 (spU ⟨K, mg⟩ 2 .im m__law_take)) : Kn P w K mg base "_law_sign" ["pool", "few"] f fd 2 (spU ⟨K, mg⟩ 2 .im m__law_sign) := by
  have sc := sc__law_sign
  exact ⟨T.g, T.F.kp, T.b, fn_U T.F sc__law_sign (by decide) (by decide) fun cdv A outer s H E hr => show JB _ _ _ (defBody s__law_sign) (seqS (ifS (tst (op2 oGt (rd 1) (ret (.int 0)))) (retS (op2 oIx (ret (.str [35, 46, 97, 98])) (useU 0 m__law_take (argC (rd 1) argN)))) skip) (seqS (setS 2 (ret (.str T_1))) (retS (op2 oIx (rd 2) (useU 0 m__law_take (argC (op1 oLen (rd 2)) argN)))))) from
    (jb_cons (js_if (jt_cmp op_gtA o2_gt (je_rd 1) je_int) (jb_one (js_ret (je_ix (je_str (l := [35, 46, 97, 98])) (je_callU 0 (argC_len argN_len) (by decide) C__law_take.ok (hr.mono (by decide)) C__law_take.g C__law_take.kp C__law_take.b (takes_of rfl rfl rfl rfl) (ja_cons (je_rd 1) ja_nil))))) jb_nil) (jb_cons (js_set 2 sc.nd (je_str (l := T_1))) (jb_one (js_ret (je_ix (je_rd 2) (je_callU 0 (argC_len argN_len) (by decide) C__law_take.ok (hr.mono (by decide)) C__law_take.g C__law_take.kp C__law_take.b (takes_of rfl rfl rfl rfl) (ja_cons (je_b1 call_lenA fn_len rfl z.len (by decide +kernel) (je_rd 2)) ja_nil)))))))⟩
abbrev s__law_sign_K : Stmt := topS 16
theorem sc__law_sign_K : FnScope N__law_sign_K ["pool", "few"] (defScope s__law_sign_K) := ⟨rfl, rfl, rfl, by decide +kernel, rfl, by decide +kernel, by decide +kernel⟩
set_option maxHeartbeats 1000000 in
theorem ok__law_sign_K {f : Addr} {fd : FuncData} (T : FnT K mg "_law_sign" s__law_sign_K ["pool", "few"] f fd) (z : Zs mg) {f__law_take : Addr} {d__law_take : FuncData} (C__law_take : Kn P w K mg base "_law_take" ["pool", "many"] f__law_take d__law_take 1 (spU ⟨K, mg⟩ 2 .im m__law_take)) : KnK P w K mg base "_law_sign" ["pool", "few"] f fd 2 (spU ⟨K, mg⟩ 2 .im m__law_sign_K) := by
  have sc := sc__law_sign_K
  exact ⟨T.g, T.F.kp, T.b, fn_UK T.F sc__law_sign_K (by decide) fun cdv A outer s H E hr => show JBK _ _ _ (defBody s__law_sign_K) (seqS (ifS (tst (op2 oGt (rd 1) (ret (.int 0)))) (retS (op2 oIxS (ret (.str [35, 46, 97, 98])) (useU 0 m__law_take (argC (rd 1) argN)))) skip) (seqS (setS 2 (ret (.str T_1))) (retS (op2 oIxS (rd 2) (useU 0 m__law_take (argC (op1 oLen (rd 2)) argN)))))) from
    (jbk_cons (jsk_if (jt_cmp op_gtA o2_gt (je_rd 1) je_int) (jbk_one (jsk_retIx (je_str (l := [35, 46, 97, 98])) (je_callU 0 (argC_len argN_len) (by decide) C__law_take.ok (hr.mono (by decide)) C__law_take.g C__law_take.kp C__law_take.b (takes_of rfl rfl rfl rfl) (ja_cons (je_rd 1) ja_nil)))) jbk_nil) (jbk_cons (jsk_set 2 sc.nd (je_str (l := T_1))) (jbk_one (jsk_retIx (je_rd 2) (je_callU 0 (argC_len argN_len) (by decide) C__law_take.ok (hr.mono (by decide)) C__law_take.g C__law_take.kp C__law_take.b (takes_of rfl rfl rfl rfl) (ja_cons (je_b1 call_lenA fn_len rfl z.len (by decide +kernel) (je_rd 2)) ja_nil))))))⟩
abbrev s__law_side : Stmt := topS 17
theorem sc__law_side : FnScope N__law_side ["pool", "most"] (defScope s__law_side) := ⟨rfl, rfl, rfl, by decide +kernel, rfl, by decide +kernel, by decide +kernel⟩
set_option maxHeartbeats 1000000 in
theorem ok__law_side {f : Addr} {fd : FuncData} (T : FnT K mg "_law_side" s__law_side ["pool", "most"] f fd) (z : Zs mg) {f__law_take : Addr} {d__law_take : FuncData} (C__law_take : Kn P w K mg base "_law_take" ["pool", "many"] f__law_take d__law_take 1 (spU ⟨K, mg⟩ 2 .im m__law_take)) : Kn P w K mg base "_law_side" ["pool", "most"] f fd 2 (spU ⟨K, mg⟩ 2 .im m__law_side) := by
  have sc := sc__law_side
  exact ⟨T.g, T.F.kp, T.b, fn_U T.F sc__law_side (by decide) (by decide) fun cdv A outer s H E hr => show JB _ _ _ (defBody s__law_side) (seqS (setS 2 (useU 0 m__law_take (argC (ret (.int 4)) argN))) (seqS (ifS (tst (op2 oEq (rd 2) (ret (.int 0)))) (retS (rd 1)) skip) (seqS (ifS (tst (op2 oEq (rd 2) (ret (.int 1)))) (retS (op2 oAdd (ret (.int 1)) (useU 0 m__law_take (argC (rd 1) argN)))) skip) (retS (op2 oAdd (ret (.int 1)) (useU 0 m__law_take (argC (op2 oMin (rd 1) (ret (.int 6))) argN))))))) from
    (jb_cons (js_set 2 sc.nd (je_callU 0 (argC_len argN_len) (by decide) C__law_take.ok (hr.mono (by decide)) C__law_take.g C__law_take.kp C__law_take.b (takes_of rfl rfl rfl rfl) (ja_cons je_int ja_nil))) (jb_cons (js_if (jt_cmp (op_eqAll hr.units) o2_eq (je_rd 2) je_int) (jb_one (js_ret (je_rd 1))) jb_nil) (jb_cons (js_if (jt_cmp (op_eqAll hr.units) o2_eq (je_rd 2) je_int) (jb_one (js_ret (je_op op_addAll (o2_add rfl) je_int (je_callU 0 (argC_len argN_len) (by decide) C__law_take.ok (hr.mono (by decide)) C__law_take.g C__law_take.kp C__law_take.b (takes_of rfl rfl rfl rfl) (ja_cons (je_rd 1) ja_nil))))) jb_nil) (jb_one (js_ret (je_op op_addAll (o2_add rfl) je_int (je_callU 0 (argC_len argN_len) (by decide) C__law_take.ok (hr.mono (by decide)) C__law_take.g C__law_take.kp C__law_take.b (takes_of rfl rfl rfl rfl) (ja_cons (je_b2 (call_min2 rfl) fn_min rfl z.min (by decide +kernel) (je_rd 1) je_int) ja_nil))))))))⟩
abbrev s_is_table : Stmt := topS 8
theorem sc_is_table : FnScope N_is_table ["thing"] (defScope s_is_table) := ⟨rfl, rfl, rfl, by decide +kernel, rfl, by decide +kernel, by decide +kernel⟩
set_option maxHeartbeats 1000000 in
theorem ok_is_table {f : Addr} {fd : FuncData} (T : FnT K mg "is_table" s_is_table ["thing"] f fd) (c : Cs ⟨K, mg⟩) {f_is_little : Addr} {d_is_little : FuncData} (C_is_little : Kn P w K mg base "is_little" ["thing"] f_is_little d_is_little 2 (spF ⟨K, mg⟩ 1 .im m_is_little)) : Kn P w K mg base "is_table" ["thing"] f fd 3 (spF ⟨K, mg⟩ 1 .im m_is_table) := by
  have sc := sc_is_table
  exact ⟨T.g, T.F.kp, T.b, fn_F T.F sc_is_table (by decide) fun cdv A outer s H E hr => show JB _ _ _ (defBody s_is_table) (retS (andE (callF m_is_little (argC (rd 0) argN)) (op2 oEq (lcE [1] (iterM (rd 0)) (tgN 1) (tst (op2 (oIn false) (ret K_FREE) (rd 1))) (rd 1)) (lstE argN)))) from
    (jb_one (js_ret (je_and (je_call (argC_len argN_len) C_is_little.ok (hr.mono (by decide)) C_is_little.g C_is_little.kp C_is_little.b (takes_of rfl rfl rfl rfl) (ja_cons (je_rd 0) ja_nil)) (je_one (je_cmp (op_eqAll hr.units) o2_eq (je_lc rfl sc.nd (own := [("row", 1)]) (ji_val (je_rd 0)) (blkOk_by (own := [("row", 1)]) (N := N_is_table) (sc := (defScope s_is_table)) (by decide +kernel)) (fun _ _ _ _ _ => (jg_name 1 sc.nd)) (fun _ _ _ _ _ => (jts_one (jt_cmp (op_inAll (u65 hr)) o2_in (je_glob c.FREE) (je_rd 1)))) (fun _ _ _ _ _ => (je_rd 1))) (je_lst ja_nil))))))⟩
abbrev s_need_little : Stmt := topS 9
theorem sc_need_little : FnScope N_need_little ["little"] (defScope s_need_little) := ⟨rfl, rfl, rfl, by decide +kernel, rfl, by decide +kernel, by decide +kernel⟩
set_option maxHeartbeats 1000000 in
theorem ok_need_little {f : Addr} {fd : FuncData} (T : FnT K mg "need_little" s_need_little ["little"] f fd) {f_is_little : Addr} {d_is_little : FuncData} (C_is_little : Kn P w K mg base "is_little" ["thing"] f_is_little d_is_little 2 (spF ⟨K, mg⟩ 1 .im m_is_little)) : Kn P w K mg base "need_little" ["little"] f fd 3 (spF ⟨K, mg⟩ 1 .im m_need_little) := by
  have sc := sc_need_little
  exact ⟨T.g, T.F.kp, T.b, fn_F T.F sc_need_little (by decide) fun cdv A outer s H E hr => show JB _ _ _ (defBody s_need_little) (ifS (notM (tst (callF m_is_little (argC (rd 0) argN)))) (fun _ => .stuck) skip) from
    (jb_one (js_if (jt_not (jt_val (je_call (argC_len argN_len) C_is_little.ok (hr.mono (by decide)) C_is_little.g C_is_little.kp C_is_little.b (takes_of rfl rfl rfl rfl) (ja_cons (je_rd 0) ja_nil)))) (jb_one js_never) jb_nil))⟩
abbrev s__law_table : Stmt := topS 18
theorem sc__law_table : FnScope N__law_table ["pool", "rows", "columns", "free"] (defScope s__law_table) := ⟨rfl, rfl, rfl, by decide +kernel, rfl, by decide +kernel, by decide +kernel⟩
set_option maxHeartbeats 1000000 in
theorem ok__law_table {f : Addr} {fd : FuncData} (T : FnT K mg "_law_table" s__law_table ["pool", "rows", "columns", "free"] f fd) (z : Zs mg) {f__law_take : Addr} {d__law_take : FuncData} (C__law_take : Kn P w K mg base "_law_take" ["pool", "many"] f__law_take d__law_take 1 (spU ⟨K, mg⟩ 2 .im m__law_take)) {f__law_sign : Addr} {d__law_sign : FuncData} (C__law_sign : Kn P w K mg base "_law_sign" ["pool", "few"] f__law_sign d__law_sign 2 (spU ⟨K, mg⟩ 2 .im m__law_sign)) : Kn P w K mg base "_law_table" ["pool", "rows", "columns", "free"] f fd 3 (spU ⟨K, mg⟩ 4 .im m__law_table) := by
  have sc := sc__law_table
  exact ⟨T.g, T.F.kp, T.b, fn_U T.F sc__law_table (by decide) (by decide) fun cdv A outer s H E hr => show JB _ _ _ (defBody s__law_table) (seqS (setS 4 (op2 oIx (lstE (argC (ret (.int 0)) (argC (ret (.int 1)) (argC (ret (.int 2)) (argC (ret (.int 4)) argN))))) (useU 0 m__law_take (argC (ret (.int 4)) argN)))) (seqS (ownS 5 (lstE argN)) (seqS (forS (rng1M (rd 1)) (tgN 6) b__law_table_2) (retS (rd 5))))) from
    (jb_cons (js_set 4 sc.nd (je_ix (je_lst (ja_cons je_int (ja_cons je_int (ja_cons je_int (ja_cons je_int ja_nil))))) (je_callU 0 (argC_len argN_len) (by decide) C__law_take.ok (hr.mono (by decide)) C__law_take.g C__law_take.kp C__law_take.b (takes_of rfl rfl rfl rfl) (ja_cons je_int ja_nil)))) (jb_cons (js_own 5 sc.nd (je_lst ja_nil)) (jb_cons (js_for (passes_of rfl) rfl (ji_range1 rfl z.range (je_rd 1)) (jg_name 6 sc.nd) (jb_cons (js_set 7 sc.nd (je_str (l := []))) (jb_cons (js_for (passes_of rfl) rfl (ji_range1 rfl z.range (je_rd 2)) (jg_name 8 sc.nd) (jb_cons (js_set 9 sc.nd (je_callU 0 (argC_len argN_len) (by decide) C__law_sign.ok (hr.mono (by decide)) C__law_sign.g C__law_sign.kp C__law_sign.b (takes_of rfl rfl rfl rfl) (ja_cons (je_rd 4) ja_nil))) (jb_cons (js_if (jt_w (jw_and (jt_cmp op_gtA o2_gt (je_rd 3) je_int) (jw_and1 (jt_cmp (op_eqAll hr.units) o2_eq (je_callU 0 (argC_len argN_len) (by decide) C__law_take.ok (hr.mono (by decide)) C__law_take.g C__law_take.kp C__law_take.b (takes_of rfl rfl rfl rfl) (ja_cons (je_rd 3) ja_nil)) je_int)))) (jb_one (js_set 9 sc.nd (je_str (l := [63])))) jb_nil) (jb_one (js_set 7 sc.nd (je_op op_addAll (o2_add rfl) (je_rd 7) (je_rd 9))))))) (jb_one (js_expr (je_mut 5 PySem.F.plainAttrs_list PySem.F.slot_list_append PySem.F.type_list_append mt_append mo_append (ja_cons (je_rd 7) ja_nil))))))) (jb_one (js_ret (je_rd 5))))))⟩
abbrev s_size_of : Stmt := topS 10
theorem sc_size_of : FnScope N_size_of ["little"] (defScope s_size_of) := ⟨rfl, rfl, rfl, by decide +kernel, rfl, by decide +kernel, by decide +kernel⟩
set_option maxHeartbeats 1000000 in
theorem ok_size_of {f : Addr} {fd : FuncData} (T : FnT K mg "size_of" s_size_of ["little"] f fd) (z : Zs mg) {f_need_little : Addr} {d_need_little : FuncData} (C_need_little : Kn P w K mg base "need_little" ["little"] f_need_little d_need_little 3 (spF ⟨K, mg⟩ 1 .im m_need_little)) : Kn P w K mg base "size_of" ["little"] f fd 4 (spF ⟨K, mg⟩ 1 .im m_size_of) := by
  have sc := sc_size_of
  exact ⟨T.g, T.F.kp, T.b, fn_F T.F sc_size_of (by decide) fun cdv A outer s H E hr => show JB _ _ _ (defBody s_size_of) (seqS (exprS (callF m_need_little (argC (rd 0) argN))) (retS (tupE (argC (op1 oLen (rd 0)) (argC (op1 oLen (op2 oIx (rd 0) (ret (.int 0)))) argN))))) from
    (jb_cons (js_expr (je_call (argC_len argN_len) C_need_little.ok (hr.mono (by decide)) C_need_little.g C_need_little.kp C_need_little.b (takes_of rfl rfl rfl rfl) (ja_cons (je_rd 0) ja_nil))) (jb_one (js_ret (je_tup (ja_cons (je_b1 call_lenA fn_len rfl z.len (by decide +kernel) (je_rd 0)) (ja_cons (je_b1 call_lenA fn_len rfl z.len (by decide +kernel) (je_ix (je_rd 0) je_int)) ja_nil))))))⟩
abbrev s_how_many_free : Stmt := topS 11
theorem sc_how_many_free : FnScope N_how_many_free ["little"] (defScope s_how_many_free) := ⟨rfl, rfl, rfl, by decide +kernel, rfl, by decide +kernel, by decide +kernel⟩
set_option maxHeartbeats 1000000 in
theorem ok_how_many_free {f : Addr} {fd : FuncData} (T : FnT K mg "how_many_free" s_how_many_free ["little"] f fd) (z : Zs mg) (c : Cs ⟨K, mg⟩) {f_need_little : Addr} {d_need_little : FuncData} (C_need_little : Kn P w K mg base "need_little" ["little"] f_need_little d_need_little 3 (spF ⟨K, mg⟩ 1 .im m_need_little)) : Kn P w K mg base "how_many_free" ["little"] f fd 4 (spF ⟨K, mg⟩ 1 .im m_how_many_free) := by
  have sc := sc_how_many_free
  exact ⟨T.g, T.F.kp, T.b, fn_F T.F sc_how_many_free (by decide) fun cdv A outer s H E hr => show JB _ _ _ (defBody s_how_many_free) (seqS (exprS (callF m_need_little (argC (rd 0) argN))) (retS (op1 oLen (lcE [1] (iterM (strM (ret (.str [])) (rd 0) oJoin)) (tgN 1) (tst (op2 oEq (rd 1) (ret K_FREE))) (rd 1))))) from
    (jb_cons (js_expr (je_call (argC_len argN_len) C_need_little.ok (hr.mono (by decide)) C_need_little.g C_need_little.kp C_need_little.b (takes_of rfl rfl rfl rfl) (ja_cons (je_rd 0) ja_nil))) (jb_one (js_ret (je_b1 call_lenA fn_len rfl z.len (by decide +kernel) (je_lc rfl sc.nd (own := [("sign", 1)]) (ji_val (je_join (je_str (l := [])) (je_rd 0))) (blkOk_by (own := [("sign", 1)]) (N := N_how_many_free) (sc := (defScope s_how_many_free)) (by decide +kernel)) (fun _ _ _ _ _ => (jg_name 1 sc.nd)) (fun _ _ _ _ _ => (jts_one (jt_cmp (op_eqAll hr.units) o2_eq (je_rd 1) (je_glob c.FREE)))) (fun _ _ _ _ _ => (je_rd 1)))))))⟩
abbrev s_signs_counted : Stmt := topS 12
theorem sc_signs_counted : FnScope N_signs_counted ["little"] (defScope s_signs_counted) := ⟨rfl, rfl, rfl, by decide +kernel, rfl, by decide +kernel, by decide +kernel⟩
set_option maxHeartbeats 1000000 in
theorem ok_signs_counted {f : Addr} {fd : FuncData} (T : FnT K mg "signs_counted" s_signs_counted ["little"] f fd) (c : Cs ⟨K, mg⟩) {f_need_little : Addr} {d_need_little : FuncData} (C_need_little : Kn P w K mg base "need_little" ["little"] f_need_little d_need_little 3 (spF ⟨K, mg⟩ 1 .im m_need_little)) : Kn P w K mg base "signs_counted" ["little"] f fd 4 (spF ⟨K, mg⟩ 1 .im m_signs_counted) := by
  have sc := sc_signs_counted
  exact ⟨T.g, T.F.kp, T.b, fn_F T.F sc_signs_counted (by decide) fun cdv A outer s H E hr => show JB _ _ _ (defBody s_signs_counted) (seqS (exprS (callF m_need_little (argC (rd 0) argN))) (seqS (ownS 1 (ret (.dK []))) (seqS (killS [0] (forS (iterM (strM (ret (.str [])) (rd 0) oJoin)) (tgN 2) b_signs_counted_1)) (retS (rd 1))))) from
    (jb_cons (js_expr (je_call (argC_len argN_len) C_need_little.ok (hr.mono (by decide)) C_need_little.g C_need_little.kp C_need_little.b (takes_of rfl rfl rfl rfl) (ja_cons (je_rd 0) ja_nil))) (jb_cons (js_own 1 sc.nd je_dict0) (jb_cons (js_kill [0] (js_for (passes_of rfl) rfl (ji_val (je_join (je_str (l := [])) (je_rd 0))) (jg_name 2 sc.nd) (jb_one (js_kill [2] (js_if (jt_cmp (op_neAll hr.units) o2_ne (je_rd 2) (je_glob c.FREE)) (jb_one (js_kill [2] (js_dix 1 (u1 hr) (je_op op_addAll (o2_add rfl) (je_dget2 (u1 hr) (je_look 1) (je_rd 2) je_int) je_int) (je_rd 2)))) jb_nil))))) (jb_one (js_ret (je_rd 1))))))⟩
abbrev s__law_together : Stmt := topS 21
theorem sc__law_together : FnScope N__law_together ["parts", "whole"] (defScope s__law_together) := ⟨rfl, rfl, rfl, by decide +kernel, rfl, by decide +kernel, by decide +kernel⟩
set_option maxHeartbeats 1000000 in
theorem ok__law_together {f : Addr} {fd : FuncData} (T : FnT K mg "_law_together" s__law_together ["parts", "whole"] f fd) {f_how_many_free : Addr} {d_how_many_free : FuncData} (C_how_many_free : Kn P w K mg base "how_many_free" ["little"] f_how_many_free d_how_many_free 4 (spF ⟨K, mg⟩ 1 .im m_how_many_free)) {f_signs_counted : Addr} {d_signs_counted : FuncData} (C_signs_counted : Kn P w K mg base "signs_counted" ["little"] f_signs_counted d_signs_counted 4 (spF ⟨K, mg⟩ 1 .im m_signs_counted)) {f__law_added : Addr} {d__law_added : FuncData} (C__law_added : Kn P w K mg base "_law_added" ["one", "other"] f__law_added d__law_added 1 (spF ⟨K, mg⟩ 2 .im m__law_added)) : Kn P w K mg base "_law_together" ["parts", "whole"] f fd 5 (spF ⟨K, mg⟩ 2 .im m__law_together) := by
  have sc := sc__law_together
  exact ⟨T.g, T.F.kp, T.b, fn_F T.F sc__law_together (by decide) fun cdv A outer s H E hr => show JB _ _ _ (defBody s__law_together) (seqS (setS 2 (ret (.dK []))) (seqS (setS 3 (ret (.int 0))) (seqS (killS [0] (forS (iterM (rd 0)) (tgN 4) b__law_together_1)) (retS (andE (op2 oEqK (callF m_signs_counted (argC (rd 1) argN)) (rd 2)) (op2 oEq (callF m_how_many_free (argC (rd 1) argN)) (rd 3))))))) from
    (jb_cons (js_set 2 sc.nd (JE.im je_dict0)) (jb_cons (js_set 3 sc.nd je_int) (jb_cons (js_kill [0] (js_for (passes_of rfl) rfl (ji_val (je_rd 0)) (jg_name 4 sc.nd) (jb_cons (js_set 2 sc.nd (je_call (argC_len (argC_len argN_len)) C__law_added.ok (hr.mono (by decide)) C__law_added.g C__law_added.kp C__law_added.b (takes_of rfl rfl rfl rfl) (ja_cons (je_rd 2) (ja_cons (je_call (argC_len argN_len) C_signs_counted.ok (hr.mono (by decide)) C_signs_counted.g C_signs_counted.kp C_signs_counted.b (takes_of rfl rfl rfl rfl) (ja_cons (je_rd 4) ja_nil)) ja_nil)))) (jb_one (js_kill [4] (js_set 3 sc.nd (je_op op_addAll (o2_add rfl) (je_rd 3) (je_call (argC_len argN_len) C_how_many_free.ok (hr.mono (by decide)) C_how_many_free.g C_how_many_free.kp C_how_many_free.b (takes_of rfl rfl rfl rfl) (ja_cons (je_rd 4) ja_nil))))))))) (jb_one (js_ret (je_and (je_cmp (op_eq_dictA hr.units0) o2_eqK (je_call (argC_len argN_len) C_signs_counted.ok (hr.mono (by decide)) C_signs_counted.g C_signs_counted.kp C_signs_counted.b (takes_of rfl rfl rfl rfl) (ja_cons (je_rd 1) ja_nil)) (je_rd 2)) (je_one (je_cmp (op_eqAll hr.units) o2_eq (je_call (argC_len argN_len) C_how_many_free.ok (hr.mono (by decide)) C_how_many_free.g C_how_many_free.kp C_how_many_free.b (takes_of rfl rfl rfl rfl) (ja_cons (je_rd 1) ja_nil)) (je_rd 3)))))))))⟩
abbrev s__law_alone : Stmt := topS 22
theorem sc__law_alone : FnScope N__law_alone ["pool", "rows"] (defScope s__law_alone) := ⟨rfl, rfl, rfl, by decide +kernel, rfl, by decide +kernel, by decide +kernel⟩
set_option maxHeartbeats 1000000 in
theorem ok__law_alone {f : Addr} {fd : FuncData} (T : FnT K mg "_law_alone" s__law_alone ["pool", "rows"] f fd) (z : Zs mg) {f_is_little : Addr} {d_is_little : FuncData} (C_is_little : Kn P w K mg base "is_little" ["thing"] f_is_little d_is_little 2 (spF ⟨K, mg⟩ 1 .im m_is_little)) {f_is_table : Addr} {d_is_table : FuncData} (C_is_table : Kn P w K mg base "is_table" ["thing"] f_is_table d_is_table 3 (spF ⟨K, mg⟩ 1 .im m_is_table)) {f_size_of : Addr} {d_size_of : FuncData} (C_size_of : Kn P w K mg base "size_of" ["little"] f_size_of d_size_of 4 (spF ⟨K, mg⟩ 1 .im m_size_of)) {f_how_many_free : Addr} {d_how_many_free : FuncData} (C_how_many_free : Kn P w K mg base "how_many_free" ["little"] f_how_many_free d_how_many_free 4 (spF ⟨K, mg⟩ 1 .im m_how_many_free)) {f_signs_counted : Addr} {d_signs_counted : FuncData} (C_signs_counted : Kn P w K mg base "signs_counted" ["little"] f_signs_counted d_signs_counted 4 (spF ⟨K, mg⟩ 1 .im m_signs_counted)) {f__law_sign_K : Addr} {d__law_sign_K : FuncData} (C__law_sign_K : KnK P w K mg base "_law_sign" ["pool", "few"] f__law_sign_K d__law_sign_K 2 (spU ⟨K, mg⟩ 2 .im m__law_sign_K)) {f__law_added : Addr} {d__law_added : FuncData} (C__law_added : Kn P w K mg base "_law_added" ["one", "other"] f__law_added d__law_added 1 (spF ⟨K, mg⟩ 2 .im m__law_added)) : Kn P w K mg base "_law_alone" ["pool", "rows"] f fd 5 (spU ⟨K, mg⟩ 2 .im m__law_alone) := by
  have sc := sc__law_alone
  exact ⟨T.g, T.F.kp, T.b, fn_U T.F sc__law_alone (by decide) (by decide) fun cdv A outer s H E hr => show JB _ _ _ (defBody s__law_alone) (seqS (tgS (tgT 2 (tgCons (tgN 7) (tgCons (tgN 8) tgNil))) (callF m_size_of (argC (rd 1) argN))) (seqS (setS 2 (callF m_signs_counted (argC (rd 1) argN))) (seqS (setS 3 (callF m_how_many_free (argC (rd 1) argN))) (seqS (ifS (orM (tst (op2 oNe (op2 oAdd (rd 3) (op1 oSumV (rd 2))) (op2 oMulA (rd 7) (rd 8)))) (orM (notM (tst (callF m_is_little (argC (rd 1) argN)))) (tst (op2 oNe (callF m_is_table (argC (rd 1) argN)) (op2 oEq (rd 3) (ret (.int 0))))))) (retS (ret (.bl false))) skip) (seqS (killS [7, 8] (forS (iterM (lstE (argC (op1 oRev (rd 1)) (argC (lcE [9] (iterM (rd 1)) (tgN 9) (ret true) (op1 oRev (rd 9))) (argC (op2 oAdd (sl3 oSl (rd 1) (partM (ret (.int 1))) noP) (sl3 oSl (rd 1) noP (partM (ret (.int 1))))) argN))))) (tgN 4) b__law_alone_1)) (seqS (setS 5 (useU 0 m__law_sign_K (argC (ret (.int 0)) argN))) (seqS (setS 6 (lcE [9] (iterZ 1) (tgN 9) (ret true) (replV 5 [63] (rd 9)))) (seqS (ifS (orM (notM (tst (callF m_is_table (argC (rd 6) argN)))) (tst (op2 oNe (callF m_how_many_free (argC (rd 6) argN)) (ret (.int 0))))) (retS (ret (.bl false))) skip) (seqS (killS [1] (ifS (tst (op2 oEq (rd 3) (ret (.int 0)))) (retS (op2 oEq (rd 6) (rd 1))) skip)) (retS (op2 oEqK (callF m_signs_counted (argC (rd 6) argN)) (callF m__law_added (argC (rd 2) (argC (dispE (prC (rd 5) (rd 3) prN)) argN)))))))))))))) from
    (jb_cons (js_tg (je_call (argC_len argN_len) C_size_of.ok (hr.mono (by decide)) C_size_of.g C_size_of.kp C_size_of.b (takes_of rfl rfl rfl rfl) (ja_cons (je_rd 1) ja_nil)) (jg_tup rfl (jgs_cons (jg_name 7 sc.nd) (jgs_cons (jg_name 8 sc.nd) jgs_nil)))) (jb_cons (js_set 2 sc.nd (je_call (argC_len argN_len) C_signs_counted.ok (hr.mono (by decide)) C_signs_counted.g C_signs_counted.kp C_signs_counted.b (takes_of rfl rfl rfl rfl) (ja_cons (je_rd 1) ja_nil))) (jb_cons (js_set 3 sc.nd (je_call (argC_len argN_len) C_how_many_free.ok (hr.mono (by decide)) C_how_many_free.g C_how_many_free.kp C_how_many_free.b (takes_of rfl rfl rfl rfl) (ja_cons (je_rd 1) ja_nil))) (jb_cons (js_if (jt_w (jw_or (jt_cmp (op_neAll hr.units) o2_ne (je_op op_addAll (o2_add rfl) (je_rd 3) (je_sumVals rfl (je_rd 2) rfl z.sum (by decide +kernel))) (je_op op_mulAll o2_mulA (je_rd 7) (je_rd 8))) (jw_or (jt_not (jt_val (je_call (argC_len argN_len) C_is_little.ok (hr.mono (by decide)) C_is_little.g C_is_little.kp C_is_little.b (takes_of rfl rfl rfl rfl) (ja_cons (je_rd 1) ja_nil)))) (jw_or1 (jt_cmp (op_neAll hr.units) o2_ne (je_call (argC_len argN_len) C_is_table.ok (hr.mono (by decide)) C_is_table.g C_is_table.kp C_is_table.b (takes_of rfl rfl rfl rfl) (ja_cons (je_rd 1) ja_nil)) (je_cmp (op_eqAll hr.units) o2_eq (je_rd 3) je_int)))))) (jb_one (js_ret je_bl)) jb_nil) (jb_cons (js_kill [7, 8] (js_for (passes_of rfl) rfl (ji_val (JE.im (je_lst (ja_cons (je_rev (je_rd 1)) (ja_cons (JE.im (je_lc rfl sc.nd (own := [("row", 9)]) (ji_val (je_rd 1)) (blkOk_by (own := [("row", 9)]) (N := N__law_alone) (sc := (defScope s__law_alone)) (by decide +kernel)) (fun _ _ _ _ _ => (jg_name 9 sc.nd)) (fun _ _ _ _ _ => jts_nil) (fun _ _ _ _ _ => (je_rev (je_rd 9))))) (ja_cons (je_op op_addAll (o2_add rfl) (je_sl sl_all sl_D (je_rd 1) (jo_some je_int) jo_none) (je_sl sl_all sl_D (je_rd 1) jo_none (jo_some je_int))) ja_nil)))))) (jg_name 4 sc.nd) (jb_one (js_kill [4] (js_if (jt_w (jw_or (jt_cmp (op_ne_dictA hr.units0) o2_neK (je_call (argC_len argN_len) C_signs_counted.ok (hr.mono (by decide)) C_signs_counted.g C_signs_counted.kp C_signs_counted.b (takes_of rfl rfl rfl rfl) (ja_cons (je_rd 4) ja_nil)) (je_rd 2)) (jw_or (jt_cmp (op_neAll hr.units) o2_ne (je_call (argC_len argN_len) C_how_many_free.ok (hr.mono (by decide)) C_how_many_free.g C_how_many_free.kp C_how_many_free.b (takes_of rfl rfl rfl rfl) (ja_cons (je_rd 4) ja_nil)) (je_rd 3)) (jw_or1 (jt_cmp (op_neAll hr.units) o2_ne (je_call (argC_len argN_len) C_size_of.ok (hr.mono (by decide)) C_size_of.g C_size_of.kp C_size_of.b (takes_of rfl rfl rfl rfl) (ja_cons (je_rd 4) ja_nil)) (je_tup (ja_cons (je_rd 7) (ja_cons (je_rd 8) ja_nil)))))))) (jb_one (js_ret je_bl)) jb_nil))))) (jb_two (jcg_set 5 sc.nd (jev_callU 0 (argC_len argN_len) (by decide) C__law_sign_K.ok (hr.mono (by decide)) C__law_sign_K.g C__law_sign_K.kp C__law_sign_K.b (takes_of rfl rfl rfl rfl) pae_int0) rfl) (jsc_setLc (own := [("row", 9)]) 6 1 rfl sc.nd rfl rfl (sw_true rfl rfl rfl (by decide +kernel)) rfl (Or.inl rfl) (blkOk_by (own := [("row", 9)]) (N := N__law_alone) (sc := (defScope s__law_alone)) (by decide +kernel)) rfl rfl (fun _ _ _ _ _ => (jg_name 9 sc.nd)) (fun _ _ _ _ _ => jts_nil) (fun _ n1 _ _ _ _ _ G => jen_repl (ly := [63]) 5 n1 G (je_rd 9) (by kernel_rfl) (Or.inr (Or.inl (by kernel_rfl))))) (jb_cons (js_if (jt_w (jw_or (jt_not (jt_val (je_call (argC_len argN_len) C_is_table.ok (hr.mono (by decide)) C_is_table.g C_is_table.kp C_is_table.b (takes_of rfl rfl rfl rfl) (ja_cons (je_rd 6) ja_nil)))) (jw_or1 (jt_cmp (op_neAll hr.units) o2_ne (je_call (argC_len argN_len) C_how_many_free.ok (hr.mono (by decide)) C_how_many_free.g C_how_many_free.kp C_how_many_free.b (takes_of rfl rfl rfl rfl) (ja_cons (je_rd 6) ja_nil)) je_int)))) (jb_one (js_ret je_bl)) jb_nil) (jb_cons (js_kill [1] (js_if (jt_cmp (op_eqAll hr.units) o2_eq (je_rd 3) je_int) (jb_one (js_ret (je_cmp (op_eqAll hr.units) o2_eq (je_rd 6) (je_rd 1)))) jb_nil)) (jb_one (js_ret (je_cmp (op_eq_dictA hr.units0) o2_eqK (je_call (argC_len argN_len) C_signs_counted.ok (hr.mono (by decide)) C_signs_counted.g C_signs_counted.kp C_signs_counted.b (takes_of rfl rfl rfl rfl) (ja_cons (je_rd 6) ja_nil)) (je_call (argC_len (argC_len argN_len)) C__law_added.ok (hr.mono (by decide)) C__law_added.g C__law_added.kp C__law_added.b (takes_of rfl rfl rfl rfl) (ja_cons (je_rd 2) (ja_cons (JE.im (je_dictM (jp_cons (je_rd 5) (je_rd 3) jp_nil))) ja_nil))))))))))))))⟩
abbrev s_law : Stmt := topS 23
theorem sc_law : FnScope N_law ["script"] (defScope s_law) := ⟨rfl, rfl, rfl, by decide +kernel, rfl, by decide +kernel, by decide +kernel⟩
set_option maxHeartbeats 1000000 in
theorem ok_law {f : Addr} {fd : FuncData} (T : FnT K mg "law" s_law ["script"] f fd) (z : Zs mg) {f_size_of : Addr} {d_size_of : FuncData} (C_size_of : Kn P w K mg base "size_of" ["little"] f_size_of d_size_of 4 (spF ⟨K, mg⟩ 1 .im m_size_of)) {f__law_pool : Addr} {d__law_pool : FuncData} (C__law_pool : Kn P w K mg base "_law_pool" ["script", "k"] f__law_pool d__law_pool 1 (spF ⟨K, mg⟩ 2 .fr m__law_pool)) {f__law_take : Addr} {d__law_take : FuncData} (C__law_take : Kn P w K mg base "_law_take" ["pool", "many"] f__law_take d__law_take 1 (spU ⟨K, mg⟩ 2 .im m__law_take)) {f__law_side : Addr} {d__law_side : FuncData} (C__law_side : Kn P w K mg base "_law_side" ["pool", "most"] f__law_side d__law_side 2 (spU ⟨K, mg⟩ 2 .im m__law_side)) {f__law_table : Addr} {d__law_table : FuncData} (C__law_table : Kn P w K mg base "_law_table" ["pool", "rows", "columns", "free"] f__law_table d__law_table 3 (spU ⟨K, mg⟩ 4 .im m__law_table)) {f__law_together : Addr} {d__law_together : FuncData} (C__law_together : Kn P w K mg base "_law_together" ["parts", "whole"] f__law_together d__law_together 5 (spF ⟨K, mg⟩ 2 .im m__law_together)) {f__law_alone : Addr} {d__law_alone : FuncData} (C__law_alone : Kn P w K mg base "_law_alone" ["pool", "rows"] f__law_alone d__law_alone 5 (spU ⟨K, mg⟩ 2 .im m__law_alone)) : Kn P w K mg base "law" ["script"] f fd 6 (spF ⟨K, mg⟩ 1 .im m_law) := by
  have sc := sc_law
  exact ⟨T.g, T.F.kp, T.b, fn_F T.F sc_law (by decide) fun cdv A outer s H E hr => show JB _ _ _ (defBody s_law) (seqS (killS [0] (forS (rng1M (op2 oMax (ret (.int 1)) (op2 oMin (ret (.int 8)) (op1 oLen (rd 0))))) (tgN 1) b_law_3)) (retS (ret (.bl true)))) from
    (jb_cons (js_kill [0] (js_for (passes_of rfl) rfl (ji_range1 rfl z.range (je_b2 (call_max2 rfl) fn_max rfl z.max (by decide +kernel) je_int (je_b2 (call_min2 rfl) fn_min rfl z.min (by decide +kernel) je_int (je_b1 call_lenA fn_len rfl z.len (by decide +kernel) (je_rd 0))))) (jg_name 1 sc.nd) (jb_cons (js_kill [1] (js_own 2 sc.nd (je_call (argC_len (argC_len argN_len)) C__law_pool.ok (hr.mono (by decide)) C__law_pool.g C__law_pool.kp C__law_pool.b (takes_of rfl rfl rfl rfl) (ja_cons (je_rd 0) (ja_cons (je_rd 1) ja_nil))))) (jb_cons (js_set 3 sc.nd (je_callU 2 (argC_len argN_len) (by decide) C__law_side.ok (hr.mono (by decide)) C__law_side.g C__law_side.kp C__law_side.b (takes_of rfl rfl rfl rfl) (ja_cons je_int ja_nil))) (jb_cons (js_set 4 sc.nd (je_callU 2 (argC_len (argC_len (argC_len argN_len))) (by decide) C__law_table.ok (hr.mono (by decide)) C__law_table.g C__law_table.kp C__law_table.b (takes_of rfl rfl rfl rfl) (ja_cons (je_rd 3) (ja_cons (je_callU 2 (argC_len argN_len) (by decide) C__law_side.ok (hr.mono (by decide)) C__law_side.g C__law_side.kp C__law_side.b (takes_of rfl rfl rfl rfl) (ja_cons je_int ja_nil)) (ja_cons (je_ix (je_lst (ja_cons je_int (ja_cons je_int (ja_cons je_int (ja_cons je_int ja_nil))))) (je_callU 2 (argC_len argN_len) (by decide) C__law_take.ok (hr.mono (by decide)) C__law_take.g C__law_take.kp C__law_take.b (takes_of rfl rfl rfl rfl) (ja_cons je_int ja_nil))) ja_nil))))) (jb_cons (js_set 5 sc.nd (je_callU 2 (argC_len (argC_len (argC_len argN_len))) (by decide) C__law_table.ok (hr.mono (by decide)) C__law_table.g C__law_table.kp C__law_table.b (takes_of rfl rfl rfl rfl) (ja_cons (je_rd 3) (ja_cons (je_callU 2 (argC_len argN_len) (by decide) C__law_side.ok (hr.mono (by decide)) C__law_side.g C__law_side.kp C__law_side.b (takes_of rfl rfl rfl rfl) (ja_cons je_int ja_nil)) (ja_cons (je_ix (je_lst (ja_cons je_int (ja_cons je_int (ja_cons je_int (ja_cons je_int ja_nil))))) (je_callU 2 (argC_len argN_len) (by decide) C__law_take.ok (hr.mono (by decide)) C__law_take.g C__law_take.kp C__law_take.b (takes_of rfl rfl rfl rfl) (ja_cons je_int ja_nil))) ja_nil))))) (jb_cons (js_if (jt_w (jw_or (jt_not (jt_val (je_callU 2 (argC_len argN_len) (by decide) C__law_alone.ok (hr.mono (by decide)) C__law_alone.g C__law_alone.kp C__law_alone.b (takes_of rfl rfl rfl rfl) (ja_cons (je_rd 4) ja_nil)))) (jw_or1 (jt_not (jt_val (je_callU 2 (argC_len argN_len) (by decide) C__law_alone.ok (hr.mono (by decide)) C__law_alone.g C__law_alone.kp C__law_alone.b (takes_of rfl rfl rfl rfl) (ja_cons (je_rd 5) ja_nil))))))) (jb_one (js_ret je_bl)) jb_nil) (jb_cons (js_kill [5] (js_for (passes_of rfl) rfl (ji_val (JE.im (je_lst (ja_cons (je_tup (ja_cons (je_rd 4) (ja_cons (je_rd 5) ja_nil))) (ja_cons (je_tup (ja_cons (je_rd 5) (ja_cons (je_rd 4) ja_nil))) ja_nil))))) (jg_tup rfl (jgs_cons (jg_name 7 sc.nd) (jgs_cons (jg_name 8 sc.nd) jgs_nil))) (jb_cons (js_kill [7, 8] (js_setLc 9 rfl sc.nd rfl rfl (sw_true rfl rfl rfl (by decide +kernel)) (own := [("row", 10), ("more", 11)]) (ji_zipA rfl z.zip (je_rd 7) (je_rd 8)) (blkOk_by (own := [("row", 10), ("more", 11)]) (N := N_law) (sc := (defScope s_law)) (by decide +kernel)) (fun _ _ _ _ _ => (jg_tup rfl (jgs_cons (jg_name 10 sc.nd) (jgs_cons (jg_name 11 sc.nd) jgs_nil)))) (fun _ _ _ _ _ => jts_nil) (fun _ _ _ _ _ => (je_op op_addAll (o2_add rfl) (je_rd 10) (je_rd 11))))) (jb_one (js_kill [9] (js_if (jt_w (jw_or (jt_cmp (op_neAll hr.units) o2_ne (je_call (argC_len argN_len) C_size_of.ok (hr.mono (by decide)) C_size_of.g C_size_of.kp C_size_of.b (takes_of rfl rfl rfl rfl) (ja_cons (je_rd 9) ja_nil)) (je_tup (ja_cons (je_rd 3) (ja_cons (je_op op_addAll (o2_add rfl) (je_b1 call_lenA fn_len rfl z.len (by decide +kernel) (je_ix (je_rd 4) je_int)) (je_b1 call_lenA fn_len rfl z.len (by decide +kernel) (je_ix (je_rd 5) je_int))) ja_nil)))) (jw_or1 (jt_not (jt_val (je_call (argC_len (argC_len argN_len)) C__law_together.ok (hr.mono (by decide)) C__law_together.g C__law_together.kp C__law_together.b (takes_of rfl rfl rfl rfl) (ja_cons (JE.im (je_lst (ja_cons (je_rd 4) (ja_cons (je_rd 5) ja_nil)))) (ja_cons (je_rd 9) ja_nil)))))))) (jb_one (js_ret je_bl)) jb_nil)))))) (jb_cons (js_kill [2] (js_set 6 sc.nd (je_callU 2 (argC_len argN_len) (by decide) C__law_take.ok (hr.mono (by decide)) C__law_take.g C__law_take.kp C__law_take.b (takes_of rfl rfl rfl rfl) (ja_cons (je_rd 3) ja_nil)))) (jb_cons (js_if (jt_w (jw_and (jt_cmp op_gtA o2_gt (je_rd 6) je_int) (jw_and1 (jt_not (jt_val (je_call (argC_len (argC_len argN_len)) C__law_together.ok (hr.mono (by decide)) C__law_together.g C__law_together.kp C__law_together.b (takes_of rfl rfl rfl rfl) (ja_cons (JE.im (je_lst (ja_cons (je_sl sl_all sl_D (je_rd 4) jo_none (jo_some (je_rd 6))) (ja_cons (je_sl sl_all sl_D (je_rd 4) (jo_some (je_rd 6)) jo_none) ja_nil)))) (ja_cons (je_rd 4) ja_nil)))))))) (jb_one (js_ret je_bl)) jb_nil) (jb_one (js_kill [3, 4, 6] (js_if (jt_w (jw_and (jt_cmp op_gtA o2_gt (je_rd 6) je_int) (jw_and1 (jt_cmp (op_neAll hr.units) o2_ne (je_op op_addAll (o2_add rfl) (je_ix (je_call (argC_len argN_len) C_size_of.ok (hr.mono (by decide)) C_size_of.g C_size_of.kp C_size_of.b (takes_of rfl rfl rfl rfl) (ja_cons (je_sl sl_all sl_D (je_rd 4) jo_none (jo_some (je_rd 6))) ja_nil)) je_int) (je_ix (je_call (argC_len argN_len) C_size_of.ok (hr.mono (by decide)) C_size_of.g C_size_of.kp C_size_of.b (takes_of rfl rfl rfl rfl) (ja_cons (je_sl sl_all sl_D (je_rd 4) (jo_some (je_rd 6)) jo_none) ja_nil)) je_int)) (je_rd 3))))) (jb_one (js_ret je_bl)) jb_nil))))))))))))) (jb_one (js_ret je_bl)))⟩
set_option maxHeartbeats 0 in
theorem all_mk {h : Heap} {fa : Addr} (X : K.In h) (G : h.Ns mainGlobals mg) (hfa : mg "law" = some (.ref fa))
    {f0 : Addr} {od0 an0 : Option Addr} {sl0 : Array (Option Value)} {oc0 kV0 dc0 pm0 cd0 ct0 : Value} (a0 : PySem.W.nsIn K mainGlobals "is_row" = some (some (.ref f0))) (l0 : K.lookup f0 = some ⟨oc0, od0, .func (PySem.W.fnOf "is_row" "is_row" (defArgs s_is_row) (defBody s_is_row) (defScope s_is_row) .none kV0 dc0 pm0 an0 cd0 ct0), sl0⟩) (c0 : PySem.W.codeIn K cd0 "is_row" = true) (k0 : PySem.W.keepIn K (.ref f0) = true)
    {f1 : Addr} {od1 an1 : Option Addr} {sl1 : Array (Option Value)} {oc1 kV1 dc1 pm1 cd1 ct1 : Value} (a1 : PySem.W.nsIn K mainGlobals "_law_pool" = some (some (.ref f1))) (l1 : K.lookup f1 = some ⟨oc1, od1, .func (PySem.W.fnOf "_law_pool" "_law_pool" (defArgs s__law_pool) (defBody s__law_pool) (defScope s__law_pool) .none kV1 dc1 pm1 an1 cd1 ct1), sl1⟩) (c1 : PySem.W.codeIn K cd1 "_law_pool" = true) (k1 : PySem.W.keepIn K (.ref f1) = true)
    {f2 : Addr} {od2 an2 : Option Addr} {sl2 : Array (Option Value)} {oc2 kV2 dc2 pm2 cd2 ct2 : Value} (a2 : PySem.W.nsIn K mainGlobals "_law_take" = some (some (.ref f2))) (l2 : K.lookup f2 = some ⟨oc2, od2, .func (PySem.W.fnOf "_law_take" "_law_take" (defArgs s__law_take) (defBody s__law_take) (defScope s__law_take) .none kV2 dc2 pm2 an2 cd2 ct2), sl2⟩) (c2 : PySem.W.codeIn K cd2 "_law_take" = true) (k2 : PySem.W.keepIn K (.ref f2) = true)
    {f3 : Addr} {od3 an3 : Option Addr} {sl3 : Array (Option Value)} {oc3 kV3 dc3 pm3 cd3 ct3 : Value} (a3 : PySem.W.nsIn K mainGlobals "_law_added" = some (some (.ref f3))) (l3 : K.lookup f3 = some ⟨oc3, od3, .func (PySem.W.fnOf "_law_added" "_law_added" (defArgs s__law_added) (defBody s__law_added) (defScope s__law_added) .none kV3 dc3 pm3 an3 cd3 ct3), sl3⟩) (c3 : PySem.W.codeIn K cd3 "_law_added" = true) (k3 : PySem.W.keepIn K (.ref f3) = true)
    {f4 : Addr} {od4 an4 : Option Addr} {sl4 : Array (Option Value)} {oc4 kV4 dc4 pm4 cd4 ct4 : Value} (a4 : PySem.W.nsIn K mainGlobals "is_little" = some (some (.ref f4))) (l4 : K.lookup f4 = some ⟨oc4, od4, .func (PySem.W.fnOf "is_little" "is_little" (defArgs s_is_little) (defBody s_is_little) (defScope s_is_little) .none kV4 dc4 pm4 an4 cd4 ct4), sl4⟩) (c4 : PySem.W.codeIn K cd4 "is_little" = true) (k4 : PySem.W.keepIn K (.ref f4) = true)
    {f5 : Addr} {od5 an5 : Option Addr} {sl5 : Array (Option Value)} {oc5 kV5 dc5 pm5 cd5 ct5 : Value} (a5 : PySem.W.nsIn K mainGlobals "_law_sign" = some (some (.ref f5))) (l5 : K.lookup f5 = some ⟨oc5, od5, .func (PySem.W.fnOf "_law_sign" "_law_sign" (defArgs s__law_sign) (defBody s__law_sign) (defScope s__law_sign) .none kV5 dc5 pm5 an5 cd5 ct5), sl5⟩) (c5 : PySem.W.codeIn K cd5 "_law_sign" = true) (k5 : PySem.W.keepIn K (.ref f5) = true)
    {f6 : Addr} {od6 an6 : Option Addr} {sl6 : Array (Option Value)} {oc6 kV6 dc6 pm6 cd6 ct6 : Value} (a6 : PySem.W.nsIn K mainGlobals "_law_sign" = some (some (.ref f6))) (l6 : K.lookup f6 = some ⟨oc6, od6, .func (PySem.W.fnOf "_law_sign" "_law_sign" (defArgs s__law_sign_K) (defBody s__law_sign_K) (defScope s__law_sign_K) .none kV6 dc6 pm6 an6 cd6 ct6), sl6⟩) (c6 : PySem.W.codeIn K cd6 "_law_sign" = true) (k6 : PySem.W.keepIn K (.ref f6) = true)
    {f7 : Addr} {od7 an7 : Option Addr} {sl7 : Array (Option Value)} {oc7 kV7 dc7 pm7 cd7 ct7 : Value} (a7 : PySem.W.nsIn K mainGlobals "_law_side" = some (some (.ref f7))) (l7 : K.lookup f7 = some ⟨oc7, od7, .func (PySem.W.fnOf "_law_side" "_law_side" (defArgs s__law_side) (defBody s__law_side) (defScope s__law_side) .none kV7 dc7 pm7 an7 cd7 ct7), sl7⟩) (c7 : PySem.W.codeIn K cd7 "_law_side" = true) (k7 : PySem.W.keepIn K (.ref f7) = true)
    {f8 : Addr} {od8 an8 : Option Addr} {sl8 : Array (Option Value)} {oc8 kV8 dc8 pm8 cd8 ct8 : Value} (a8 : PySem.W.nsIn K mainGlobals "is_table" = some (some (.ref f8))) (l8 : K.lookup f8 = some ⟨oc8, od8, .func (PySem.W.fnOf "is_table" "is_table" (defArgs s_is_table) (defBody s_is_table) (defScope s_is_table) .none kV8 dc8 pm8 an8 cd8 ct8), sl8⟩) (c8 : PySem.W.codeIn K cd8 "is_table" = true) (k8 : PySem.W.keepIn K (.ref f8) = true)
    {f9 : Addr} {od9 an9 : Option Addr} {sl9 : Array (Option Value)} {oc9 kV9 dc9 pm9 cd9 ct9 : Value} (a9 : PySem.W.nsIn K mainGlobals "need_little" = some (some (.ref f9))) (l9 : K.lookup f9 = some ⟨oc9, od9, .func (PySem.W.fnOf "need_little" "need_little" (defArgs s_need_little) (defBody s_need_little) (defScope s_need_little) .none kV9 dc9 pm9 an9 cd9 ct9), sl9⟩) (c9 : PySem.W.codeIn K cd9 "need_little" = true) (k9 : PySem.W.keepIn K (.ref f9) = true)
    {f10 : Addr} {od10 an10 : Option Addr} {sl10 : Array (Option Value)} {oc10 kV10 dc10 pm10 cd10 ct10 : Value} (a10 : PySem.W.nsIn K mainGlobals "_law_table" = some (some (.ref f10))) (l10 : K.lookup f10 = some ⟨oc10, od10, .func (PySem.W.fnOf "_law_table" "_law_table" (defArgs s__law_table) (defBody s__law_table) (defScope s__law_table) .none kV10 dc10 pm10 an10 cd10 ct10), sl10⟩) (c10 : PySem.W.codeIn K cd10 "_law_table" = true) (k10 : PySem.W.keepIn K (.ref f10) = true)
    {f11 : Addr} {od11 an11 : Option Addr} {sl11 : Array (Option Value)} {oc11 kV11 dc11 pm11 cd11 ct11 : Value} (a11 : PySem.W.nsIn K mainGlobals "size_of" = some (some (.ref f11))) (l11 : K.lookup f11 = some ⟨oc11, od11, .func (PySem.W.fnOf "size_of" "size_of" (defArgs s_size_of) (defBody s_size_of) (defScope s_size_of) .none kV11 dc11 pm11 an11 cd11 ct11), sl11⟩) (c11 : PySem.W.codeIn K cd11 "size_of" = true) (k11 : PySem.W.keepIn K (.ref f11) = true)
    {f12 : Addr} {od12 an12 : Option Addr} {sl12 : Array (Option Value)} {oc12 kV12 dc12 pm12 cd12 ct12 : Value} (a12 : PySem.W.nsIn K mainGlobals "how_many_free" = some (some (.ref f12))) (l12 : K.lookup f12 = some ⟨oc12, od12, .func (PySem.W.fnOf "how_many_free" "how_many_free" (defArgs s_how_many_free) (defBody s_how_many_free) (defScope s_how_many_free) .none kV12 dc12 pm12 an12 cd12 ct12), sl12⟩) (c12 : PySem.W.codeIn K cd12 "how_many_free" = true) (k12 : PySem.W.keepIn K (.ref f12) = true)
    {f13 : Addr} {od13 an13 : Option Addr} {sl13 : Array (Option Value)} {oc13 kV13 dc13 pm13 cd13 ct13 : Value} (a13 : PySem.W.nsIn K mainGlobals "signs_counted" = some (some (.ref f13))) (l13 : K.lookup f13 = some ⟨oc13, od13, .func (PySem.W.fnOf "signs_counted" "signs_counted" (defArgs s_signs_counted) (defBody s_signs_counted) (defScope s_signs_counted) .none kV13 dc13 pm13 an13 cd13 ct13), sl13⟩) (c13 : PySem.W.codeIn K cd13 "signs_counted" = true) (k13 : PySem.W.keepIn K (.ref f13) = true)
    {f14 : Addr} {od14 an14 : Option Addr} {sl14 : Array (Option Value)} {oc14 kV14 dc14 pm14 cd14 ct14 : Value} (a14 : PySem.W.nsIn K mainGlobals "_law_together" = some (some (.ref f14))) (l14 : K.lookup f14 = some ⟨oc14, od14, .func (PySem.W.fnOf "_law_together" "_law_together" (defArgs s__law_together) (defBody s__law_together) (defScope s__law_together) .none kV14 dc14 pm14 an14 cd14 ct14), sl14⟩) (c14 : PySem.W.codeIn K cd14 "_law_together" = true) (k14 : PySem.W.keepIn K (.ref f14) = true)
    {f15 : Addr} {od15 an15 : Option Addr} {sl15 : Array (Option Value)} {oc15 kV15 dc15 pm15 cd15 ct15 : Value} (a15 : PySem.W.nsIn K mainGlobals "_law_alone" = some (some (.ref f15))) (l15 : K.lookup f15 = some ⟨oc15, od15, .func (PySem.W.fnOf "_law_alone" "_law_alone" (defArgs s__law_alone) (defBody s__law_alone) (defScope s__law_alone) .none kV15 dc15 pm15 an15 cd15 ct15), sl15⟩) (c15 : PySem.W.codeIn K cd15 "_law_alone" = true) (k15 : PySem.W.keepIn K (.ref f15) = true)
    {f16 : Addr} {od16 an16 : Option Addr} {sl16 : Array (Option Value)} {oc16 kV16 dc16 pm16 cd16 ct16 : Value} (a16 : PySem.W.nsIn K mainGlobals "law" = some (some (.ref f16))) (l16 : K.lookup f16 = some ⟨oc16, od16, .func (PySem.W.fnOf "law" "law" (defArgs s_law) (defBody s_law) (defScope s_law) .none kV16 dc16 pm16 an16 cd16 ct16), sl16⟩) (c16 : PySem.W.codeIn K cd16 "law" = true) (k16 : PySem.W.keepIn K (.ref f16) = true)
    (z0 : PySem.W.nsIn K mainGlobals "dict" = some none)
    (z1 : PySem.W.nsIn K mainGlobals "isinstance" = some none)
    (z2 : PySem.W.nsIn K mainGlobals "len" = some none)
    (z3 : PySem.W.nsIn K mainGlobals "list" = some none)
    (z4 : PySem.W.nsIn K mainGlobals "max" = some none)
    (z5 : PySem.W.nsIn K mainGlobals "min" = some none)
    (z6 : PySem.W.nsIn K mainGlobals "ord" = some none)
    (z7 : PySem.W.nsIn K mainGlobals "range" = some none)
    (z8 : PySem.W.nsIn K mainGlobals "str" = some none)
    (z9 : PySem.W.nsIn K mainGlobals "sum" = some none)
    (z10 : PySem.W.nsIn K mainGlobals "zip" = some none)
    {qt0 : Tok} (gk0 : PySem.W.nsIn K mainGlobals "FREE" = some (some (.str (S [63]) qt0)))
    {qt1 : Tok} (gk1 : PySem.W.nsIn K mainGlobals "PER_CENT" = some (some (.int 37 qt1)))
    (hm : ∀ ns : List Int, ns.length ≤ 63 → m_law [.fz (ns.map .int)] = .ret (.bl true) .non) :
    ∃ fd : FuncData, (∀ (s : Shared) (v : Value), BindsTo s fd ⟨[v], []⟩ [("script", v)]) ∧ ∀ base : Heap, K.In base → base.Ns mainGlobals mg → FnOk P w K mg base (L2.CX P w) 6 fa fd ["script"] (spLaw K) := by
  have e := hfa.symm.trans (PySem.W.mg_of X G a16)
  cases e
  have F0 := fun_mk (st := s_is_row) l0 c0 k0
  have b0 := F0.binds (ps := ["thing"]) fun _ _ _ _ _ _ us hl => match us, hl with | [_], _ => rfl
  have F1 := fun_mk (st := s__law_pool) l1 c1 k1
  have b1 := F1.binds (ps := ["script", "k"]) fun _ _ _ _ _ _ us hl => match us, hl with | [_, _], _ => rfl
  have F2 := fun_mk (st := s__law_take) l2 c2 k2
  have b2 := F2.binds (ps := ["pool", "many"]) fun _ _ _ _ _ _ us hl => match us, hl with | [_, _], _ => rfl
  have F3 := fun_mk (st := s__law_added) l3 c3 k3
  have b3 := F3.binds (ps := ["one", "other"]) fun _ _ _ _ _ _ us hl => match us, hl with | [_, _], _ => rfl
  have F4 := fun_mk (st := s_is_little) l4 c4 k4
  have b4 := F4.binds (ps := ["thing"]) fun _ _ _ _ _ _ us hl => match us, hl with | [_], _ => rfl
  have F5 := fun_mk (st := s__law_sign) l5 c5 k5
  have b5 := F5.binds (ps := ["pool", "few"]) fun _ _ _ _ _ _ us hl => match us, hl with | [_, _], _ => rfl
  have F6 := fun_mk (st := s__law_sign_K) l6 c6 k6
  have b6 := F6.binds (ps := ["pool", "few"]) fun _ _ _ _ _ _ us hl => match us, hl with | [_, _], _ => rfl
  have F7 := fun_mk (st := s__law_side) l7 c7 k7
  have b7 := F7.binds (ps := ["pool", "most"]) fun _ _ _ _ _ _ us hl => match us, hl with | [_, _], _ => rfl
  have F8 := fun_mk (st := s_is_table) l8 c8 k8
  have b8 := F8.binds (ps := ["thing"]) fun _ _ _ _ _ _ us hl => match us, hl with | [_], _ => rfl
  have F9 := fun_mk (st := s_need_little) l9 c9 k9
  have b9 := F9.binds (ps := ["little"]) fun _ _ _ _ _ _ us hl => match us, hl with | [_], _ => rfl
  have F10 := fun_mk (st := s__law_table) l10 c10 k10
  have b10 := F10.binds (ps := ["pool", "rows", "columns", "free"]) fun _ _ _ _ _ _ us hl => match us, hl with | [_, _, _, _], _ => rfl
  have F11 := fun_mk (st := s_size_of) l11 c11 k11
  have b11 := F11.binds (ps := ["little"]) fun _ _ _ _ _ _ us hl => match us, hl with | [_], _ => rfl
  have F12 := fun_mk (st := s_how_many_free) l12 c12 k12
  have b12 := F12.binds (ps := ["little"]) fun _ _ _ _ _ _ us hl => match us, hl with | [_], _ => rfl
  have F13 := fun_mk (st := s_signs_counted) l13 c13 k13
  have b13 := F13.binds (ps := ["little"]) fun _ _ _ _ _ _ us hl => match us, hl with | [_], _ => rfl
  have F14 := fun_mk (st := s__law_together) l14 c14 k14
  have b14 := F14.binds (ps := ["parts", "whole"]) fun _ _ _ _ _ _ us hl => match us, hl with | [_, _], _ => rfl
  have F15 := fun_mk (st := s__law_alone) l15 c15 k15
  have b15 := F15.binds (ps := ["pool", "rows"]) fun _ _ _ _ _ _ us hl => match us, hl with | [_, _], _ => rfl
  have F16 := fun_mk (st := s_law) l16 c16 k16
  have b16 := F16.binds (ps := ["script"]) fun _ _ _ _ _ _ us hl => match us, hl with | [_], _ => rfl
  have z : Zs mg := ⟨PySem.W.mg_none_of X G z0, PySem.W.mg_none_of X G z1, PySem.W.mg_none_of X G z2, PySem.W.mg_none_of X G z3, PySem.W.mg_none_of X G z4, PySem.W.mg_none_of X G z5, PySem.W.mg_none_of X G z6, PySem.W.mg_none_of X G z7, PySem.W.mg_none_of X G z8, PySem.W.mg_none_of X G z9, PySem.W.mg_none_of X G z10⟩
  have c : Cs ⟨K, mg⟩ := ⟨gc_str (PySem.W.mg_of X G gk0), gc_int (PySem.W.mg_of X G gk1)⟩
  refine ⟨PySem.W.fnOf "law" "law" (defArgs s_law) (defBody s_law) (defScope s_law) .none kV16 dc16 pm16 an16 cd16 ct16, fun s v => .of_eq rfl, fun base _ _ => ?_⟩
  have C0 := ok_is_row (P := P) (w := w) (base := base) ⟨F0, b0, PySem.W.mg_of X G a0⟩ z c
  have C1 := ok__law_pool (P := P) (w := w) (base := base) ⟨F1, b1, PySem.W.mg_of X G a1⟩ z
  have C2 := ok__law_take (P := P) (w := w) (base := base) ⟨F2, b2, PySem.W.mg_of X G a2⟩
  have C3 := ok__law_added (P := P) (w := w) (base := base) ⟨F3, b3, PySem.W.mg_of X G a3⟩ z
  have C4 := ok_is_little (P := P) (w := w) (base := base) ⟨F4, b4, PySem.W.mg_of X G a4⟩ z C0
  have C5 := ok__law_sign (P := P) (w := w) (base := base) ⟨F5, b5, PySem.W.mg_of X G a5⟩ z C2
  have C6 := ok__law_sign_K (P := P) (w := w) (base := base) ⟨F6, b6, PySem.W.mg_of X G a6⟩ z C2
  have C7 := ok__law_side (P := P) (w := w) (base := base) ⟨F7, b7, PySem.W.mg_of X G a7⟩ z C2
  have C8 := ok_is_table (P := P) (w := w) (base := base) ⟨F8, b8, PySem.W.mg_of X G a8⟩ c C4
  have C9 := ok_need_little (P := P) (w := w) (base := base) ⟨F9, b9, PySem.W.mg_of X G a9⟩ C4
  have C10 := ok__law_table (P := P) (w := w) (base := base) ⟨F10, b10, PySem.W.mg_of X G a10⟩ z C2 C5
  have C11 := ok_size_of (P := P) (w := w) (base := base) ⟨F11, b11, PySem.W.mg_of X G a11⟩ z C9
  have C12 := ok_how_many_free (P := P) (w := w) (base := base) ⟨F12, b12, PySem.W.mg_of X G a12⟩ z c C9
  have C13 := ok_signs_counted (P := P) (w := w) (base := base) ⟨F13, b13, PySem.W.mg_of X G a13⟩ c C9
  have C14 := ok__law_together (P := P) (w := w) (base := base) ⟨F14, b14, PySem.W.mg_of X G a14⟩ C12 C13 C3
  have C15 := ok__law_alone (P := P) (w := w) (base := base) ⟨F15, b15, PySem.W.mg_of X G a15⟩ z C4 C8 C11 C12 C13 C6 C3
  have C16 := ok_law (P := P) (w := w) (base := base) ⟨F16, b16, PySem.W.mg_of X G a16⟩ z C11 C1 C2 C7 C10 C14 C15
  exact law_imp C16.ok hm
end
end Q

namespace Q
open PL
open PySem (Str)
theorem log_lt {a : Int} {k : Nat} (h0 : 0 ≤ a) (h : a < 2 ^ k) (hk : k ≠ 0) : a.natAbs.log2 < k := by
  have : a.natAbs < 2 ^ k := by
    have e : ((2 ^ k : Nat) : Int) = 2 ^ k := by norm_cast
    omega
  by_cases h : a.natAbs = 0
  · rw [h]; simp; omega
  · exact (Nat.log2_lt h).mpr this
/-- a pool that was asked at most n times -/
def Pool (n : Nat) (d : D) : Prop := ∃ a b c : Int, d = .lst [.int a, .int b, .int c] ∧ 0 ≤ c ∧ c ≤ n
theorem ix0 {x : D} {xs : List D} : oIx (.lst (x :: xs)) (.int 0) = some x := o_ixL (by decide) (by simp only [List.length_cons]; omega)
theorem ix1 {x y : D} {xs : List D} : oIx (.lst (x :: y :: xs)) (.int 1) = some y := o_ixL (by decide) (by simp only [List.length_cons]; omega)
theorem ix2 {x y z : D} {xs : List D} : oIx (.lst (x :: y :: z :: xs)) (.int 2) = some z := o_ixL (by decide) (by simp only [List.length_cons]; omega)
theorem set0 {x y : D} {xs : List D} : oSetIx (.lst (x :: xs)) [.int 0, y] = some (.non, .lst (y :: xs)) := o_setIx (k := 0) (by unfold L2.ixN; rw [if_pos (by decide), if_pos (by simp only [List.length_cons]; omega)]; rfl)
theorem set2 {x y z u : D} {xs : List D} : oSetIx (.lst (x :: y :: z :: xs)) [.int 2, u] = some (.non, .lst (x :: y :: u :: xs)) := o_setIx (k := 2) (by unfold L2.ixN; rw [if_pos (by decide), if_pos (by simp only [List.length_cons]; omega)]; rfl)
theorem take_one {a c many : Int} (hm : 0 < many) (hl : many.natAbs.log2 < 9000) : m__law_take [.lst [.int a, .int 1, .int c], .int many] = .ret (.int (a % many)) (.lst [.int (a / many), .int 1, .int c]) := by
  simp -implicitDefEqProofs only [m__law_take, b__law_take, bM_ok, bM_exc, bR_ok, bR_exc, bS_nx, bS_ret, bS_exc, bO_some, bOM_some, selM_t, selM_f, selS_t, selS_f, rdO_im, rdO_ow, lookO_im, lookO_ow, lookO_mu, moveO_ow, ownO_ow, ownO_mu, putO_ow, putO_mu, ofDR_ret, ofDR_exc, ofDU_ret, ofDU_exc, endF_nx, endF_ret, endF_exc, endU_nx, endU_ret, endU_exc, e_runF, e_runU, e_bind, e_ret, e_lift, e_rd, e_look, e_move, e_ownC, e_putC, e_op2, e_op1, e_tst, e_notM, e_andM, e_orM, e_notE, e_andE, e_orE, e_iteE, e_chn, e_argN, e_argC, e_tupE, e_lstE, e_noP, e_partM, e_sl3, asStr_str, e_strM, e_callF, e_callU, e_useU, e_mutM, e_skip, e_seqS, e_ifS, e_exprS, e_retS, e_setS, e_ownS, e_stIx, e_tgS, e_tgN, e_tgT, e_tgCons, e_tgNil, parK_2, e_parS, e_forS, e_rng1M, e_rng2M, e_iterM, e_enumA, e_zipM, e_lcE, o_subI, o_addI, o_eqI, o_neI, o_eqS, o_neS, o_ltI, o_leI, o_gtI, o_geI, o_maxI, o_minI, o_lenL, o_lenF, o_lenT, o_negI, o_asB, o_isiS, List.map_cons, List.map_nil, List.length_cons, List.length_nil, List.cons_append, List.nil_append, List.append_nil, List.replicate_succ, List.replicate_zero, List.getElem?_cons_succ, List.getElem?_cons_zero, List.set_cons_succ, List.set_cons_zero, Option.map_some, Option.map_none, Option.bind_some, Option.bind_none, if_true, if_false, ite_true, ite_false, decide_true, decide_false, Bool.not_true, Bool.not_false, Nat.zero_add, Nat.reduceAdd, Nat.reduceSub, reduceIte, reduceCtorEq, Nat.reduceLT, Nat.reduceLeDiff, Int.reduceLT, Int.reduceLE, Int.reduceToNat, Int.reduceNeg, Int.reduceEq, Int.reduceSub, Int.reduceAdd, Int.reduceMul, Int.reducePow, tyOk, beq_self_eq_true, e_freeP1, e_freeP2, freeO_no, freeO_im, e_wipe1, e_wipe2, e_back1, e_back2, backO_s, o_iterL, o_iterF, o_iterT, Bool.and_true, sK_nx, sK_ret, tK_nx, tK_ret, e_tryS, e_raiseS, o_isE, o_isEN, o_notNN, o_notNE, o_isNN, o_isNE, e_prN, e_prC, e_dispE, e_zipA, o_zipSS, o_zipSL, o_zipLL, o_asI, e_callL, e_callLF, bRs_ok, e_bxK, bxKo_bx, e_bxPutK, e_bxAtK, e_bxL, bxLo_bx, e_bxSet2, e_lcEN, e_owbS, kOw_nx, e_owbO, owO_bx, o_lenDT, fix_nxt2, okB_nxt2, e_mkX, mkT_str, e_callLN, ofLF_t, ofLF_exc, ofLN_b, ofLN_exc, ofDL_bl, ofDL_int, ofDL_str, ofDL_non, ofDL_exc, e_killS, kK_nx, kK_ret, kK_exc, e_wipeC, e_wipeN, e_backC, e_backN, e_stp, e_lcs, joinC_t, joinC_f, joinC_ok, e_augI, augO_int, e_getE, e_dixE, asD_k, keyD_s, keyD_i, e_bSkK, e_kiY, e_frzS, kF_nx, e_frzO, fO_ow, e_freeP3, e_strX, e_rng3A, o_iterM, e_lckS, kL_nx, e_lckO, lO_k, lO_t, e_iterK, o_iterKk, o_iterKt, e_getA, e_dixA, isDct_k, isDct_t, isDct_fk, isDct_ft, oGetA_k, oGetA_fk, oGetA_t, oGetA_ft, id_eq, e_iterL, e_lookT, lookR_ok, frzA_c, frzA_n, frz_im', frz_ow', frz_mu', frz_no', e_runN, endN_nx, endN_ret, endN_exc, e_bxS, e_nwM, e_nxM, e_fixM, e_tupN, e_moveB, moveBO_bx, frz_bx', frz_mb', frzB_t, okB_nw, okB_int, okB_str, okB_lst, okB_tup, okB_non, okB_bl, okB_nxt, okB_nxl, okA_c, okA_n, fix_nw, fix_int, fix_str, fix_lst, fix_tup, fix_non, fix_bl, fix_nxt, fix_nxl, fixA_c, fixA_n, e_bxT, bxTO_bx, bxTD_nw, e_bxAtT, e_callUF, e_owbA, e_obF, obO_mb, obO_bx, e_imF, imO_im, e_bxO, bxOo_bx, bxOo_mb, e_bputO, bpO_mb, bpO_bx, lkp_c, fldD_nw, fldD_int, fldD_lst, e_lookF, e_fldS, e_fldC, fldCo_c, putFd_c, putFd_n, e_fldM, e_fldP, ofDM_ret, ofDM_exc, e_callB, e_callM, e_methM, mkO_ret, e_makeM, endM_nx, endM_ret, endM_exc, e_runM, e_mdIn, e_mdAt, e_valF, valO_s, e_obI, oiO_s, e_callV, e_methV, e_frzBS, kFB_nx, kFB_ret, e_frzBO, fBO_bx, okB_ob, okF_c, okF_n, fix_ob, fixF_c, fixF_n, sN_nx, sN_ret, tN_nx, tN_ret, e_tryN, e_fldQ, dkO_k, e_lookE, ix0, ix1, set0, o_modI hm, o_divI hm hl]
theorem o_mulP {a b : Int} (h0 : 0 ≤ a) (h1 : a < 2 ^ 200) (h2 : 0 ≤ b) (h3 : b < 2 ^ 200) : oMulA (.int a) (.int b) = some (.int (a * b)) := o_mulI (by
  have := log_lt h0 h1 (by decide)
  have := log_lt h2 h3 (by decide)
  omega)
theorem mul_bd {a b A B : Int} (h0 : 0 ≤ a) (h1 : a ≤ A) (h2 : 0 ≤ b) (h3 : b ≤ B) : 0 ≤ a * b ∧ a * b ≤ A * B := ⟨Int.mul_nonneg h0 h2, Int.mul_le_mul h1 h3 h2 (Int.le_trans h0 h1)⟩
theorem take_mix {a b c many : Int} (hm : 0 < many) (hb : b ≠ 1) (h0 : 0 ≤ c) (hc : c < 2 ^ 60) : ∃ v, m__law_take [.lst [.int a, .int b, .int c], .int many] = .ret (.int v) (.lst [.int a, .int b, .int (c + 1)]) ∧ 0 ≤ v ∧ v < many := by
  have g1 : 0 ≤ a % 9999999491 + 1033 ∧ a % 9999999491 + 1033 ≤ 2 ^ 40 := by omega
  have g2 : 0 ≤ 59 * (c + 1) + 89 ∧ 59 * (c + 1) + 89 ≤ 2 ^ 70 := by omega
  have g3 := mul_bd g1.1 g1.2 g2.1 g2.2
  have g4 : 0 ≤ 3613 * (c + 1) ∧ 3613 * (c + 1) ≤ 2 ^ 80 := by omega
  have g5 : 0 ≤ c + 1 ∧ c + 1 ≤ 2 ^ 61 := by omega
  have g6 := mul_bd g4.1 g4.2 g5.1 g5.2
  generalize e1 : (a % 9999999491 + 1033) * (59 * (c + 1) + 89) = p1 at *
  generalize e2 : 3613 * (c + 1) * (c + 1) = p2 at *
  have g7 : 0 ≤ p1 + p2 ∧ p1 + p2 ≤ 2 ^ 150 := by omega
  have g8 : 0 ≤ (p1 + p2) * (p1 + p2) % 99999999559 ∧ (p1 + p2) * (p1 + p2) % 99999999559 ≤ 2 ^ 40 := by omega
  generalize e3 : (p1 + p2) * (p1 + p2) % 99999999559 = p3 at *
  have M1 : oMulA (.int (a % 9999999491 + 1033)) (.int (59 * (c + 1) + 89)) = some (.int p1) := e1 ▸ o_mulP g1.1 (by omega) g2.1 (by omega)
  have M2 : oMulA (.int 59) (.int (c + 1)) = some (.int (59 * (c + 1))) := o_mulP (by decide) (by decide) g5.1 (by omega)
  have M3 : oMulA (.int 3613) (.int (c + 1)) = some (.int (3613 * (c + 1))) := o_mulP (by decide) (by decide) g5.1 (by omega)
  have M4 : oMulA (.int (3613 * (c + 1))) (.int (c + 1)) = some (.int p2) := e2 ▸ o_mulP g4.1 (by omega) g5.1 (by omega)
  have M5 : oMulA (.int (p1 + p2)) (.int (p1 + p2)) = some (.int ((p1 + p2) * (p1 + p2))) := o_mulP g7.1 (by omega) g7.1 (by omega)
  have M6 : oMulA (.int p3) (.int (p3 + 71)) = some (.int (p3 * (p3 + 71))) := o_mulP g8.1 (by omega) (by omega) (by omega)
  have D1 : oMod (.int a) (.int 9999999491) = some (.int (a % 9999999491)) := o_modI (by decide)
  have D2 : oMod (.int ((p1 + p2) * (p1 + p2))) (.int 99999999559) = some (.int p3) := e3 ▸ o_modI (by decide)
  have D3 : oMod (.int (p3 * (p3 + 71))) (.int 99999999839) = some (.int (p3 * (p3 + 71) % 99999999839)) := o_modI (by decide)
  have D4 : oDiv (.int (p3 * (p3 + 71) % 99999999839)) (.int 127) = some (.int (p3 * (p3 + 71) % 99999999839 / 127)) := o_divI (by decide) (by decide)
  refine ⟨p3 * (p3 + 71) % 99999999839 / 127 % many, ?_, Int.emod_nonneg _ (by omega), Int.emod_lt_of_pos _ hm⟩
  simp -implicitDefEqProofs only [m__law_take, b__law_take, bM_ok, bM_exc, bR_ok, bR_exc, bS_nx, bS_ret, bS_exc, bO_some, bOM_some, selM_t, selM_f, selS_t, selS_f, rdO_im, rdO_ow, lookO_im, lookO_ow, lookO_mu, moveO_ow, ownO_ow, ownO_mu, putO_ow, putO_mu, ofDR_ret, ofDR_exc, ofDU_ret, ofDU_exc, endF_nx, endF_ret, endF_exc, endU_nx, endU_ret, endU_exc, e_runF, e_runU, e_bind, e_ret, e_lift, e_rd, e_look, e_move, e_ownC, e_putC, e_op2, e_op1, e_tst, e_notM, e_andM, e_orM, e_notE, e_andE, e_orE, e_iteE, e_chn, e_argN, e_argC, e_tupE, e_lstE, e_noP, e_partM, e_sl3, asStr_str, e_strM, e_callF, e_callU, e_useU, e_mutM, e_skip, e_seqS, e_ifS, e_exprS, e_retS, e_setS, e_ownS, e_stIx, e_tgS, e_tgN, e_tgT, e_tgCons, e_tgNil, parK_2, e_parS, e_forS, e_rng1M, e_rng2M, e_iterM, e_enumA, e_zipM, e_lcE, o_subI, o_addI, o_eqI, o_neI, o_eqS, o_neS, o_ltI, o_leI, o_gtI, o_geI, o_maxI, o_minI, o_lenL, o_lenF, o_lenT, o_negI, o_asB, o_isiS, List.map_cons, List.map_nil, List.length_cons, List.length_nil, List.cons_append, List.nil_append, List.append_nil, List.replicate_succ, List.replicate_zero, List.getElem?_cons_succ, List.getElem?_cons_zero, List.set_cons_succ, List.set_cons_zero, Option.map_some, Option.map_none, Option.bind_some, Option.bind_none, if_true, if_false, ite_true, ite_false, decide_true, decide_false, Bool.not_true, Bool.not_false, Nat.zero_add, Nat.reduceAdd, Nat.reduceSub, reduceIte, reduceCtorEq, Nat.reduceLT, Nat.reduceLeDiff, Int.reduceLT, Int.reduceLE, Int.reduceToNat, Int.reduceNeg, Int.reduceEq, Int.reduceSub, Int.reduceAdd, Int.reduceMul, Int.reducePow, tyOk, beq_self_eq_true, e_freeP1, e_freeP2, freeO_no, freeO_im, e_wipe1, e_wipe2, e_back1, e_back2, backO_s, o_iterL, o_iterF, o_iterT, Bool.and_true, sK_nx, sK_ret, tK_nx, tK_ret, e_tryS, e_raiseS, o_isE, o_isEN, o_notNN, o_notNE, o_isNN, o_isNE, e_prN, e_prC, e_dispE, e_zipA, o_zipSS, o_zipSL, o_zipLL, o_asI, e_callL, e_callLF, bRs_ok, e_bxK, bxKo_bx, e_bxPutK, e_bxAtK, e_bxL, bxLo_bx, e_bxSet2, e_lcEN, e_owbS, kOw_nx, e_owbO, owO_bx, o_lenDT, fix_nxt2, okB_nxt2, e_mkX, mkT_str, e_callLN, ofLF_t, ofLF_exc, ofLN_b, ofLN_exc, ofDL_bl, ofDL_int, ofDL_str, ofDL_non, ofDL_exc, e_killS, kK_nx, kK_ret, kK_exc, e_wipeC, e_wipeN, e_backC, e_backN, e_stp, e_lcs, joinC_t, joinC_f, joinC_ok, e_augI, augO_int, e_getE, e_dixE, asD_k, keyD_s, keyD_i, e_bSkK, e_kiY, e_frzS, kF_nx, e_frzO, fO_ow, e_freeP3, e_strX, e_rng3A, o_iterM, e_lckS, kL_nx, e_lckO, lO_k, lO_t, e_iterK, o_iterKk, o_iterKt, e_getA, e_dixA, isDct_k, isDct_t, isDct_fk, isDct_ft, oGetA_k, oGetA_fk, oGetA_t, oGetA_ft, id_eq, e_iterL, e_lookT, lookR_ok, frzA_c, frzA_n, frz_im', frz_ow', frz_mu', frz_no', e_runN, endN_nx, endN_ret, endN_exc, e_bxS, e_nwM, e_nxM, e_fixM, e_tupN, e_moveB, moveBO_bx, frz_bx', frz_mb', frzB_t, okB_nw, okB_int, okB_str, okB_lst, okB_tup, okB_non, okB_bl, okB_nxt, okB_nxl, okA_c, okA_n, fix_nw, fix_int, fix_str, fix_lst, fix_tup, fix_non, fix_bl, fix_nxt, fix_nxl, fixA_c, fixA_n, e_bxT, bxTO_bx, bxTD_nw, e_bxAtT, e_callUF, e_owbA, e_obF, obO_mb, obO_bx, e_imF, imO_im, e_bxO, bxOo_bx, bxOo_mb, e_bputO, bpO_mb, bpO_bx, lkp_c, fldD_nw, fldD_int, fldD_lst, e_lookF, e_fldS, e_fldC, fldCo_c, putFd_c, putFd_n, e_fldM, e_fldP, ofDM_ret, ofDM_exc, e_callB, e_callM, e_methM, mkO_ret, e_makeM, endM_nx, endM_ret, endM_exc, e_runM, e_mdIn, e_mdAt, e_valF, valO_s, e_obI, oiO_s, e_callV, e_methV, e_frzBS, kFB_nx, kFB_ret, e_frzBO, fBO_bx, okB_ob, okF_c, okF_n, fix_ob, fixF_c, fixF_n, sN_nx, sN_ret, tN_nx, tN_ret, e_tryN, e_fldQ, dkO_k, e_lookE, ix0, ix1, ix2, set2, o_modI hm, hb, M1, M2, M3, M4, M5, M6, D1, D2, D3, D4]
/-- one asking of the pool -/
theorem take_ok {n : Nat} {d : D} {many : Int} (h : Pool n d) (hn : n < 2 ^ 59) (hm : 0 < many) (hl : many < 2 ^ 200) : ∃ v d', m__law_take [d, .int many] = .ret (.int v) d' ∧ 0 ≤ v ∧ v < many ∧ Pool (n + 1) d' := by
  obtain ⟨a, b, c, rfl, h0, hc⟩ := h
  by_cases hb : b = 1
  · subst hb
    refine ⟨_, _, take_one hm ?_, Int.emod_nonneg _ (by omega), Int.emod_lt_of_pos _ hm, _, _, _, rfl, h0, by omega⟩
    have := log_lt (by omega) hl (by decide)
    omega
  · obtain ⟨v, e, v0, v1⟩ := take_mix (a := a) hm hb h0 (c := c) (by omega)
    exact ⟨v, _, e, v0, v1, _, _, _, rfl, by omega, by omega⟩
/-- the pool of a number of the script -/
theorem pow18 : oPow (.int 10) (.int 18) = some (.int 1000000000000000000) := rfl
theorem pool_ok {ns : List Int} {k : Nat} (hk : k < 64) : ∃ d, m__law_pool [.fz (ns.map .int), .int k] = .ret d .non ∧ Pool 4288 d := by
  have M : oMulA (.int 67) (.int k) = some (.int (67 * k)) := o_mulP (by decide) (by decide) (by omega) (by omega)
  have E : ∀ cell : Int, ∃ d, (seqS (ifS (tst (op2 oGe (rd 2) (op2 oPow (ret (.int 10)) (ret (.int 18))))) (retS (lstE (argC (op2 oSub (rd 2) (op2 oPow (ret (.int 10)) (ret (.int 18)))) (argC (ret (.int 1)) (argC (ret (.int 0)) argN))))) skip) (retS (lstE (argC (rd 2) (argC (ret (.int 0)) (argC (op2 oMulA (ret (.int 67)) (rd 1)) argN)))))) [.im (.fz (ns.map .int)), .im (.int k), .im (.int cell)] = .ret d [.im (.fz (ns.map .int)), .im (.int k), .im (.int cell)] ∧ Pool 4288 d := fun cell => by
    by_cases h : 1000000000000000000 ≤ cell
    · refine ⟨_, ?_, cell - 1000000000000000000, 1, 0, rfl, by decide, by omega⟩
      simp -implicitDefEqProofs only [bM_ok, bM_exc, bR_ok, bR_exc, bS_nx, bS_ret, bS_exc, bO_some, bOM_some, selM_t, selM_f, selS_t, selS_f, rdO_im, rdO_ow, lookO_im, lookO_ow, lookO_mu, moveO_ow, ownO_ow, ownO_mu, putO_ow, putO_mu, ofDR_ret, ofDR_exc, ofDU_ret, ofDU_exc, endF_nx, endF_ret, endF_exc, endU_nx, endU_ret, endU_exc, e_runF, e_runU, e_bind, e_ret, e_lift, e_rd, e_look, e_move, e_ownC, e_putC, e_op2, e_op1, e_tst, e_notM, e_andM, e_orM, e_notE, e_andE, e_orE, e_iteE, e_chn, e_argN, e_argC, e_tupE, e_lstE, e_noP, e_partM, e_sl3, asStr_str, e_strM, e_callF, e_callU, e_useU, e_mutM, e_skip, e_seqS, e_ifS, e_exprS, e_retS, e_setS, e_ownS, e_stIx, e_tgS, e_tgN, e_tgT, e_tgCons, e_tgNil, parK_2, e_parS, e_forS, e_rng1M, e_rng2M, e_iterM, e_enumA, e_zipM, e_lcE, o_subI, o_addI, o_eqI, o_neI, o_eqS, o_neS, o_ltI, o_leI, o_gtI, o_geI, o_maxI, o_minI, o_lenL, o_lenF, o_lenT, o_negI, o_asB, o_isiS, List.map_cons, List.map_nil, List.length_cons, List.length_nil, List.cons_append, List.nil_append, List.append_nil, List.replicate_succ, List.replicate_zero, List.getElem?_cons_succ, List.getElem?_cons_zero, List.set_cons_succ, List.set_cons_zero, Option.map_some, Option.map_none, Option.bind_some, Option.bind_none, if_true, if_false, ite_true, ite_false, decide_true, decide_false, Bool.not_true, Bool.not_false, Nat.zero_add, Nat.reduceAdd, Nat.reduceSub, reduceIte, reduceCtorEq, Nat.reduceLT, Nat.reduceLeDiff, Int.reduceLT, Int.reduceLE, Int.reduceToNat, Int.reduceNeg, Int.reduceEq, Int.reduceSub, Int.reduceAdd, Int.reduceMul, Int.reducePow, tyOk, beq_self_eq_true, e_freeP1, e_freeP2, freeO_no, freeO_im, e_wipe1, e_wipe2, e_back1, e_back2, backO_s, o_iterL, o_iterF, o_iterT, Bool.and_true, sK_nx, sK_ret, tK_nx, tK_ret, e_tryS, e_raiseS, o_isE, o_isEN, o_notNN, o_notNE, o_isNN, o_isNE, e_prN, e_prC, e_dispE, e_zipA, o_zipSS, o_zipSL, o_zipLL, o_asI, e_callL, e_callLF, bRs_ok, e_bxK, bxKo_bx, e_bxPutK, e_bxAtK, e_bxL, bxLo_bx, e_bxSet2, e_lcEN, e_owbS, kOw_nx, e_owbO, owO_bx, o_lenDT, fix_nxt2, okB_nxt2, e_mkX, mkT_str, e_callLN, ofLF_t, ofLF_exc, ofLN_b, ofLN_exc, ofDL_bl, ofDL_int, ofDL_str, ofDL_non, ofDL_exc, e_killS, kK_nx, kK_ret, kK_exc, e_wipeC, e_wipeN, e_backC, e_backN, e_stp, e_lcs, joinC_t, joinC_f, joinC_ok, e_augI, augO_int, e_getE, e_dixE, asD_k, keyD_s, keyD_i, e_bSkK, e_kiY, e_frzS, kF_nx, e_frzO, fO_ow, e_freeP3, e_strX, e_rng3A, o_iterM, e_lckS, kL_nx, e_lckO, lO_k, lO_t, e_iterK, o_iterKk, o_iterKt, e_getA, e_dixA, isDct_k, isDct_t, isDct_fk, isDct_ft, oGetA_k, oGetA_fk, oGetA_t, oGetA_ft, id_eq, e_iterL, e_lookT, lookR_ok, frzA_c, frzA_n, frz_im', frz_ow', frz_mu', frz_no', e_runN, endN_nx, endN_ret, endN_exc, e_bxS, e_nwM, e_nxM, e_fixM, e_tupN, e_moveB, moveBO_bx, frz_bx', frz_mb', frzB_t, okB_nw, okB_int, okB_str, okB_lst, okB_tup, okB_non, okB_bl, okB_nxt, okB_nxl, okA_c, okA_n, fix_nw, fix_int, fix_str, fix_lst, fix_tup, fix_non, fix_bl, fix_nxt, fix_nxl, fixA_c, fixA_n, e_bxT, bxTO_bx, bxTD_nw, e_bxAtT, e_callUF, e_owbA, e_obF, obO_mb, obO_bx, e_imF, imO_im, e_bxO, bxOo_bx, bxOo_mb, e_bputO, bpO_mb, bpO_bx, lkp_c, fldD_nw, fldD_int, fldD_lst, e_lookF, e_fldS, e_fldC, fldCo_c, putFd_c, putFd_n, e_fldM, e_fldP, ofDM_ret, ofDM_exc, e_callB, e_callM, e_methM, mkO_ret, e_makeM, endM_nx, endM_ret, endM_exc, e_runM, e_mdIn, e_mdAt, e_valF, valO_s, e_obI, oiO_s, e_callV, e_methV, e_frzBS, kFB_nx, kFB_ret, e_frzBO, fBO_bx, okB_ob, okF_c, okF_n, fix_ob, fixF_c, fixF_n, sN_nx, sN_ret, tN_nx, tN_ret, e_tryN, e_fldQ, dkO_k, e_lookE, pow18, h]
    · refine ⟨_, ?_, cell, 0, 67 * k, rfl, by omega, by omega⟩
      simp -implicitDefEqProofs only [bM_ok, bM_exc, bR_ok, bR_exc, bS_nx, bS_ret, bS_exc, bO_some, bOM_some, selM_t, selM_f, selS_t, selS_f, rdO_im, rdO_ow, lookO_im, lookO_ow, lookO_mu, moveO_ow, ownO_ow, ownO_mu, putO_ow, putO_mu, ofDR_ret, ofDR_exc, ofDU_ret, ofDU_exc, endF_nx, endF_ret, endF_exc, endU_nx, endU_ret, endU_exc, e_runF, e_runU, e_bind, e_ret, e_lift, e_rd, e_look, e_move, e_ownC, e_putC, e_op2, e_op1, e_tst, e_notM, e_andM, e_orM, e_notE, e_andE, e_orE, e_iteE, e_chn, e_argN, e_argC, e_tupE, e_lstE, e_noP, e_partM, e_sl3, asStr_str, e_strM, e_callF, e_callU, e_useU, e_mutM, e_skip, e_seqS, e_ifS, e_exprS, e_retS, e_setS, e_ownS, e_stIx, e_tgS, e_tgN, e_tgT, e_tgCons, e_tgNil, parK_2, e_parS, e_forS, e_rng1M, e_rng2M, e_iterM, e_enumA, e_zipM, e_lcE, o_subI, o_addI, o_eqI, o_neI, o_eqS, o_neS, o_ltI, o_leI, o_gtI, o_geI, o_maxI, o_minI, o_lenL, o_lenF, o_lenT, o_negI, o_asB, o_isiS, List.map_cons, List.map_nil, List.length_cons, List.length_nil, List.cons_append, List.nil_append, List.append_nil, List.replicate_succ, List.replicate_zero, List.getElem?_cons_succ, List.getElem?_cons_zero, List.set_cons_succ, List.set_cons_zero, Option.map_some, Option.map_none, Option.bind_some, Option.bind_none, if_true, if_false, ite_true, ite_false, decide_true, decide_false, Bool.not_true, Bool.not_false, Nat.zero_add, Nat.reduceAdd, Nat.reduceSub, reduceIte, reduceCtorEq, Nat.reduceLT, Nat.reduceLeDiff, Int.reduceLT, Int.reduceLE, Int.reduceToNat, Int.reduceNeg, Int.reduceEq, Int.reduceSub, Int.reduceAdd, Int.reduceMul, Int.reducePow, tyOk, beq_self_eq_true, e_freeP1, e_freeP2, freeO_no, freeO_im, e_wipe1, e_wipe2, e_back1, e_back2, backO_s, o_iterL, o_iterF, o_iterT, Bool.and_true, sK_nx, sK_ret, tK_nx, tK_ret, e_tryS, e_raiseS, o_isE, o_isEN, o_notNN, o_notNE, o_isNN, o_isNE, e_prN, e_prC, e_dispE, e_zipA, o_zipSS, o_zipSL, o_zipLL, o_asI, e_callL, e_callLF, bRs_ok, e_bxK, bxKo_bx, e_bxPutK, e_bxAtK, e_bxL, bxLo_bx, e_bxSet2, e_lcEN, e_owbS, kOw_nx, e_owbO, owO_bx, o_lenDT, fix_nxt2, okB_nxt2, e_mkX, mkT_str, e_callLN, ofLF_t, ofLF_exc, ofLN_b, ofLN_exc, ofDL_bl, ofDL_int, ofDL_str, ofDL_non, ofDL_exc, e_killS, kK_nx, kK_ret, kK_exc, e_wipeC, e_wipeN, e_backC, e_backN, e_stp, e_lcs, joinC_t, joinC_f, joinC_ok, e_augI, augO_int, e_getE, e_dixE, asD_k, keyD_s, keyD_i, e_bSkK, e_kiY, e_frzS, kF_nx, e_frzO, fO_ow, e_freeP3, e_strX, e_rng3A, o_iterM, e_lckS, kL_nx, e_lckO, lO_k, lO_t, e_iterK, o_iterKk, o_iterKt, e_getA, e_dixA, isDct_k, isDct_t, isDct_fk, isDct_ft, oGetA_k, oGetA_fk, oGetA_t, oGetA_ft, id_eq, e_iterL, e_lookT, lookR_ok, frzA_c, frzA_n, frz_im', frz_ow', frz_mu', frz_no', e_runN, endN_nx, endN_ret, endN_exc, e_bxS, e_nwM, e_nxM, e_fixM, e_tupN, e_moveB, moveBO_bx, frz_bx', frz_mb', frzB_t, okB_nw, okB_int, okB_str, okB_lst, okB_tup, okB_non, okB_bl, okB_nxt, okB_nxl, okA_c, okA_n, fix_nw, fix_int, fix_str, fix_lst, fix_tup, fix_non, fix_bl, fix_nxt, fix_nxl, fixA_c, fixA_n, e_bxT, bxTO_bx, bxTD_nw, e_bxAtT, e_callUF, e_owbA, e_obF, obO_mb, obO_bx, e_imF, imO_im, e_bxO, bxOo_bx, bxOo_mb, e_bputO, bpO_mb, bpO_bx, lkp_c, fldD_nw, fldD_int, fldD_lst, e_lookF, e_fldS, e_fldC, fldCo_c, putFd_c, putFd_n, e_fldM, e_fldP, ofDM_ret, ofDM_exc, e_callB, e_callM, e_methM, mkO_ret, e_makeM, endM_nx, endM_ret, endM_exc, e_runM, e_mdIn, e_mdAt, e_valF, valO_s, e_obI, oiO_s, e_callV, e_methV, e_frzBS, kFB_nx, kFB_ret, e_frzBO, fBO_bx, okB_ob, okF_c, okF_n, fix_ob, fixF_c, fixF_n, sN_nx, sN_ret, tN_nx, tN_ret, e_tryN, e_fldQ, dkO_k, e_lookE, pow18, h, M]
  by_cases h : (k : Int) < (ns.length : Int)
  · have hk2 : k < ns.length := by omega
    obtain ⟨d, e, p⟩ := E ns[k]
    refine ⟨d, ?_, p⟩
    have hI : oIx (.fz (ns.map .int)) (.int k) = some (.int ns[k]) := by
      rw [o_ixF (by omega) (by rw [List.length_map]; exact h), Int.toNat_natCast, List.getElem?_map, List.getElem?_eq_getElem hk2]
      rfl
    unfold m__law_pool b__law_pool
    rw [e_runF, e_seqS, e_setS]
    simp -implicitDefEqProofs only [bM_ok, bM_exc, bR_ok, bR_exc, bS_nx, bS_ret, bS_exc, bO_some, bOM_some, selM_t, selM_f, selS_t, selS_f, rdO_im, rdO_ow, lookO_im, lookO_ow, lookO_mu, moveO_ow, ownO_ow, ownO_mu, putO_ow, putO_mu, ofDR_ret, ofDR_exc, ofDU_ret, ofDU_exc, endF_nx, endF_ret, endF_exc, endU_nx, endU_ret, endU_exc, e_runF, e_runU, e_bind, e_ret, e_lift, e_rd, e_look, e_move, e_ownC, e_putC, e_op2, e_op1, e_tst, e_notM, e_andM, e_orM, e_notE, e_andE, e_orE, e_iteE, e_chn, e_argN, e_argC, e_tupE, e_lstE, e_noP, e_partM, e_sl3, asStr_str, e_strM, e_callF, e_callU, e_useU, e_mutM, e_skip, e_seqS, e_ifS, e_exprS, e_retS, e_setS, e_ownS, e_stIx, e_tgS, e_tgN, e_tgT, e_tgCons, e_tgNil, parK_2, e_parS, e_forS, e_rng1M, e_rng2M, e_iterM, e_enumA, e_zipM, e_lcE, o_subI, o_addI, o_eqI, o_neI, o_eqS, o_neS, o_ltI, o_leI, o_gtI, o_geI, o_maxI, o_minI, o_lenL, o_lenF, o_lenT, o_negI, o_asB, o_isiS, List.map_cons, List.map_nil, List.length_cons, List.length_nil, List.cons_append, List.nil_append, List.append_nil, List.replicate_succ, List.replicate_zero, List.getElem?_cons_succ, List.getElem?_cons_zero, List.set_cons_succ, List.set_cons_zero, Option.map_some, Option.map_none, Option.bind_some, Option.bind_none, if_true, if_false, ite_true, ite_false, decide_true, decide_false, Bool.not_true, Bool.not_false, Nat.zero_add, Nat.reduceAdd, Nat.reduceSub, reduceIte, reduceCtorEq, Nat.reduceLT, Nat.reduceLeDiff, Int.reduceLT, Int.reduceLE, Int.reduceToNat, Int.reduceNeg, Int.reduceEq, Int.reduceSub, Int.reduceAdd, Int.reduceMul, Int.reducePow, tyOk, beq_self_eq_true, e_freeP1, e_freeP2, freeO_no, freeO_im, e_wipe1, e_wipe2, e_back1, e_back2, backO_s, o_iterL, o_iterF, o_iterT, Bool.and_true, sK_nx, sK_ret, tK_nx, tK_ret, e_tryS, e_raiseS, o_isE, o_isEN, o_notNN, o_notNE, o_isNN, o_isNE, e_prN, e_prC, e_dispE, e_zipA, o_zipSS, o_zipSL, o_zipLL, o_asI, e_callL, e_callLF, bRs_ok, e_bxK, bxKo_bx, e_bxPutK, e_bxAtK, e_bxL, bxLo_bx, e_bxSet2, e_lcEN, e_owbS, kOw_nx, e_owbO, owO_bx, o_lenDT, fix_nxt2, okB_nxt2, e_mkX, mkT_str, e_callLN, ofLF_t, ofLF_exc, ofLN_b, ofLN_exc, ofDL_bl, ofDL_int, ofDL_str, ofDL_non, ofDL_exc, e_killS, kK_nx, kK_ret, kK_exc, e_wipeC, e_wipeN, e_backC, e_backN, e_stp, e_lcs, joinC_t, joinC_f, joinC_ok, e_augI, augO_int, e_getE, e_dixE, asD_k, keyD_s, keyD_i, e_bSkK, e_kiY, e_frzS, kF_nx, e_frzO, fO_ow, e_freeP3, e_strX, e_rng3A, o_iterM, e_lckS, kL_nx, e_lckO, lO_k, lO_t, e_iterK, o_iterKk, o_iterKt, e_getA, e_dixA, isDct_k, isDct_t, isDct_fk, isDct_ft, oGetA_k, oGetA_fk, oGetA_t, oGetA_ft, id_eq, e_iterL, e_lookT, lookR_ok, frzA_c, frzA_n, frz_im', frz_ow', frz_mu', frz_no', e_runN, endN_nx, endN_ret, endN_exc, e_bxS, e_nwM, e_nxM, e_fixM, e_tupN, e_moveB, moveBO_bx, frz_bx', frz_mb', frzB_t, okB_nw, okB_int, okB_str, okB_lst, okB_tup, okB_non, okB_bl, okB_nxt, okB_nxl, okA_c, okA_n, fix_nw, fix_int, fix_str, fix_lst, fix_tup, fix_non, fix_bl, fix_nxt, fix_nxl, fixA_c, fixA_n, e_bxT, bxTO_bx, bxTD_nw, e_bxAtT, e_callUF, e_owbA, e_obF, obO_mb, obO_bx, e_imF, imO_im, e_bxO, bxOo_bx, bxOo_mb, e_bputO, bpO_mb, bpO_bx, lkp_c, fldD_nw, fldD_int, fldD_lst, e_lookF, e_fldS, e_fldC, fldCo_c, putFd_c, putFd_n, e_fldM, e_fldP, ofDM_ret, ofDM_exc, e_callB, e_callM, e_methM, mkO_ret, e_makeM, endM_nx, endM_ret, endM_exc, e_runM, e_mdIn, e_mdAt, e_valF, valO_s, e_obI, oiO_s, e_callV, e_methV, e_frzBS, kFB_nx, kFB_ret, e_frzBO, fBO_bx, okB_ob, okF_c, okF_n, fix_ob, fixF_c, fixF_n, sN_nx, sN_ret, tN_nx, tN_ret, e_tryN, e_fldQ, dkO_k, e_lookE, List.length_map, h, hI]
    simp -implicitDefEqProofs only [bM_ok, bM_exc, bR_ok, bR_exc, bS_nx, bS_ret, bS_exc, bO_some, bOM_some, selM_t, selM_f, selS_t, selS_f, rdO_im, rdO_ow, lookO_im, lookO_ow, lookO_mu, moveO_ow, ownO_ow, ownO_mu, putO_ow, putO_mu, ofDR_ret, ofDR_exc, ofDU_ret, ofDU_exc, endF_nx, endF_ret, endF_exc, endU_nx, endU_ret, endU_exc, e_runF, e_runU, e_bind, e_ret, e_lift, e_rd, e_look, e_move, e_ownC, e_putC, e_op2, e_op1, e_tst, e_notM, e_andM, e_orM, e_notE, e_andE, e_orE, e_iteE, e_chn, e_argN, e_argC, e_tupE, e_lstE, e_noP, e_partM, e_sl3, asStr_str, e_strM, e_callF, e_callU, e_useU, e_mutM, e_skip, e_seqS, e_ifS, e_exprS, e_retS, e_setS, e_ownS, e_stIx, e_tgS, e_tgN, e_tgT, e_tgCons, e_tgNil, parK_2, e_parS, e_forS, e_rng1M, e_rng2M, e_iterM, e_enumA, e_zipM, e_lcE, o_subI, o_addI, o_eqI, o_neI, o_eqS, o_neS, o_ltI, o_leI, o_gtI, o_geI, o_maxI, o_minI, o_lenL, o_lenF, o_lenT, o_negI, o_asB, o_isiS, List.map_cons, List.map_nil, List.length_cons, List.length_nil, List.cons_append, List.nil_append, List.append_nil, List.replicate_succ, List.replicate_zero, List.getElem?_cons_succ, List.getElem?_cons_zero, List.set_cons_succ, List.set_cons_zero, Option.map_some, Option.map_none, Option.bind_some, Option.bind_none, if_true, if_false, ite_true, ite_false, decide_true, decide_false, Bool.not_true, Bool.not_false, Nat.zero_add, Nat.reduceAdd, Nat.reduceSub, reduceIte, reduceCtorEq, Nat.reduceLT, Nat.reduceLeDiff, Int.reduceLT, Int.reduceLE, Int.reduceToNat, Int.reduceNeg, Int.reduceEq, Int.reduceSub, Int.reduceAdd, Int.reduceMul, Int.reducePow, tyOk, beq_self_eq_true, e_freeP1, e_freeP2, freeO_no, freeO_im, e_wipe1, e_wipe2, e_back1, e_back2, backO_s, o_iterL, o_iterF, o_iterT, Bool.and_true, sK_nx, sK_ret, tK_nx, tK_ret, e_tryS, e_raiseS, o_isE, o_isEN, o_notNN, o_notNE, o_isNN, o_isNE, e_prN, e_prC, e_dispE, e_zipA, o_zipSS, o_zipSL, o_zipLL, o_asI, e_callL, e_callLF, bRs_ok, e_bxK, bxKo_bx, e_bxPutK, e_bxAtK, e_bxL, bxLo_bx, e_bxSet2, e_lcEN, e_owbS, kOw_nx, e_owbO, owO_bx, o_lenDT, fix_nxt2, okB_nxt2, e_mkX, mkT_str, e_callLN, ofLF_t, ofLF_exc, ofLN_b, ofLN_exc, ofDL_bl, ofDL_int, ofDL_str, ofDL_non, ofDL_exc, e_killS, kK_nx, kK_ret, kK_exc, e_wipeC, e_wipeN, e_backC, e_backN, e_stp, e_lcs, joinC_t, joinC_f, joinC_ok, e_augI, augO_int, e_getE, e_dixE, asD_k, keyD_s, keyD_i, e_bSkK, e_kiY, e_frzS, kF_nx, e_frzO, fO_ow, e_freeP3, e_strX, e_rng3A, o_iterM, e_lckS, kL_nx, e_lckO, lO_k, lO_t, e_iterK, o_iterKk, o_iterKt, e_getA, e_dixA, isDct_k, isDct_t, isDct_fk, isDct_ft, oGetA_k, oGetA_fk, oGetA_t, oGetA_ft, id_eq, e_iterL, e_lookT, lookR_ok, frzA_c, frzA_n, frz_im', frz_ow', frz_mu', frz_no', e_runN, endN_nx, endN_ret, endN_exc, e_bxS, e_nwM, e_nxM, e_fixM, e_tupN, e_moveB, moveBO_bx, frz_bx', frz_mb', frzB_t, okB_nw, okB_int, okB_str, okB_lst, okB_tup, okB_non, okB_bl, okB_nxt, okB_nxl, okA_c, okA_n, fix_nw, fix_int, fix_str, fix_lst, fix_tup, fix_non, fix_bl, fix_nxt, fix_nxl, fixA_c, fixA_n, e_bxT, bxTO_bx, bxTD_nw, e_bxAtT, e_callUF, e_owbA, e_obF, obO_mb, obO_bx, e_imF, imO_im, e_bxO, bxOo_bx, bxOo_mb, e_bputO, bpO_mb, bpO_bx, lkp_c, fldD_nw, fldD_int, fldD_lst, e_lookF, e_fldS, e_fldC, fldCo_c, putFd_c, putFd_n, e_fldM, e_fldP, ofDM_ret, ofDM_exc, e_callB, e_callM, e_methM, mkO_ret, e_makeM, endM_nx, endM_ret, endM_exc, e_runM, e_mdIn, e_mdAt, e_valF, valO_s, e_obI, oiO_s, e_callV, e_methV, e_frzBS, kFB_nx, kFB_ret, e_frzBO, fBO_bx, okB_ob, okF_c, okF_n, fix_ob, fixF_c, fixF_n, sN_nx, sN_ret, tN_nx, tN_ret, e_tryN, e_fldQ, dkO_k, e_lookE] at e
    rw [e]
    rfl
  · obtain ⟨d, e, p⟩ := E 0
    refine ⟨d, ?_, p⟩
    simp -implicitDefEqProofs only [bM_ok, bM_exc, bR_ok, bR_exc, bS_nx, bS_ret, bS_exc, bO_some, bOM_some, selM_t, selM_f, selS_t, selS_f, rdO_im, rdO_ow, lookO_im, lookO_ow, lookO_mu, moveO_ow, ownO_ow, ownO_mu, putO_ow, putO_mu, ofDR_ret, ofDR_exc, ofDU_ret, ofDU_exc, endF_nx, endF_ret, endF_exc, endU_nx, endU_ret, endU_exc, e_runF, e_runU, e_bind, e_ret, e_lift, e_rd, e_look, e_move, e_ownC, e_putC, e_op2, e_op1, e_tst, e_notM, e_andM, e_orM, e_notE, e_andE, e_orE, e_iteE, e_chn, e_argN, e_argC, e_tupE, e_lstE, e_noP, e_partM, e_sl3, asStr_str, e_strM, e_callF, e_callU, e_useU, e_mutM, e_skip, e_seqS, e_ifS, e_exprS, e_retS, e_setS, e_ownS, e_stIx, e_tgS, e_tgN, e_tgT, e_tgCons, e_tgNil, parK_2, e_parS, e_forS, e_rng1M, e_rng2M, e_iterM, e_enumA, e_zipM, e_lcE, o_subI, o_addI, o_eqI, o_neI, o_eqS, o_neS, o_ltI, o_leI, o_gtI, o_geI, o_maxI, o_minI, o_lenL, o_lenF, o_lenT, o_negI, o_asB, o_isiS, List.map_cons, List.map_nil, List.length_cons, List.length_nil, List.cons_append, List.nil_append, List.append_nil, List.replicate_succ, List.replicate_zero, List.getElem?_cons_succ, List.getElem?_cons_zero, List.set_cons_succ, List.set_cons_zero, Option.map_some, Option.map_none, Option.bind_some, Option.bind_none, if_true, if_false, ite_true, ite_false, decide_true, decide_false, Bool.not_true, Bool.not_false, Nat.zero_add, Nat.reduceAdd, Nat.reduceSub, reduceIte, reduceCtorEq, Nat.reduceLT, Nat.reduceLeDiff, Int.reduceLT, Int.reduceLE, Int.reduceToNat, Int.reduceNeg, Int.reduceEq, Int.reduceSub, Int.reduceAdd, Int.reduceMul, Int.reducePow, tyOk, beq_self_eq_true, e_freeP1, e_freeP2, freeO_no, freeO_im, e_wipe1, e_wipe2, e_back1, e_back2, backO_s, o_iterL, o_iterF, o_iterT, Bool.and_true, sK_nx, sK_ret, tK_nx, tK_ret, e_tryS, e_raiseS, o_isE, o_isEN, o_notNN, o_notNE, o_isNN, o_isNE, e_prN, e_prC, e_dispE, e_zipA, o_zipSS, o_zipSL, o_zipLL, o_asI, e_callL, e_callLF, bRs_ok, e_bxK, bxKo_bx, e_bxPutK, e_bxAtK, e_bxL, bxLo_bx, e_bxSet2, e_lcEN, e_owbS, kOw_nx, e_owbO, owO_bx, o_lenDT, fix_nxt2, okB_nxt2, e_mkX, mkT_str, e_callLN, ofLF_t, ofLF_exc, ofLN_b, ofLN_exc, ofDL_bl, ofDL_int, ofDL_str, ofDL_non, ofDL_exc, e_killS, kK_nx, kK_ret, kK_exc, e_wipeC, e_wipeN, e_backC, e_backN, e_stp, e_lcs, joinC_t, joinC_f, joinC_ok, e_augI, augO_int, e_getE, e_dixE, asD_k, keyD_s, keyD_i, e_bSkK, e_kiY, e_frzS, kF_nx, e_frzO, fO_ow, e_freeP3, e_strX, e_rng3A, o_iterM, e_lckS, kL_nx, e_lckO, lO_k, lO_t, e_iterK, o_iterKk, o_iterKt, e_getA, e_dixA, isDct_k, isDct_t, isDct_fk, isDct_ft, oGetA_k, oGetA_fk, oGetA_t, oGetA_ft, id_eq, e_iterL, e_lookT, lookR_ok, frzA_c, frzA_n, frz_im', frz_ow', frz_mu', frz_no', e_runN, endN_nx, endN_ret, endN_exc, e_bxS, e_nwM, e_nxM, e_fixM, e_tupN, e_moveB, moveBO_bx, frz_bx', frz_mb', frzB_t, okB_nw, okB_int, okB_str, okB_lst, okB_tup, okB_non, okB_bl, okB_nxt, okB_nxl, okA_c, okA_n, fix_nw, fix_int, fix_str, fix_lst, fix_tup, fix_non, fix_bl, fix_nxt, fix_nxl, fixA_c, fixA_n, e_bxT, bxTO_bx, bxTD_nw, e_bxAtT, e_callUF, e_owbA, e_obF, obO_mb, obO_bx, e_imF, imO_im, e_bxO, bxOo_bx, bxOo_mb, e_bputO, bpO_mb, bpO_bx, lkp_c, fldD_nw, fldD_int, fldD_lst, e_lookF, e_fldS, e_fldC, fldCo_c, putFd_c, putFd_n, e_fldM, e_fldP, ofDM_ret, ofDM_exc, e_callB, e_callM, e_methM, mkO_ret, e_makeM, endM_nx, endM_ret, endM_exc, e_runM, e_mdIn, e_mdAt, e_valF, valO_s, e_obI, oiO_s, e_callV, e_methV, e_frzBS, kFB_nx, kFB_ret, e_frzBO, fBO_bx, okB_ob, okF_c, okF_n, fix_ob, fixF_c, fixF_n, sN_nx, sN_ret, tN_nx, tN_ret, e_tryN, e_fldQ, dkO_k, e_lookE] at e
    simp -implicitDefEqProofs only [m__law_pool, b__law_pool, bM_ok, bM_exc, bR_ok, bR_exc, bS_nx, bS_ret, bS_exc, bO_some, bOM_some, selM_t, selM_f, selS_t, selS_f, rdO_im, rdO_ow, lookO_im, lookO_ow, lookO_mu, moveO_ow, ownO_ow, ownO_mu, putO_ow, putO_mu, ofDR_ret, ofDR_exc, ofDU_ret, ofDU_exc, endF_nx, endF_ret, endF_exc, endU_nx, endU_ret, endU_exc, e_runF, e_runU, e_bind, e_ret, e_lift, e_rd, e_look, e_move, e_ownC, e_putC, e_op2, e_op1, e_tst, e_notM, e_andM, e_orM, e_notE, e_andE, e_orE, e_iteE, e_chn, e_argN, e_argC, e_tupE, e_lstE, e_noP, e_partM, e_sl3, asStr_str, e_strM, e_callF, e_callU, e_useU, e_mutM, e_skip, e_seqS, e_ifS, e_exprS, e_retS, e_setS, e_ownS, e_stIx, e_tgS, e_tgN, e_tgT, e_tgCons, e_tgNil, parK_2, e_parS, e_forS, e_rng1M, e_rng2M, e_iterM, e_enumA, e_zipM, e_lcE, o_subI, o_addI, o_eqI, o_neI, o_eqS, o_neS, o_ltI, o_leI, o_gtI, o_geI, o_maxI, o_minI, o_lenL, o_lenF, o_lenT, o_negI, o_asB, o_isiS, List.map_cons, List.map_nil, List.length_cons, List.length_nil, List.cons_append, List.nil_append, List.append_nil, List.replicate_succ, List.replicate_zero, List.getElem?_cons_succ, List.getElem?_cons_zero, List.set_cons_succ, List.set_cons_zero, Option.map_some, Option.map_none, Option.bind_some, Option.bind_none, if_true, if_false, ite_true, ite_false, decide_true, decide_false, Bool.not_true, Bool.not_false, Nat.zero_add, Nat.reduceAdd, Nat.reduceSub, reduceIte, reduceCtorEq, Nat.reduceLT, Nat.reduceLeDiff, Int.reduceLT, Int.reduceLE, Int.reduceToNat, Int.reduceNeg, Int.reduceEq, Int.reduceSub, Int.reduceAdd, Int.reduceMul, Int.reducePow, tyOk, beq_self_eq_true, e_freeP1, e_freeP2, freeO_no, freeO_im, e_wipe1, e_wipe2, e_back1, e_back2, backO_s, o_iterL, o_iterF, o_iterT, Bool.and_true, sK_nx, sK_ret, tK_nx, tK_ret, e_tryS, e_raiseS, o_isE, o_isEN, o_notNN, o_notNE, o_isNN, o_isNE, e_prN, e_prC, e_dispE, e_zipA, o_zipSS, o_zipSL, o_zipLL, o_asI, e_callL, e_callLF, bRs_ok, e_bxK, bxKo_bx, e_bxPutK, e_bxAtK, e_bxL, bxLo_bx, e_bxSet2, e_lcEN, e_owbS, kOw_nx, e_owbO, owO_bx, o_lenDT, fix_nxt2, okB_nxt2, e_mkX, mkT_str, e_callLN, ofLF_t, ofLF_exc, ofLN_b, ofLN_exc, ofDL_bl, ofDL_int, ofDL_str, ofDL_non, ofDL_exc, e_killS, kK_nx, kK_ret, kK_exc, e_wipeC, e_wipeN, e_backC, e_backN, e_stp, e_lcs, joinC_t, joinC_f, joinC_ok, e_augI, augO_int, e_getE, e_dixE, asD_k, keyD_s, keyD_i, e_bSkK, e_kiY, e_frzS, kF_nx, e_frzO, fO_ow, e_freeP3, e_strX, e_rng3A, o_iterM, e_lckS, kL_nx, e_lckO, lO_k, lO_t, e_iterK, o_iterKk, o_iterKt, e_getA, e_dixA, isDct_k, isDct_t, isDct_fk, isDct_ft, oGetA_k, oGetA_fk, oGetA_t, oGetA_ft, id_eq, e_iterL, e_lookT, lookR_ok, frzA_c, frzA_n, frz_im', frz_ow', frz_mu', frz_no', e_runN, endN_nx, endN_ret, endN_exc, e_bxS, e_nwM, e_nxM, e_fixM, e_tupN, e_moveB, moveBO_bx, frz_bx', frz_mb', frzB_t, okB_nw, okB_int, okB_str, okB_lst, okB_tup, okB_non, okB_bl, okB_nxt, okB_nxl, okA_c, okA_n, fix_nw, fix_int, fix_str, fix_lst, fix_tup, fix_non, fix_bl, fix_nxt, fix_nxl, fixA_c, fixA_n, e_bxT, bxTO_bx, bxTD_nw, e_bxAtT, e_callUF, e_owbA, e_obF, obO_mb, obO_bx, e_imF, imO_im, e_bxO, bxOo_bx, bxOo_mb, e_bputO, bpO_mb, bpO_bx, lkp_c, fldD_nw, fldD_int, fldD_lst, e_lookF, e_fldS, e_fldC, fldCo_c, putFd_c, putFd_n, e_fldM, e_fldP, ofDM_ret, ofDM_exc, e_callB, e_callM, e_methM, mkO_ret, e_makeM, endM_nx, endM_ret, endM_exc, e_runM, e_mdIn, e_mdAt, e_valF, valO_s, e_obI, oiO_s, e_callV, e_methV, e_frzBS, kFB_nx, kFB_ret, e_frzBO, fBO_bx, okB_ob, okF_c, okF_n, fix_ob, fixF_c, fixF_n, sN_nx, sN_ret, tN_nx, tN_ret, e_tryN, e_fldQ, dkO_k, e_lookE, List.length_map, h]
    rw [e]
    rfl
end Q

namespace Q
open PL
open PySem (Str)
/-- a table of texts -/
def Tab (h w : Nat) (T : List (List Nat)) : Prop := T.length = h ∧ ∀ r, r ∈ T → r.length = w ∧ ∀ c, c ∈ r → c < 128
/-! ### poses -/
theorem four {p : Nat → Prop} (h0 : p 0) (h1 : p 1) (h2 : p 2) (h3 : p 3) {t : Nat} (h : t < 4) : p t := by
  match t, h with
  | 0, _ => exact h0
  | 1, _ => exact h1
  | 2, _ => exact h2
  | 3, _ => exact h3
end Q

namespace Q
open PL
open PySem (Str)
/-! ### where a cell comes from -/
/-! ### a table in a pose -/
def hi (t h w : Nat) : Nat := if t % 2 = 1 then w else h
theorem row_at {T : List (List Nat)} {h w : Nat} {i : Int} (hT : Tab h w T) (h0 : 0 ≤ i) (h1 : i < h) : oIx (.lst (T.map .str)) (.int i) = some (.str (T.getD i.toNat [])) ∧ (T.getD i.toNat []).length = w := by
  have hi : i.toNat < T.length := by have := hT.1; omega
  have e : T.getD i.toNat [] = T[i.toNat] := by rw [List.getD_eq_getElem?_getD, List.getElem?_eq_getElem hi]; rfl
  rw [e]
  refine ⟨?_, (hT.2 _ (List.getElem_mem hi)).1⟩
  rw [o_ixL h0 (by rw [List.length_map]; omega), List.getElem?_map, List.getElem?_eq_getElem hi]
  rfl
theorem sign_at {s : List Nat} {w : Nat} {j : Int} (hs : s.length = w) (hz : w ≤ 1000) (h0 : 0 ≤ j) (h1 : j < w) : oIx (.str s) (.int j) = some (.str [s.getD j.toNat 0]) := by
  have hj : j.toNat < s.length := by omega
  rw [o_ixS (Nat.le_trans (Nat.le_of_eq hs) (Nat.le_trans hz (by decide))) h0 (by omega), List.getElem?_eq_getElem hj, List.getD_eq_getElem?_getD, List.getElem?_eq_getElem hj]
  rfl
end Q

namespace Q
open PL
open PySem (Str)
theorem tab_cps {h w : Nat} {T : List (List Nat)} (hT : Tab h w T) : Cps T := fun s hs c hc => Nat.lt_trans ((hT.2 s hs).2 c hc) (by decide)
end Q

namespace Q
open PL
open PySem (Str)
/-! ### the program's tables -/
def Sg (c : Nat) : Prop := 33 ≤ c ∧ c ≤ 126 ∧ c ≠ 37
/-- a little table: not empty, of good signs -/
structure Lit (h w : Nat) (T : List (List Nat)) : Prop where
  t : Tab h w T
  h0 : 0 < h
  w0 : 0 < w
  hh : h ≤ 1000
  hw : w ≤ 1000
  sg : ∀ r, r ∈ T → ∀ c, c ∈ r → Sg c
theorem is_row_ok {s : List Nat} (h : s ≠ []) (hl : s.length ≤ 1000) (hs : ∀ c, c ∈ s → Sg c) : m_is_row [.str s] = .ret (.bl true) .non := by
  have L := lc_filtL (vs := [1]) (h := tgN 1) (t := orM (notM (tst (chn oLe oLe (ret (.str [33])) (rd 1) (ret (.str [126]))))) (tst (op2 oEq (op1 oOrd (rd 1)) (ret K_PER_CENT)))) (el := rd 1) (τ := [.im (.str s), .no]) (A := s) (fun c => .str [c]) (fun c => .str [c]) (fun _ => false) (by omega) fun c hc => by
    obtain ⟨h1, h2, h3⟩ := hs c hc
    have h4 : ¬ ((c : Int) = 37) := by omega
    refine ⟨_, [.im (.str s), .im (.str [c])], rfl, ?_, fun _ => rfl, fun z => nomatch z⟩
    simp -implicitDefEqProofs only [bM_ok, bM_exc, bR_ok, bR_exc, bS_nx, bS_ret, bS_exc, bO_some, bOM_some, selM_t, selM_f, selS_t, selS_f, rdO_im, rdO_ow, lookO_im, lookO_ow, lookO_mu, moveO_ow, ownO_ow, ownO_mu, putO_ow, putO_mu, ofDR_ret, ofDR_exc, ofDU_ret, ofDU_exc, endF_nx, endF_ret, endF_exc, endU_nx, endU_ret, endU_exc, e_runF, e_runU, e_bind, e_ret, e_lift, e_rd, e_look, e_move, e_ownC, e_putC, e_op2, e_op1, e_tst, e_notM, e_andM, e_orM, e_notE, e_andE, e_orE, e_iteE, e_chn, e_argN, e_argC, e_tupE, e_lstE, e_noP, e_partM, e_sl3, asStr_str, e_strM, e_callF, e_callU, e_useU, e_mutM, e_skip, e_seqS, e_ifS, e_exprS, e_retS, e_setS, e_ownS, e_stIx, e_tgS, e_tgN, e_tgT, e_tgCons, e_tgNil, parK_2, e_parS, e_forS, e_rng1M, e_rng2M, e_iterM, e_enumA, e_zipM, e_lcE, o_subI, o_addI, o_eqI, o_neI, o_eqS, o_neS, o_ltI, o_leI, o_gtI, o_geI, o_maxI, o_minI, o_lenL, o_lenF, o_lenT, o_negI, o_asB, o_isiS, List.map_cons, List.map_nil, List.length_cons, List.length_nil, List.cons_append, List.nil_append, List.append_nil, List.replicate_succ, List.replicate_zero, List.getElem?_cons_succ, List.getElem?_cons_zero, List.set_cons_succ, List.set_cons_zero, Option.map_some, Option.map_none, Option.bind_some, Option.bind_none, if_true, if_false, ite_true, ite_false, decide_true, decide_false, Bool.not_true, Bool.not_false, Nat.zero_add, Nat.reduceAdd, Nat.reduceSub, reduceIte, reduceCtorEq, Nat.reduceLT, Nat.reduceLeDiff, Int.reduceLT, Int.reduceLE, Int.reduceToNat, Int.reduceNeg, Int.reduceEq, Int.reduceSub, Int.reduceAdd, Int.reduceMul, Int.reducePow, tyOk, beq_self_eq_true, e_freeP1, e_freeP2, freeO_no, freeO_im, e_wipe1, e_wipe2, e_back1, e_back2, backO_s, o_iterL, o_iterF, o_iterT, Bool.and_true, sK_nx, sK_ret, tK_nx, tK_ret, e_tryS, e_raiseS, o_isE, o_isEN, o_notNN, o_notNE, o_isNN, o_isNE, e_prN, e_prC, e_dispE, e_zipA, o_zipSS, o_zipSL, o_zipLL, o_asI, e_callL, e_callLF, bRs_ok, e_bxK, bxKo_bx, e_bxPutK, e_bxAtK, e_bxL, bxLo_bx, e_bxSet2, e_lcEN, e_owbS, kOw_nx, e_owbO, owO_bx, o_lenDT, fix_nxt2, okB_nxt2, e_mkX, mkT_str, e_callLN, ofLF_t, ofLF_exc, ofLN_b, ofLN_exc, ofDL_bl, ofDL_int, ofDL_str, ofDL_non, ofDL_exc, e_killS, kK_nx, kK_ret, kK_exc, e_wipeC, e_wipeN, e_backC, e_backN, e_stp, e_lcs, joinC_t, joinC_f, joinC_ok, e_augI, augO_int, e_getE, e_dixE, asD_k, keyD_s, keyD_i, e_bSkK, e_kiY, e_frzS, kF_nx, e_frzO, fO_ow, e_freeP3, e_strX, e_rng3A, o_iterM, e_lckS, kL_nx, e_lckO, lO_k, lO_t, e_iterK, o_iterKk, o_iterKt, e_getA, e_dixA, isDct_k, isDct_t, isDct_fk, isDct_ft, oGetA_k, oGetA_fk, oGetA_t, oGetA_ft, id_eq, e_iterL, e_lookT, lookR_ok, frzA_c, frzA_n, frz_im', frz_ow', frz_mu', frz_no', e_runN, endN_nx, endN_ret, endN_exc, e_bxS, e_nwM, e_nxM, e_fixM, e_tupN, e_moveB, moveBO_bx, frz_bx', frz_mb', frzB_t, okB_nw, okB_int, okB_str, okB_lst, okB_tup, okB_non, okB_bl, okB_nxt, okB_nxl, okA_c, okA_n, fix_nw, fix_int, fix_str, fix_lst, fix_tup, fix_non, fix_bl, fix_nxt, fix_nxl, fixA_c, fixA_n, e_bxT, bxTO_bx, bxTD_nw, e_bxAtT, e_callUF, e_owbA, e_obF, obO_mb, obO_bx, e_imF, imO_im, e_bxO, bxOo_bx, bxOo_mb, e_bputO, bpO_mb, bpO_bx, lkp_c, fldD_nw, fldD_int, fldD_lst, e_lookF, e_fldS, e_fldC, fldCo_c, putFd_c, putFd_n, e_fldM, e_fldP, ofDM_ret, ofDM_exc, e_callB, e_callM, e_methM, mkO_ret, e_makeM, endM_nx, endM_ret, endM_exc, e_runM, e_mdIn, e_mdAt, e_valF, valO_s, e_obI, oiO_s, e_callV, e_methV, e_frzBS, kFB_nx, kFB_ret, e_frzBO, fBO_bx, okB_ob, okF_c, okF_n, fix_ob, fixF_c, fixF_n, sN_nx, sN_ret, tN_nx, tN_ret, e_tryN, e_fldQ, dkO_k, e_lookE, le_one, h1, h2, show oOrd (.str [c]) = some (.int c) from rfl, h4]
  rw [List.filter_eq_nil_iff.mpr (fun _ _ => by simp)] at L
  have E : oEq (.lst []) (.lst []) = some (.bl true) := rfl
  simp -implicitDefEqProofs only [m_is_row, b_is_row, bM_ok, bM_exc, bR_ok, bR_exc, bS_nx, bS_ret, bS_exc, bO_some, bOM_some, selM_t, selM_f, selS_t, selS_f, rdO_im, rdO_ow, lookO_im, lookO_ow, lookO_mu, moveO_ow, ownO_ow, ownO_mu, putO_ow, putO_mu, ofDR_ret, ofDR_exc, ofDU_ret, ofDU_exc, endF_nx, endF_ret, endF_exc, endU_nx, endU_ret, endU_exc, e_runF, e_runU, e_bind, e_ret, e_lift, e_rd, e_look, e_move, e_ownC, e_putC, e_op2, e_op1, e_tst, e_notM, e_andM, e_orM, e_notE, e_andE, e_orE, e_iteE, e_chn, e_argN, e_argC, e_tupE, e_lstE, e_noP, e_partM, e_sl3, asStr_str, e_strM, e_callF, e_callU, e_useU, e_mutM, e_skip, e_seqS, e_ifS, e_exprS, e_retS, e_setS, e_ownS, e_stIx, e_tgS, e_tgN, e_tgT, e_tgCons, e_tgNil, parK_2, e_parS, e_forS, e_rng1M, e_rng2M, e_iterM, e_enumA, e_zipM, e_lcE, o_subI, o_addI, o_eqI, o_neI, o_eqS, o_neS, o_ltI, o_leI, o_gtI, o_geI, o_maxI, o_minI, o_lenL, o_lenF, o_lenT, o_negI, o_asB, o_isiS, List.map_cons, List.map_nil, List.length_cons, List.length_nil, List.cons_append, List.nil_append, List.append_nil, List.replicate_succ, List.replicate_zero, List.getElem?_cons_succ, List.getElem?_cons_zero, List.set_cons_succ, List.set_cons_zero, Option.map_some, Option.map_none, Option.bind_some, Option.bind_none, if_true, if_false, ite_true, ite_false, decide_true, decide_false, Bool.not_true, Bool.not_false, Nat.zero_add, Nat.reduceAdd, Nat.reduceSub, reduceIte, reduceCtorEq, Nat.reduceLT, Nat.reduceLeDiff, Int.reduceLT, Int.reduceLE, Int.reduceToNat, Int.reduceNeg, Int.reduceEq, Int.reduceSub, Int.reduceAdd, Int.reduceMul, Int.reducePow, tyOk, beq_self_eq_true, e_freeP1, e_freeP2, freeO_no, freeO_im, e_wipe1, e_wipe2, e_back1, e_back2, backO_s, o_iterL, o_iterF, o_iterT, Bool.and_true, sK_nx, sK_ret, tK_nx, tK_ret, e_tryS, e_raiseS, o_isE, o_isEN, o_notNN, o_notNE, o_isNN, o_isNE, e_prN, e_prC, e_dispE, e_zipA, o_zipSS, o_zipSL, o_zipLL, o_asI, e_callL, e_callLF, bRs_ok, e_bxK, bxKo_bx, e_bxPutK, e_bxAtK, e_bxL, bxLo_bx, e_bxSet2, e_lcEN, e_owbS, kOw_nx, e_owbO, owO_bx, o_lenDT, fix_nxt2, okB_nxt2, e_mkX, mkT_str, e_callLN, ofLF_t, ofLF_exc, ofLN_b, ofLN_exc, ofDL_bl, ofDL_int, ofDL_str, ofDL_non, ofDL_exc, e_killS, kK_nx, kK_ret, kK_exc, e_wipeC, e_wipeN, e_backC, e_backN, e_stp, e_lcs, joinC_t, joinC_f, joinC_ok, e_augI, augO_int, e_getE, e_dixE, asD_k, keyD_s, keyD_i, e_bSkK, e_kiY, e_frzS, kF_nx, e_frzO, fO_ow, e_freeP3, e_strX, e_rng3A, o_iterM, e_lckS, kL_nx, e_lckO, lO_k, lO_t, e_iterK, o_iterKk, o_iterKt, e_getA, e_dixA, isDct_k, isDct_t, isDct_fk, isDct_ft, oGetA_k, oGetA_fk, oGetA_t, oGetA_ft, id_eq, e_iterL, e_lookT, lookR_ok, frzA_c, frzA_n, frz_im', frz_ow', frz_mu', frz_no', e_runN, endN_nx, endN_ret, endN_exc, e_bxS, e_nwM, e_nxM, e_fixM, e_tupN, e_moveB, moveBO_bx, frz_bx', frz_mb', frzB_t, okB_nw, okB_int, okB_str, okB_lst, okB_tup, okB_non, okB_bl, okB_nxt, okB_nxl, okA_c, okA_n, fix_nw, fix_int, fix_str, fix_lst, fix_tup, fix_non, fix_bl, fix_nxt, fix_nxl, fixA_c, fixA_n, e_bxT, bxTO_bx, bxTD_nw, e_bxAtT, e_callUF, e_owbA, e_obF, obO_mb, obO_bx, e_imF, imO_im, e_bxO, bxOo_bx, bxOo_mb, e_bputO, bpO_mb, bpO_bx, lkp_c, fldD_nw, fldD_int, fldD_lst, e_lookF, e_fldS, e_fldC, fldCo_c, putFd_c, putFd_n, e_fldM, e_fldP, ofDM_ret, ofDM_exc, e_callB, e_callM, e_methM, mkO_ret, e_makeM, endM_nx, endM_ret, endM_exc, e_runM, e_mdIn, e_mdAt, e_valF, valO_s, e_obI, oiO_s, e_callV, e_methV, e_frzBS, kFB_nx, kFB_ret, e_frzBO, fBO_bx, okB_ob, okF_c, okF_n, fix_ob, fixF_c, fixF_n, sN_nx, sN_ret, tN_nx, tN_ret, e_tryN, e_fldQ, dkO_k, e_lookE, decide_eq_false h, iterS_map, L, E]
theorem is_little_ok {h w : Nat} {T : List (List Nat)} (hT : Lit h w T) : m_is_little [.lst (T.map .str)] = .ret (.bl true) .non := by
  have hne : T ≠ [] := fun e => by have := hT.t.1; rw [e] at this; have := hT.h0; simp at *; omega
  have hlen : T.length ≤ 1000 := by rw [hT.t.1]; exact hT.hh
  have row : ∀ r, r ∈ T → m_is_row [.str r] = .ret (.bl true) .non := fun r hr => is_row_ok (fun e => by
    have := (hT.t.2 r hr).1
    have := hT.w0
    rw [e] at *
    simp at *
    omega) (by rw [(hT.t.2 r hr).1]; exact hT.hw) (hT.sg r hr)
  have L1 := lc_filtL (vs := [1]) (h := tgN 1) (t := notM (tst (callF m_is_row (argC (rd 1) argN)))) (el := rd 1) (τ := [.im (.lst (T.map .str)), .no]) (A := T) .str .str (fun _ => false) (by omega) fun r hr => by
    refine ⟨_, [.im (.lst (T.map .str)), .im (.str r)], rfl, ?_, fun _ => rfl, fun z => nomatch z⟩
    simp -implicitDefEqProofs only [bM_ok, bM_exc, bR_ok, bR_exc, bS_nx, bS_ret, bS_exc, bO_some, bOM_some, selM_t, selM_f, selS_t, selS_f, rdO_im, rdO_ow, lookO_im, lookO_ow, lookO_mu, moveO_ow, ownO_ow, ownO_mu, putO_ow, putO_mu, ofDR_ret, ofDR_exc, ofDU_ret, ofDU_exc, endF_nx, endF_ret, endF_exc, endU_nx, endU_ret, endU_exc, e_runF, e_runU, e_bind, e_ret, e_lift, e_rd, e_look, e_move, e_ownC, e_putC, e_op2, e_op1, e_tst, e_notM, e_andM, e_orM, e_notE, e_andE, e_orE, e_iteE, e_chn, e_argN, e_argC, e_tupE, e_lstE, e_noP, e_partM, e_sl3, asStr_str, e_strM, e_callF, e_callU, e_useU, e_mutM, e_skip, e_seqS, e_ifS, e_exprS, e_retS, e_setS, e_ownS, e_stIx, e_tgS, e_tgN, e_tgT, e_tgCons, e_tgNil, parK_2, e_parS, e_forS, e_rng1M, e_rng2M, e_iterM, e_enumA, e_zipM, e_lcE, o_subI, o_addI, o_eqI, o_neI, o_eqS, o_neS, o_ltI, o_leI, o_gtI, o_geI, o_maxI, o_minI, o_lenL, o_lenF, o_lenT, o_negI, o_asB, o_isiS, List.map_cons, List.map_nil, List.length_cons, List.length_nil, List.cons_append, List.nil_append, List.append_nil, List.replicate_succ, List.replicate_zero, List.getElem?_cons_succ, List.getElem?_cons_zero, List.set_cons_succ, List.set_cons_zero, Option.map_some, Option.map_none, Option.bind_some, Option.bind_none, if_true, if_false, ite_true, ite_false, decide_true, decide_false, Bool.not_true, Bool.not_false, Nat.zero_add, Nat.reduceAdd, Nat.reduceSub, reduceIte, reduceCtorEq, Nat.reduceLT, Nat.reduceLeDiff, Int.reduceLT, Int.reduceLE, Int.reduceToNat, Int.reduceNeg, Int.reduceEq, Int.reduceSub, Int.reduceAdd, Int.reduceMul, Int.reducePow, tyOk, beq_self_eq_true, e_freeP1, e_freeP2, freeO_no, freeO_im, e_wipe1, e_wipe2, e_back1, e_back2, backO_s, o_iterL, o_iterF, o_iterT, Bool.and_true, sK_nx, sK_ret, tK_nx, tK_ret, e_tryS, e_raiseS, o_isE, o_isEN, o_notNN, o_notNE, o_isNN, o_isNE, e_prN, e_prC, e_dispE, e_zipA, o_zipSS, o_zipSL, o_zipLL, o_asI, e_callL, e_callLF, bRs_ok, e_bxK, bxKo_bx, e_bxPutK, e_bxAtK, e_bxL, bxLo_bx, e_bxSet2, e_lcEN, e_owbS, kOw_nx, e_owbO, owO_bx, o_lenDT, fix_nxt2, okB_nxt2, e_mkX, mkT_str, e_callLN, ofLF_t, ofLF_exc, ofLN_b, ofLN_exc, ofDL_bl, ofDL_int, ofDL_str, ofDL_non, ofDL_exc, e_killS, kK_nx, kK_ret, kK_exc, e_wipeC, e_wipeN, e_backC, e_backN, e_stp, e_lcs, joinC_t, joinC_f, joinC_ok, e_augI, augO_int, e_getE, e_dixE, asD_k, keyD_s, keyD_i, e_bSkK, e_kiY, e_frzS, kF_nx, e_frzO, fO_ow, e_freeP3, e_strX, e_rng3A, o_iterM, e_lckS, kL_nx, e_lckO, lO_k, lO_t, e_iterK, o_iterKk, o_iterKt, e_getA, e_dixA, isDct_k, isDct_t, isDct_fk, isDct_ft, oGetA_k, oGetA_fk, oGetA_t, oGetA_ft, id_eq, e_iterL, e_lookT, lookR_ok, frzA_c, frzA_n, frz_im', frz_ow', frz_mu', frz_no', e_runN, endN_nx, endN_ret, endN_exc, e_bxS, e_nwM, e_nxM, e_fixM, e_tupN, e_moveB, moveBO_bx, frz_bx', frz_mb', frzB_t, okB_nw, okB_int, okB_str, okB_lst, okB_tup, okB_non, okB_bl, okB_nxt, okB_nxl, okA_c, okA_n, fix_nw, fix_int, fix_str, fix_lst, fix_tup, fix_non, fix_bl, fix_nxt, fix_nxl, fixA_c, fixA_n, e_bxT, bxTO_bx, bxTD_nw, e_bxAtT, e_callUF, e_owbA, e_obF, obO_mb, obO_bx, e_imF, imO_im, e_bxO, bxOo_bx, bxOo_mb, e_bputO, bpO_mb, bpO_bx, lkp_c, fldD_nw, fldD_int, fldD_lst, e_lookF, e_fldS, e_fldC, fldCo_c, putFd_c, putFd_n, e_fldM, e_fldP, ofDM_ret, ofDM_exc, e_callB, e_callM, e_methM, mkO_ret, e_makeM, endM_nx, endM_ret, endM_exc, e_runM, e_mdIn, e_mdAt, e_valF, valO_s, e_obI, oiO_s, e_callV, e_methV, e_frzBS, kFB_nx, kFB_ret, e_frzBO, fBO_bx, okB_ob, okF_c, okF_n, fix_ob, fixF_c, fixF_n, sN_nx, sN_ret, tN_nx, tN_ret, e_tryN, e_fldQ, dkO_k, e_lookE, row r hr]
  obtain ⟨e1, l1⟩ := row_at hT.t (i := 0) (by decide) (by have := hT.h0; omega)
  have l2 : (T.getD 0 []).length = w := l1
  have e2 : oLen (.str (T.getD 0 [])) = some (.int w) := by rw [o_lenS (by rw [l2]; have := hT.hw; omega), l2]
  have L2 := lc_filtL (vs := [1]) (h := tgN 1) (t := tst (op2 oNe (op1 oLen (rd 1)) (op1 oLen (op2 oIx (rd 0) (ret (.int 0)))))) (el := rd 1) (τ := [.im (.lst (T.map .str)), .no]) (A := T) .str .str (fun _ => false) (by omega) fun r hr => by
    have lr := (hT.t.2 r hr).1
    have e3 : oLen (.str r) = some (.int w) := by rw [o_lenS (by rw [lr]; have := hT.hw; omega), lr]
    refine ⟨_, [.im (.lst (T.map .str)), .im (.str r)], rfl, ?_, fun _ => rfl, fun z => nomatch z⟩
    simp -implicitDefEqProofs only [bM_ok, bM_exc, bR_ok, bR_exc, bS_nx, bS_ret, bS_exc, bO_some, bOM_some, selM_t, selM_f, selS_t, selS_f, rdO_im, rdO_ow, lookO_im, lookO_ow, lookO_mu, moveO_ow, ownO_ow, ownO_mu, putO_ow, putO_mu, ofDR_ret, ofDR_exc, ofDU_ret, ofDU_exc, endF_nx, endF_ret, endF_exc, endU_nx, endU_ret, endU_exc, e_runF, e_runU, e_bind, e_ret, e_lift, e_rd, e_look, e_move, e_ownC, e_putC, e_op2, e_op1, e_tst, e_notM, e_andM, e_orM, e_notE, e_andE, e_orE, e_iteE, e_chn, e_argN, e_argC, e_tupE, e_lstE, e_noP, e_partM, e_sl3, asStr_str, e_strM, e_callF, e_callU, e_useU, e_mutM, e_skip, e_seqS, e_ifS, e_exprS, e_retS, e_setS, e_ownS, e_stIx, e_tgS, e_tgN, e_tgT, e_tgCons, e_tgNil, parK_2, e_parS, e_forS, e_rng1M, e_rng2M, e_iterM, e_enumA, e_zipM, e_lcE, o_subI, o_addI, o_eqI, o_neI, o_eqS, o_neS, o_ltI, o_leI, o_gtI, o_geI, o_maxI, o_minI, o_lenL, o_lenF, o_lenT, o_negI, o_asB, o_isiS, List.map_cons, List.map_nil, List.length_cons, List.length_nil, List.cons_append, List.nil_append, List.append_nil, List.replicate_succ, List.replicate_zero, List.getElem?_cons_succ, List.getElem?_cons_zero, List.set_cons_succ, List.set_cons_zero, Option.map_some, Option.map_none, Option.bind_some, Option.bind_none, if_true, if_false, ite_true, ite_false, decide_true, decide_false, Bool.not_true, Bool.not_false, Nat.zero_add, Nat.reduceAdd, Nat.reduceSub, reduceIte, reduceCtorEq, Nat.reduceLT, Nat.reduceLeDiff, Int.reduceLT, Int.reduceLE, Int.reduceToNat, Int.reduceNeg, Int.reduceEq, Int.reduceSub, Int.reduceAdd, Int.reduceMul, Int.reducePow, tyOk, beq_self_eq_true, e_freeP1, e_freeP2, freeO_no, freeO_im, e_wipe1, e_wipe2, e_back1, e_back2, backO_s, o_iterL, o_iterF, o_iterT, Bool.and_true, sK_nx, sK_ret, tK_nx, tK_ret, e_tryS, e_raiseS, o_isE, o_isEN, o_notNN, o_notNE, o_isNN, o_isNE, e_prN, e_prC, e_dispE, e_zipA, o_zipSS, o_zipSL, o_zipLL, o_asI, e_callL, e_callLF, bRs_ok, e_bxK, bxKo_bx, e_bxPutK, e_bxAtK, e_bxL, bxLo_bx, e_bxSet2, e_lcEN, e_owbS, kOw_nx, e_owbO, owO_bx, o_lenDT, fix_nxt2, okB_nxt2, e_mkX, mkT_str, e_callLN, ofLF_t, ofLF_exc, ofLN_b, ofLN_exc, ofDL_bl, ofDL_int, ofDL_str, ofDL_non, ofDL_exc, e_killS, kK_nx, kK_ret, kK_exc, e_wipeC, e_wipeN, e_backC, e_backN, e_stp, e_lcs, joinC_t, joinC_f, joinC_ok, e_augI, augO_int, e_getE, e_dixE, asD_k, keyD_s, keyD_i, e_bSkK, e_kiY, e_frzS, kF_nx, e_frzO, fO_ow, e_freeP3, e_strX, e_rng3A, o_iterM, e_lckS, kL_nx, e_lckO, lO_k, lO_t, e_iterK, o_iterKk, o_iterKt, e_getA, e_dixA, isDct_k, isDct_t, isDct_fk, isDct_ft, oGetA_k, oGetA_fk, oGetA_t, oGetA_ft, id_eq, e_iterL, e_lookT, lookR_ok, frzA_c, frzA_n, frz_im', frz_ow', frz_mu', frz_no', e_runN, endN_nx, endN_ret, endN_exc, e_bxS, e_nwM, e_nxM, e_fixM, e_tupN, e_moveB, moveBO_bx, frz_bx', frz_mb', frzB_t, okB_nw, okB_int, okB_str, okB_lst, okB_tup, okB_non, okB_bl, okB_nxt, okB_nxl, okA_c, okA_n, fix_nw, fix_int, fix_str, fix_lst, fix_tup, fix_non, fix_bl, fix_nxt, fix_nxl, fixA_c, fixA_n, e_bxT, bxTO_bx, bxTD_nw, e_bxAtT, e_callUF, e_owbA, e_obF, obO_mb, obO_bx, e_imF, imO_im, e_bxO, bxOo_bx, bxOo_mb, e_bputO, bpO_mb, bpO_bx, lkp_c, fldD_nw, fldD_int, fldD_lst, e_lookF, e_fldS, e_fldC, fldCo_c, putFd_c, putFd_n, e_fldM, e_fldP, ofDM_ret, ofDM_exc, e_callB, e_callM, e_methM, mkO_ret, e_makeM, endM_nx, endM_ret, endM_exc, e_runM, e_mdIn, e_mdAt, e_valF, valO_s, e_obI, oiO_s, e_callV, e_methV, e_frzBS, kFB_nx, kFB_ret, e_frzBO, fBO_bx, okB_ob, okF_c, okF_n, fix_ob, fixF_c, fixF_n, sN_nx, sN_ret, tN_nx, tN_ret, e_tryN, e_fldQ, dkO_k, e_lookE, e1, e2, e3]
  rw [List.filter_eq_nil_iff.mpr (fun _ _ => by simp)] at L1 L2
  have E : oEq (.lst []) (.lst []) = some (.bl true) := rfl
  have E2 : oNe (.lst []) (.lst []) = some (.bl false) := rfl
  have I : oIsi "list" (.lst (T.map .str)) = some (.bl true) := rfl
  simp -implicitDefEqProofs only [m_is_little, b_is_little, bM_ok, bM_exc, bR_ok, bR_exc, bS_nx, bS_ret, bS_exc, bO_some, bOM_some, selM_t, selM_f, selS_t, selS_f, rdO_im, rdO_ow, lookO_im, lookO_ow, lookO_mu, moveO_ow, ownO_ow, ownO_mu, putO_ow, putO_mu, ofDR_ret, ofDR_exc, ofDU_ret, ofDU_exc, endF_nx, endF_ret, endF_exc, endU_nx, endU_ret, endU_exc, e_runF, e_runU, e_bind, e_ret, e_lift, e_rd, e_look, e_move, e_ownC, e_putC, e_op2, e_op1, e_tst, e_notM, e_andM, e_orM, e_notE, e_andE, e_orE, e_iteE, e_chn, e_argN, e_argC, e_tupE, e_lstE, e_noP, e_partM, e_sl3, asStr_str, e_strM, e_callF, e_callU, e_useU, e_mutM, e_skip, e_seqS, e_ifS, e_exprS, e_retS, e_setS, e_ownS, e_stIx, e_tgS, e_tgN, e_tgT, e_tgCons, e_tgNil, parK_2, e_parS, e_forS, e_rng1M, e_rng2M, e_iterM, e_enumA, e_zipM, e_lcE, o_subI, o_addI, o_eqI, o_neI, o_eqS, o_neS, o_ltI, o_leI, o_gtI, o_geI, o_maxI, o_minI, o_lenL, o_lenF, o_lenT, o_negI, o_asB, o_isiS, List.map_cons, List.map_nil, List.length_cons, List.length_nil, List.cons_append, List.nil_append, List.append_nil, List.replicate_succ, List.replicate_zero, List.getElem?_cons_succ, List.getElem?_cons_zero, List.set_cons_succ, List.set_cons_zero, Option.map_some, Option.map_none, Option.bind_some, Option.bind_none, if_true, if_false, ite_true, ite_false, decide_true, decide_false, Bool.not_true, Bool.not_false, Nat.zero_add, Nat.reduceAdd, Nat.reduceSub, reduceIte, reduceCtorEq, Nat.reduceLT, Nat.reduceLeDiff, Int.reduceLT, Int.reduceLE, Int.reduceToNat, Int.reduceNeg, Int.reduceEq, Int.reduceSub, Int.reduceAdd, Int.reduceMul, Int.reducePow, tyOk, beq_self_eq_true, e_freeP1, e_freeP2, freeO_no, freeO_im, e_wipe1, e_wipe2, e_back1, e_back2, backO_s, o_iterL, o_iterF, o_iterT, Bool.and_true, sK_nx, sK_ret, tK_nx, tK_ret, e_tryS, e_raiseS, o_isE, o_isEN, o_notNN, o_notNE, o_isNN, o_isNE, e_prN, e_prC, e_dispE, e_zipA, o_zipSS, o_zipSL, o_zipLL, o_asI, e_callL, e_callLF, bRs_ok, e_bxK, bxKo_bx, e_bxPutK, e_bxAtK, e_bxL, bxLo_bx, e_bxSet2, e_lcEN, e_owbS, kOw_nx, e_owbO, owO_bx, o_lenDT, fix_nxt2, okB_nxt2, e_mkX, mkT_str, e_callLN, ofLF_t, ofLF_exc, ofLN_b, ofLN_exc, ofDL_bl, ofDL_int, ofDL_str, ofDL_non, ofDL_exc, e_killS, kK_nx, kK_ret, kK_exc, e_wipeC, e_wipeN, e_backC, e_backN, e_stp, e_lcs, joinC_t, joinC_f, joinC_ok, e_augI, augO_int, e_getE, e_dixE, asD_k, keyD_s, keyD_i, e_bSkK, e_kiY, e_frzS, kF_nx, e_frzO, fO_ow, e_freeP3, e_strX, e_rng3A, o_iterM, e_lckS, kL_nx, e_lckO, lO_k, lO_t, e_iterK, o_iterKk, o_iterKt, e_getA, e_dixA, isDct_k, isDct_t, isDct_fk, isDct_ft, oGetA_k, oGetA_fk, oGetA_t, oGetA_ft, id_eq, e_iterL, e_lookT, lookR_ok, frzA_c, frzA_n, frz_im', frz_ow', frz_mu', frz_no', e_runN, endN_nx, endN_ret, endN_exc, e_bxS, e_nwM, e_nxM, e_fixM, e_tupN, e_moveB, moveBO_bx, frz_bx', frz_mb', frzB_t, okB_nw, okB_int, okB_str, okB_lst, okB_tup, okB_non, okB_bl, okB_nxt, okB_nxl, okA_c, okA_n, fix_nw, fix_int, fix_str, fix_lst, fix_tup, fix_non, fix_bl, fix_nxt, fix_nxl, fixA_c, fixA_n, e_bxT, bxTO_bx, bxTD_nw, e_bxAtT, e_callUF, e_owbA, e_obF, obO_mb, obO_bx, e_imF, imO_im, e_bxO, bxOo_bx, bxOo_mb, e_bputO, bpO_mb, bpO_bx, lkp_c, fldD_nw, fldD_int, fldD_lst, e_lookF, e_fldS, e_fldC, fldCo_c, putFd_c, putFd_n, e_fldM, e_fldP, ofDM_ret, ofDM_exc, e_callB, e_callM, e_methM, mkO_ret, e_makeM, endM_nx, endM_ret, endM_exc, e_runM, e_mdIn, e_mdAt, e_valF, valO_s, e_obI, oiO_s, e_callV, e_methV, e_frzBS, kFB_nx, kFB_ret, e_frzBO, fBO_bx, okB_ob, okF_c, okF_n, fix_ob, fixF_c, fixF_n, sN_nx, sN_ret, tN_nx, tN_ret, e_tryN, e_fldQ, dkO_k, e_lookE, I, o_eqNil (tab_cps hT.t), decide_eq_false hne, L1, L2, E, E2]
theorem need_little_ok {h w : Nat} {T : List (List Nat)} (hT : Lit h w T) : m_need_little [.lst (T.map .str)] = .ret .non .non := by
  simp -implicitDefEqProofs only [m_need_little, b_need_little, bM_ok, bM_exc, bR_ok, bR_exc, bS_nx, bS_ret, bS_exc, bO_some, bOM_some, selM_t, selM_f, selS_t, selS_f, rdO_im, rdO_ow, lookO_im, lookO_ow, lookO_mu, moveO_ow, ownO_ow, ownO_mu, putO_ow, putO_mu, ofDR_ret, ofDR_exc, ofDU_ret, ofDU_exc, endF_nx, endF_ret, endF_exc, endU_nx, endU_ret, endU_exc, e_runF, e_runU, e_bind, e_ret, e_lift, e_rd, e_look, e_move, e_ownC, e_putC, e_op2, e_op1, e_tst, e_notM, e_andM, e_orM, e_notE, e_andE, e_orE, e_iteE, e_chn, e_argN, e_argC, e_tupE, e_lstE, e_noP, e_partM, e_sl3, asStr_str, e_strM, e_callF, e_callU, e_useU, e_mutM, e_skip, e_seqS, e_ifS, e_exprS, e_retS, e_setS, e_ownS, e_stIx, e_tgS, e_tgN, e_tgT, e_tgCons, e_tgNil, parK_2, e_parS, e_forS, e_rng1M, e_rng2M, e_iterM, e_enumA, e_zipM, e_lcE, o_subI, o_addI, o_eqI, o_neI, o_eqS, o_neS, o_ltI, o_leI, o_gtI, o_geI, o_maxI, o_minI, o_lenL, o_lenF, o_lenT, o_negI, o_asB, o_isiS, List.map_cons, List.map_nil, List.length_cons, List.length_nil, List.cons_append, List.nil_append, List.append_nil, List.replicate_succ, List.replicate_zero, List.getElem?_cons_succ, List.getElem?_cons_zero, List.set_cons_succ, List.set_cons_zero, Option.map_some, Option.map_none, Option.bind_some, Option.bind_none, if_true, if_false, ite_true, ite_false, decide_true, decide_false, Bool.not_true, Bool.not_false, Nat.zero_add, Nat.reduceAdd, Nat.reduceSub, reduceIte, reduceCtorEq, Nat.reduceLT, Nat.reduceLeDiff, Int.reduceLT, Int.reduceLE, Int.reduceToNat, Int.reduceNeg, Int.reduceEq, Int.reduceSub, Int.reduceAdd, Int.reduceMul, Int.reducePow, tyOk, beq_self_eq_true, e_freeP1, e_freeP2, freeO_no, freeO_im, e_wipe1, e_wipe2, e_back1, e_back2, backO_s, o_iterL, o_iterF, o_iterT, Bool.and_true, sK_nx, sK_ret, tK_nx, tK_ret, e_tryS, e_raiseS, o_isE, o_isEN, o_notNN, o_notNE, o_isNN, o_isNE, e_prN, e_prC, e_dispE, e_zipA, o_zipSS, o_zipSL, o_zipLL, o_asI, e_callL, e_callLF, bRs_ok, e_bxK, bxKo_bx, e_bxPutK, e_bxAtK, e_bxL, bxLo_bx, e_bxSet2, e_lcEN, e_owbS, kOw_nx, e_owbO, owO_bx, o_lenDT, fix_nxt2, okB_nxt2, e_mkX, mkT_str, e_callLN, ofLF_t, ofLF_exc, ofLN_b, ofLN_exc, ofDL_bl, ofDL_int, ofDL_str, ofDL_non, ofDL_exc, e_killS, kK_nx, kK_ret, kK_exc, e_wipeC, e_wipeN, e_backC, e_backN, e_stp, e_lcs, joinC_t, joinC_f, joinC_ok, e_augI, augO_int, e_getE, e_dixE, asD_k, keyD_s, keyD_i, e_bSkK, e_kiY, e_frzS, kF_nx, e_frzO, fO_ow, e_freeP3, e_strX, e_rng3A, o_iterM, e_lckS, kL_nx, e_lckO, lO_k, lO_t, e_iterK, o_iterKk, o_iterKt, e_getA, e_dixA, isDct_k, isDct_t, isDct_fk, isDct_ft, oGetA_k, oGetA_fk, oGetA_t, oGetA_ft, id_eq, e_iterL, e_lookT, lookR_ok, frzA_c, frzA_n, frz_im', frz_ow', frz_mu', frz_no', e_runN, endN_nx, endN_ret, endN_exc, e_bxS, e_nwM, e_nxM, e_fixM, e_tupN, e_moveB, moveBO_bx, frz_bx', frz_mb', frzB_t, okB_nw, okB_int, okB_str, okB_lst, okB_tup, okB_non, okB_bl, okB_nxt, okB_nxl, okA_c, okA_n, fix_nw, fix_int, fix_str, fix_lst, fix_tup, fix_non, fix_bl, fix_nxt, fix_nxl, fixA_c, fixA_n, e_bxT, bxTO_bx, bxTD_nw, e_bxAtT, e_callUF, e_owbA, e_obF, obO_mb, obO_bx, e_imF, imO_im, e_bxO, bxOo_bx, bxOo_mb, e_bputO, bpO_mb, bpO_bx, lkp_c, fldD_nw, fldD_int, fldD_lst, e_lookF, e_fldS, e_fldC, fldCo_c, putFd_c, putFd_n, e_fldM, e_fldP, ofDM_ret, ofDM_exc, e_callB, e_callM, e_methM, mkO_ret, e_makeM, endM_nx, endM_ret, endM_exc, e_runM, e_mdIn, e_mdAt, e_valF, valO_s, e_obI, oiO_s, e_callV, e_methV, e_frzBS, kFB_nx, kFB_ret, e_frzBO, fBO_bx, okB_ob, okF_c, okF_n, fix_ob, fixF_c, fixF_n, sN_nx, sN_ret, tN_nx, tN_ret, e_tryN, e_fldQ, dkO_k, e_lookE, is_little_ok hT]
end Q

/-! CH: helpers over Lit -/
namespace Q
open PL
open PySem (Str)
theorem Lit.mk' {h w : Nat} {T : List (List Nat)} (h0 : 0 < h) (w0 : 0 < w) (hh : h ≤ 1000) (hw : w ≤ 1000) (hl : T.length = h) (hT : ∀ r, r ∈ T → r.length = w ∧ ∀ c, c ∈ r → Sg c) : Lit h w T :=
  ⟨⟨hl, fun r hr => ⟨(hT r hr).1, fun c hc => by have := (hT r hr).2 c hc; unfold Sg at this; omega⟩⟩, h0, w0, hh, hw, fun r hr => (hT r hr).2⟩
end Q

namespace Q
open PL
open PySem (Str)
/-! ### the law's own tables -/
theorem Pool.mono {n m : Nat} {d : D} (h : Pool n d) (hm : n ≤ m) : Pool m d := by
  obtain ⟨a, b, c, e, h0, hc⟩ := h
  exact ⟨a, b, c, e, h0, by omega⟩
theorem T1_len : T_1.length = 92 := rfl
theorem T1_all : (T_1.all fun c => decide (33 ≤ c) && decide (c ≤ 126) && decide (c ≠ 37)) = true := rfl
theorem T1_sg {c : Nat} (h : c ∈ T_1) : Sg c := by
  have := List.all_eq_true.mp T1_all c h
  simp only [Bool.and_eq_true, decide_eq_true_eq] at this
  exact ⟨this.1.1, this.1.2, this.2⟩
theorem getD_mem {s : List Nat} {j : Nat} (h : j < s.length) : s.getD j 0 ∈ s := by
  rw [List.getD_eq_getElem?_getD, List.getElem?_eq_getElem h]
  exact List.getElem_mem h
theorem sign_ok {n : Nat} {d : D} {few : Int} (h : Pool n d) (hn : n < 2 ^ 59) (h0 : 0 ≤ few) (h4 : few ≤ 4) : ∃ c d', m__law_sign [d, .int few] = .ret (.str [c]) d' ∧ Sg c ∧ Pool (n + 1) d' := by
  by_cases hf : 0 < few
  · obtain ⟨v, d', e, v0, v1, hP⟩ := take_ok h hn hf (by omega)
    have e2 := sign_at (s := [35, 46, 97, 98]) (w := 4) (j := v) rfl (by decide) v0 (by omega)
    have hm := getD_mem (s := [35, 46, 97, 98]) (j := v.toNat) (by simp only [List.length_cons, List.length_nil]; omega)
    generalize List.getD [35, 46, 97, 98] v.toNat 0 = x at e2 hm
    refine ⟨x, d', ?_, ?_, hP⟩
    rotate_left
    · simp only [List.mem_cons, List.not_mem_nil, or_false] at hm
      unfold Sg
      omega
    · simp -implicitDefEqProofs only [m__law_sign, b__law_sign, bM_ok, bM_exc, bR_ok, bR_exc, bS_nx, bS_ret, bS_exc, bO_some, bOM_some, selM_t, selM_f, selS_t, selS_f, rdO_im, rdO_ow, lookO_im, lookO_ow, lookO_mu, moveO_ow, ownO_ow, ownO_mu, putO_ow, putO_mu, ofDR_ret, ofDR_exc, ofDU_ret, ofDU_exc, endF_nx, endF_ret, endF_exc, endU_nx, endU_ret, endU_exc, e_runF, e_runU, e_bind, e_ret, e_lift, e_rd, e_look, e_move, e_ownC, e_putC, e_op2, e_op1, e_tst, e_notM, e_andM, e_orM, e_notE, e_andE, e_orE, e_iteE, e_chn, e_argN, e_argC, e_tupE, e_lstE, e_noP, e_partM, e_sl3, asStr_str, e_strM, e_callF, e_callU, e_useU, e_mutM, e_skip, e_seqS, e_ifS, e_exprS, e_retS, e_setS, e_ownS, e_stIx, e_tgS, e_tgN, e_tgT, e_tgCons, e_tgNil, parK_2, e_parS, e_forS, e_rng1M, e_rng2M, e_iterM, e_enumA, e_zipM, e_lcE, o_subI, o_addI, o_eqI, o_neI, o_eqS, o_neS, o_ltI, o_leI, o_gtI, o_geI, o_maxI, o_minI, o_lenL, o_lenF, o_lenT, o_negI, o_asB, o_isiS, List.map_cons, List.map_nil, List.length_cons, List.length_nil, List.cons_append, List.nil_append, List.append_nil, List.replicate_succ, List.replicate_zero, List.getElem?_cons_succ, List.getElem?_cons_zero, List.set_cons_succ, List.set_cons_zero, Option.map_some, Option.map_none, Option.bind_some, Option.bind_none, if_true, if_false, ite_true, ite_false, decide_true, decide_false, Bool.not_true, Bool.not_false, Nat.zero_add, Nat.reduceAdd, Nat.reduceSub, reduceIte, reduceCtorEq, Nat.reduceLT, Nat.reduceLeDiff, Int.reduceLT, Int.reduceLE, Int.reduceToNat, Int.reduceNeg, Int.reduceEq, Int.reduceSub, Int.reduceAdd, Int.reduceMul, Int.reducePow, tyOk, beq_self_eq_true, e_freeP1, e_freeP2, freeO_no, freeO_im, e_wipe1, e_wipe2, e_back1, e_back2, backO_s, o_iterL, o_iterF, o_iterT, Bool.and_true, sK_nx, sK_ret, tK_nx, tK_ret, e_tryS, e_raiseS, o_isE, o_isEN, o_notNN, o_notNE, o_isNN, o_isNE, e_prN, e_prC, e_dispE, e_zipA, o_zipSS, o_zipSL, o_zipLL, o_asI, e_callL, e_callLF, bRs_ok, e_bxK, bxKo_bx, e_bxPutK, e_bxAtK, e_bxL, bxLo_bx, e_bxSet2, e_lcEN, e_owbS, kOw_nx, e_owbO, owO_bx, o_lenDT, fix_nxt2, okB_nxt2, e_mkX, mkT_str, e_callLN, ofLF_t, ofLF_exc, ofLN_b, ofLN_exc, ofDL_bl, ofDL_int, ofDL_str, ofDL_non, ofDL_exc, e_killS, kK_nx, kK_ret, kK_exc, e_wipeC, e_wipeN, e_backC, e_backN, e_stp, e_lcs, joinC_t, joinC_f, joinC_ok, e_augI, augO_int, e_getE, e_dixE, asD_k, keyD_s, keyD_i, e_bSkK, e_kiY, e_frzS, kF_nx, e_frzO, fO_ow, e_freeP3, e_strX, e_rng3A, o_iterM, e_lckS, kL_nx, e_lckO, lO_k, lO_t, e_iterK, o_iterKk, o_iterKt, e_getA, e_dixA, isDct_k, isDct_t, isDct_fk, isDct_ft, oGetA_k, oGetA_fk, oGetA_t, oGetA_ft, id_eq, e_iterL, e_lookT, lookR_ok, frzA_c, frzA_n, frz_im', frz_ow', frz_mu', frz_no', e_runN, endN_nx, endN_ret, endN_exc, e_bxS, e_nwM, e_nxM, e_fixM, e_tupN, e_moveB, moveBO_bx, frz_bx', frz_mb', frzB_t, okB_nw, okB_int, okB_str, okB_lst, okB_tup, okB_non, okB_bl, okB_nxt, okB_nxl, okA_c, okA_n, fix_nw, fix_int, fix_str, fix_lst, fix_tup, fix_non, fix_bl, fix_nxt, fix_nxl, fixA_c, fixA_n, e_bxT, bxTO_bx, bxTD_nw, e_bxAtT, e_callUF, e_owbA, e_obF, obO_mb, obO_bx, e_imF, imO_im, e_bxO, bxOo_bx, bxOo_mb, e_bputO, bpO_mb, bpO_bx, lkp_c, fldD_nw, fldD_int, fldD_lst, e_lookF, e_fldS, e_fldC, fldCo_c, putFd_c, putFd_n, e_fldM, e_fldP, ofDM_ret, ofDM_exc, e_callB, e_callM, e_methM, mkO_ret, e_makeM, endM_nx, endM_ret, endM_exc, e_runM, e_mdIn, e_mdAt, e_valF, valO_s, e_obI, oiO_s, e_callV, e_methV, e_frzBS, kFB_nx, kFB_ret, e_frzBO, fBO_bx, okB_ob, okF_c, okF_n, fix_ob, fixF_c, fixF_n, sN_nx, sN_ret, tN_nx, tN_ret, e_tryN, e_fldQ, dkO_k, e_lookE, hf, e, e2]
  · have hf0 : few = 0 := by omega
    subst hf0
    have hl := T1_len
    have hsg := @T1_sg
    unfold m__law_sign b__law_sign
    generalize T_1 = ds at *
    obtain ⟨v, d', e, v0, v1, hP⟩ := take_ok (many := 92) h hn (by decide) (by decide)
    have e1 : oLen (.str ds) = some (.int 92) := by rw [o_lenS (by omega), hl]; rfl
    have e2 := sign_at (s := ds) (w := 92) (j := v) hl (by decide) v0 (by omega)
    refine ⟨_, d', ?_, hsg (getD_mem (s := ds) (j := v.toNat) (by omega)), hP⟩
    simp -implicitDefEqProofs only [bM_ok, bM_exc, bR_ok, bR_exc, bS_nx, bS_ret, bS_exc, bO_some, bOM_some, selM_t, selM_f, selS_t, selS_f, rdO_im, rdO_ow, lookO_im, lookO_ow, lookO_mu, moveO_ow, ownO_ow, ownO_mu, putO_ow, putO_mu, ofDR_ret, ofDR_exc, ofDU_ret, ofDU_exc, endF_nx, endF_ret, endF_exc, endU_nx, endU_ret, endU_exc, e_runF, e_runU, e_bind, e_ret, e_lift, e_rd, e_look, e_move, e_ownC, e_putC, e_op2, e_op1, e_tst, e_notM, e_andM, e_orM, e_notE, e_andE, e_orE, e_iteE, e_chn, e_argN, e_argC, e_tupE, e_lstE, e_noP, e_partM, e_sl3, asStr_str, e_strM, e_callF, e_callU, e_useU, e_mutM, e_skip, e_seqS, e_ifS, e_exprS, e_retS, e_setS, e_ownS, e_stIx, e_tgS, e_tgN, e_tgT, e_tgCons, e_tgNil, parK_2, e_parS, e_forS, e_rng1M, e_rng2M, e_iterM, e_enumA, e_zipM, e_lcE, o_subI, o_addI, o_eqI, o_neI, o_eqS, o_neS, o_ltI, o_leI, o_gtI, o_geI, o_maxI, o_minI, o_lenL, o_lenF, o_lenT, o_negI, o_asB, o_isiS, List.map_cons, List.map_nil, List.length_cons, List.length_nil, List.cons_append, List.nil_append, List.append_nil, List.replicate_succ, List.replicate_zero, List.getElem?_cons_succ, List.getElem?_cons_zero, List.set_cons_succ, List.set_cons_zero, Option.map_some, Option.map_none, Option.bind_some, Option.bind_none, if_true, if_false, ite_true, ite_false, decide_true, decide_false, Bool.not_true, Bool.not_false, Nat.zero_add, Nat.reduceAdd, Nat.reduceSub, reduceIte, reduceCtorEq, Nat.reduceLT, Nat.reduceLeDiff, Int.reduceLT, Int.reduceLE, Int.reduceToNat, Int.reduceNeg, Int.reduceEq, Int.reduceSub, Int.reduceAdd, Int.reduceMul, Int.reducePow, tyOk, beq_self_eq_true, e_freeP1, e_freeP2, freeO_no, freeO_im, e_wipe1, e_wipe2, e_back1, e_back2, backO_s, o_iterL, o_iterF, o_iterT, Bool.and_true, sK_nx, sK_ret, tK_nx, tK_ret, e_tryS, e_raiseS, o_isE, o_isEN, o_notNN, o_notNE, o_isNN, o_isNE, e_prN, e_prC, e_dispE, e_zipA, o_zipSS, o_zipSL, o_zipLL, o_asI, e_callL, e_callLF, bRs_ok, e_bxK, bxKo_bx, e_bxPutK, e_bxAtK, e_bxL, bxLo_bx, e_bxSet2, e_lcEN, e_owbS, kOw_nx, e_owbO, owO_bx, o_lenDT, fix_nxt2, okB_nxt2, e_mkX, mkT_str, e_callLN, ofLF_t, ofLF_exc, ofLN_b, ofLN_exc, ofDL_bl, ofDL_int, ofDL_str, ofDL_non, ofDL_exc, e_killS, kK_nx, kK_ret, kK_exc, e_wipeC, e_wipeN, e_backC, e_backN, e_stp, e_lcs, joinC_t, joinC_f, joinC_ok, e_augI, augO_int, e_getE, e_dixE, asD_k, keyD_s, keyD_i, e_bSkK, e_kiY, e_frzS, kF_nx, e_frzO, fO_ow, e_freeP3, e_strX, e_rng3A, o_iterM, e_lckS, kL_nx, e_lckO, lO_k, lO_t, e_iterK, o_iterKk, o_iterKt, e_getA, e_dixA, isDct_k, isDct_t, isDct_fk, isDct_ft, oGetA_k, oGetA_fk, oGetA_t, oGetA_ft, id_eq, e_iterL, e_lookT, lookR_ok, frzA_c, frzA_n, frz_im', frz_ow', frz_mu', frz_no', e_runN, endN_nx, endN_ret, endN_exc, e_bxS, e_nwM, e_nxM, e_fixM, e_tupN, e_moveB, moveBO_bx, frz_bx', frz_mb', frzB_t, okB_nw, okB_int, okB_str, okB_lst, okB_tup, okB_non, okB_bl, okB_nxt, okB_nxl, okA_c, okA_n, fix_nw, fix_int, fix_str, fix_lst, fix_tup, fix_non, fix_bl, fix_nxt, fix_nxl, fixA_c, fixA_n, e_bxT, bxTO_bx, bxTD_nw, e_bxAtT, e_callUF, e_owbA, e_obF, obO_mb, obO_bx, e_imF, imO_im, e_bxO, bxOo_bx, bxOo_mb, e_bputO, bpO_mb, bpO_bx, lkp_c, fldD_nw, fldD_int, fldD_lst, e_lookF, e_fldS, e_fldC, fldCo_c, putFd_c, putFd_n, e_fldM, e_fldP, ofDM_ret, ofDM_exc, e_callB, e_callM, e_methM, mkO_ret, e_makeM, endM_nx, endM_ret, endM_exc, e_runM, e_mdIn, e_mdAt, e_valF, valO_s, e_obI, oiO_s, e_callV, e_methV, e_frzBS, kFB_nx, kFB_ret, e_frzBO, fBO_bx, okB_ob, okF_c, okF_n, fix_ob, fixF_c, fixF_n, sN_nx, sN_ret, tN_nx, tN_ret, e_tryN, e_fldQ, dkO_k, e_lookE, e, e1, e2]
theorem side_ok {n : Nat} {d : D} {most : Int} (h : Pool n d) (hn : n < 2 ^ 58) (h0 : 1 ≤ most) (h4 : most ≤ 1000) : ∃ v d', m__law_side [d, .int most] = .ret (.int v) d' ∧ 1 ≤ v ∧ v ≤ most ∧ Pool (n + 2) d' := by
  obtain ⟨v, d1, e, v0, v1, hP⟩ := take_ok (many := 4) h (by omega) (by decide) (by decide)
  by_cases c0 : v = 0
  · refine ⟨most, d1, ?_, h0, Int.le_refl _, hP.mono (by omega)⟩
    simp -implicitDefEqProofs only [m__law_side, b__law_side, bM_ok, bM_exc, bR_ok, bR_exc, bS_nx, bS_ret, bS_exc, bO_some, bOM_some, selM_t, selM_f, selS_t, selS_f, rdO_im, rdO_ow, lookO_im, lookO_ow, lookO_mu, moveO_ow, ownO_ow, ownO_mu, putO_ow, putO_mu, ofDR_ret, ofDR_exc, ofDU_ret, ofDU_exc, endF_nx, endF_ret, endF_exc, endU_nx, endU_ret, endU_exc, e_runF, e_runU, e_bind, e_ret, e_lift, e_rd, e_look, e_move, e_ownC, e_putC, e_op2, e_op1, e_tst, e_notM, e_andM, e_orM, e_notE, e_andE, e_orE, e_iteE, e_chn, e_argN, e_argC, e_tupE, e_lstE, e_noP, e_partM, e_sl3, asStr_str, e_strM, e_callF, e_callU, e_useU, e_mutM, e_skip, e_seqS, e_ifS, e_exprS, e_retS, e_setS, e_ownS, e_stIx, e_tgS, e_tgN, e_tgT, e_tgCons, e_tgNil, parK_2, e_parS, e_forS, e_rng1M, e_rng2M, e_iterM, e_enumA, e_zipM, e_lcE, o_subI, o_addI, o_eqI, o_neI, o_eqS, o_neS, o_ltI, o_leI, o_gtI, o_geI, o_maxI, o_minI, o_lenL, o_lenF, o_lenT, o_negI, o_asB, o_isiS, List.map_cons, List.map_nil, List.length_cons, List.length_nil, List.cons_append, List.nil_append, List.append_nil, List.replicate_succ, List.replicate_zero, List.getElem?_cons_succ, List.getElem?_cons_zero, List.set_cons_succ, List.set_cons_zero, Option.map_some, Option.map_none, Option.bind_some, Option.bind_none, if_true, if_false, ite_true, ite_false, decide_true, decide_false, Bool.not_true, Bool.not_false, Nat.zero_add, Nat.reduceAdd, Nat.reduceSub, reduceIte, reduceCtorEq, Nat.reduceLT, Nat.reduceLeDiff, Int.reduceLT, Int.reduceLE, Int.reduceToNat, Int.reduceNeg, Int.reduceEq, Int.reduceSub, Int.reduceAdd, Int.reduceMul, Int.reducePow, tyOk, beq_self_eq_true, e_freeP1, e_freeP2, freeO_no, freeO_im, e_wipe1, e_wipe2, e_back1, e_back2, backO_s, o_iterL, o_iterF, o_iterT, Bool.and_true, sK_nx, sK_ret, tK_nx, tK_ret, e_tryS, e_raiseS, o_isE, o_isEN, o_notNN, o_notNE, o_isNN, o_isNE, e_prN, e_prC, e_dispE, e_zipA, o_zipSS, o_zipSL, o_zipLL, o_asI, e_callL, e_callLF, bRs_ok, e_bxK, bxKo_bx, e_bxPutK, e_bxAtK, e_bxL, bxLo_bx, e_bxSet2, e_lcEN, e_owbS, kOw_nx, e_owbO, owO_bx, o_lenDT, fix_nxt2, okB_nxt2, e_mkX, mkT_str, e_callLN, ofLF_t, ofLF_exc, ofLN_b, ofLN_exc, ofDL_bl, ofDL_int, ofDL_str, ofDL_non, ofDL_exc, e_killS, kK_nx, kK_ret, kK_exc, e_wipeC, e_wipeN, e_backC, e_backN, e_stp, e_lcs, joinC_t, joinC_f, joinC_ok, e_augI, augO_int, e_getE, e_dixE, asD_k, keyD_s, keyD_i, e_bSkK, e_kiY, e_frzS, kF_nx, e_frzO, fO_ow, e_freeP3, e_strX, e_rng3A, o_iterM, e_lckS, kL_nx, e_lckO, lO_k, lO_t, e_iterK, o_iterKk, o_iterKt, e_getA, e_dixA, isDct_k, isDct_t, isDct_fk, isDct_ft, oGetA_k, oGetA_fk, oGetA_t, oGetA_ft, id_eq, e_iterL, e_lookT, lookR_ok, frzA_c, frzA_n, frz_im', frz_ow', frz_mu', frz_no', e_runN, endN_nx, endN_ret, endN_exc, e_bxS, e_nwM, e_nxM, e_fixM, e_tupN, e_moveB, moveBO_bx, frz_bx', frz_mb', frzB_t, okB_nw, okB_int, okB_str, okB_lst, okB_tup, okB_non, okB_bl, okB_nxt, okB_nxl, okA_c, okA_n, fix_nw, fix_int, fix_str, fix_lst, fix_tup, fix_non, fix_bl, fix_nxt, fix_nxl, fixA_c, fixA_n, e_bxT, bxTO_bx, bxTD_nw, e_bxAtT, e_callUF, e_owbA, e_obF, obO_mb, obO_bx, e_imF, imO_im, e_bxO, bxOo_bx, bxOo_mb, e_bputO, bpO_mb, bpO_bx, lkp_c, fldD_nw, fldD_int, fldD_lst, e_lookF, e_fldS, e_fldC, fldCo_c, putFd_c, putFd_n, e_fldM, e_fldP, ofDM_ret, ofDM_exc, e_callB, e_callM, e_methM, mkO_ret, e_makeM, endM_nx, endM_ret, endM_exc, e_runM, e_mdIn, e_mdAt, e_valF, valO_s, e_obI, oiO_s, e_callV, e_methV, e_frzBS, kFB_nx, kFB_ret, e_frzBO, fBO_bx, okB_ob, okF_c, okF_n, fix_ob, fixF_c, fixF_n, sN_nx, sN_ret, tN_nx, tN_ret, e_tryN, e_fldQ, dkO_k, e_lookE, e, c0]
  · by_cases c1 : v = 1
    · obtain ⟨u, d2, e2, u0, u1, hP2⟩ := take_ok (many := most) hP (by omega) (by omega) (by omega)
      refine ⟨1 + u, d2, ?_, by omega, by omega, hP2⟩
      simp -implicitDefEqProofs only [m__law_side, b__law_side, bM_ok, bM_exc, bR_ok, bR_exc, bS_nx, bS_ret, bS_exc, bO_some, bOM_some, selM_t, selM_f, selS_t, selS_f, rdO_im, rdO_ow, lookO_im, lookO_ow, lookO_mu, moveO_ow, ownO_ow, ownO_mu, putO_ow, putO_mu, ofDR_ret, ofDR_exc, ofDU_ret, ofDU_exc, endF_nx, endF_ret, endF_exc, endU_nx, endU_ret, endU_exc, e_runF, e_runU, e_bind, e_ret, e_lift, e_rd, e_look, e_move, e_ownC, e_putC, e_op2, e_op1, e_tst, e_notM, e_andM, e_orM, e_notE, e_andE, e_orE, e_iteE, e_chn, e_argN, e_argC, e_tupE, e_lstE, e_noP, e_partM, e_sl3, asStr_str, e_strM, e_callF, e_callU, e_useU, e_mutM, e_skip, e_seqS, e_ifS, e_exprS, e_retS, e_setS, e_ownS, e_stIx, e_tgS, e_tgN, e_tgT, e_tgCons, e_tgNil, parK_2, e_parS, e_forS, e_rng1M, e_rng2M, e_iterM, e_enumA, e_zipM, e_lcE, o_subI, o_addI, o_eqI, o_neI, o_eqS, o_neS, o_ltI, o_leI, o_gtI, o_geI, o_maxI, o_minI, o_lenL, o_lenF, o_lenT, o_negI, o_asB, o_isiS, List.map_cons, List.map_nil, List.length_cons, List.length_nil, List.cons_append, List.nil_append, List.append_nil, List.replicate_succ, List.replicate_zero, List.getElem?_cons_succ, List.getElem?_cons_zero, List.set_cons_succ, List.set_cons_zero, Option.map_some, Option.map_none, Option.bind_some, Option.bind_none, if_true, if_false, ite_true, ite_false, decide_true, decide_false, Bool.not_true, Bool.not_false, Nat.zero_add, Nat.reduceAdd, Nat.reduceSub, reduceIte, reduceCtorEq, Nat.reduceLT, Nat.reduceLeDiff, Int.reduceLT, Int.reduceLE, Int.reduceToNat, Int.reduceNeg, Int.reduceEq, Int.reduceSub, Int.reduceAdd, Int.reduceMul, Int.reducePow, tyOk, beq_self_eq_true, e_freeP1, e_freeP2, freeO_no, freeO_im, e_wipe1, e_wipe2, e_back1, e_back2, backO_s, o_iterL, o_iterF, o_iterT, Bool.and_true, sK_nx, sK_ret, tK_nx, tK_ret, e_tryS, e_raiseS, o_isE, o_isEN, o_notNN, o_notNE, o_isNN, o_isNE, e_prN, e_prC, e_dispE, e_zipA, o_zipSS, o_zipSL, o_zipLL, o_asI, e_callL, e_callLF, bRs_ok, e_bxK, bxKo_bx, e_bxPutK, e_bxAtK, e_bxL, bxLo_bx, e_bxSet2, e_lcEN, e_owbS, kOw_nx, e_owbO, owO_bx, o_lenDT, fix_nxt2, okB_nxt2, e_mkX, mkT_str, e_callLN, ofLF_t, ofLF_exc, ofLN_b, ofLN_exc, ofDL_bl, ofDL_int, ofDL_str, ofDL_non, ofDL_exc, e_killS, kK_nx, kK_ret, kK_exc, e_wipeC, e_wipeN, e_backC, e_backN, e_stp, e_lcs, joinC_t, joinC_f, joinC_ok, e_augI, augO_int, e_getE, e_dixE, asD_k, keyD_s, keyD_i, e_bSkK, e_kiY, e_frzS, kF_nx, e_frzO, fO_ow, e_freeP3, e_strX, e_rng3A, o_iterM, e_lckS, kL_nx, e_lckO, lO_k, lO_t, e_iterK, o_iterKk, o_iterKt, e_getA, e_dixA, isDct_k, isDct_t, isDct_fk, isDct_ft, oGetA_k, oGetA_fk, oGetA_t, oGetA_ft, id_eq, e_iterL, e_lookT, lookR_ok, frzA_c, frzA_n, frz_im', frz_ow', frz_mu', frz_no', e_runN, endN_nx, endN_ret, endN_exc, e_bxS, e_nwM, e_nxM, e_fixM, e_tupN, e_moveB, moveBO_bx, frz_bx', frz_mb', frzB_t, okB_nw, okB_int, okB_str, okB_lst, okB_tup, okB_non, okB_bl, okB_nxt, okB_nxl, okA_c, okA_n, fix_nw, fix_int, fix_str, fix_lst, fix_tup, fix_non, fix_bl, fix_nxt, fix_nxl, fixA_c, fixA_n, e_bxT, bxTO_bx, bxTD_nw, e_bxAtT, e_callUF, e_owbA, e_obF, obO_mb, obO_bx, e_imF, imO_im, e_bxO, bxOo_bx, bxOo_mb, e_bputO, bpO_mb, bpO_bx, lkp_c, fldD_nw, fldD_int, fldD_lst, e_lookF, e_fldS, e_fldC, fldCo_c, putFd_c, putFd_n, e_fldM, e_fldP, ofDM_ret, ofDM_exc, e_callB, e_callM, e_methM, mkO_ret, e_makeM, endM_nx, endM_ret, endM_exc, e_runM, e_mdIn, e_mdAt, e_valF, valO_s, e_obI, oiO_s, e_callV, e_methV, e_frzBS, kFB_nx, kFB_ret, e_frzBO, fBO_bx, okB_ob, okF_c, okF_n, fix_ob, fixF_c, fixF_n, sN_nx, sN_ret, tN_nx, tN_ret, e_tryN, e_fldQ, dkO_k, e_lookE, e, c0, c1, e2]
    · obtain ⟨u, d2, e2, u0, u1, hP2⟩ := take_ok (many := if 6 < most then 6 else most) hP (by omega) (by split <;> omega) (by split <;> omega)
      refine ⟨1 + u, d2, ?_, by omega, by split at u1 <;> omega, hP2⟩
      simp -implicitDefEqProofs only [m__law_side, b__law_side, bM_ok, bM_exc, bR_ok, bR_exc, bS_nx, bS_ret, bS_exc, bO_some, bOM_some, selM_t, selM_f, selS_t, selS_f, rdO_im, rdO_ow, lookO_im, lookO_ow, lookO_mu, moveO_ow, ownO_ow, ownO_mu, putO_ow, putO_mu, ofDR_ret, ofDR_exc, ofDU_ret, ofDU_exc, endF_nx, endF_ret, endF_exc, endU_nx, endU_ret, endU_exc, e_runF, e_runU, e_bind, e_ret, e_lift, e_rd, e_look, e_move, e_ownC, e_putC, e_op2, e_op1, e_tst, e_notM, e_andM, e_orM, e_notE, e_andE, e_orE, e_iteE, e_chn, e_argN, e_argC, e_tupE, e_lstE, e_noP, e_partM, e_sl3, asStr_str, e_strM, e_callF, e_callU, e_useU, e_mutM, e_skip, e_seqS, e_ifS, e_exprS, e_retS, e_setS, e_ownS, e_stIx, e_tgS, e_tgN, e_tgT, e_tgCons, e_tgNil, parK_2, e_parS, e_forS, e_rng1M, e_rng2M, e_iterM, e_enumA, e_zipM, e_lcE, o_subI, o_addI, o_eqI, o_neI, o_eqS, o_neS, o_ltI, o_leI, o_gtI, o_geI, o_maxI, o_minI, o_lenL, o_lenF, o_lenT, o_negI, o_asB, o_isiS, List.map_cons, List.map_nil, List.length_cons, List.length_nil, List.cons_append, List.nil_append, List.append_nil, List.replicate_succ, List.replicate_zero, List.getElem?_cons_succ, List.getElem?_cons_zero, List.set_cons_succ, List.set_cons_zero, Option.map_some, Option.map_none, Option.bind_some, Option.bind_none, if_true, if_false, ite_true, ite_false, decide_true, decide_false, Bool.not_true, Bool.not_false, Nat.zero_add, Nat.reduceAdd, Nat.reduceSub, reduceIte, reduceCtorEq, Nat.reduceLT, Nat.reduceLeDiff, Int.reduceLT, Int.reduceLE, Int.reduceToNat, Int.reduceNeg, Int.reduceEq, Int.reduceSub, Int.reduceAdd, Int.reduceMul, Int.reducePow, tyOk, beq_self_eq_true, e_freeP1, e_freeP2, freeO_no, freeO_im, e_wipe1, e_wipe2, e_back1, e_back2, backO_s, o_iterL, o_iterF, o_iterT, Bool.and_true, sK_nx, sK_ret, tK_nx, tK_ret, e_tryS, e_raiseS, o_isE, o_isEN, o_notNN, o_notNE, o_isNN, o_isNE, e_prN, e_prC, e_dispE, e_zipA, o_zipSS, o_zipSL, o_zipLL, o_asI, e_callL, e_callLF, bRs_ok, e_bxK, bxKo_bx, e_bxPutK, e_bxAtK, e_bxL, bxLo_bx, e_bxSet2, e_lcEN, e_owbS, kOw_nx, e_owbO, owO_bx, o_lenDT, fix_nxt2, okB_nxt2, e_mkX, mkT_str, e_callLN, ofLF_t, ofLF_exc, ofLN_b, ofLN_exc, ofDL_bl, ofDL_int, ofDL_str, ofDL_non, ofDL_exc, e_killS, kK_nx, kK_ret, kK_exc, e_wipeC, e_wipeN, e_backC, e_backN, e_stp, e_lcs, joinC_t, joinC_f, joinC_ok, e_augI, augO_int, e_getE, e_dixE, asD_k, keyD_s, keyD_i, e_bSkK, e_kiY, e_frzS, kF_nx, e_frzO, fO_ow, e_freeP3, e_strX, e_rng3A, o_iterM, e_lckS, kL_nx, e_lckO, lO_k, lO_t, e_iterK, o_iterKk, o_iterKt, e_getA, e_dixA, isDct_k, isDct_t, isDct_fk, isDct_ft, oGetA_k, oGetA_fk, oGetA_t, oGetA_ft, id_eq, e_iterL, e_lookT, lookR_ok, frzA_c, frzA_n, frz_im', frz_ow', frz_mu', frz_no', e_runN, endN_nx, endN_ret, endN_exc, e_bxS, e_nwM, e_nxM, e_fixM, e_tupN, e_moveB, moveBO_bx, frz_bx', frz_mb', frzB_t, okB_nw, okB_int, okB_str, okB_lst, okB_tup, okB_non, okB_bl, okB_nxt, okB_nxl, okA_c, okA_n, fix_nw, fix_int, fix_str, fix_lst, fix_tup, fix_non, fix_bl, fix_nxt, fix_nxl, fixA_c, fixA_n, e_bxT, bxTO_bx, bxTD_nw, e_bxAtT, e_callUF, e_owbA, e_obF, obO_mb, obO_bx, e_imF, imO_im, e_bxO, bxOo_bx, bxOo_mb, e_bputO, bpO_mb, bpO_bx, lkp_c, fldD_nw, fldD_int, fldD_lst, e_lookF, e_fldS, e_fldC, fldCo_c, putFd_c, putFd_n, e_fldM, e_fldP, ofDM_ret, ofDM_exc, e_callB, e_callM, e_methM, mkO_ret, e_makeM, endM_nx, endM_ret, endM_exc, e_runM, e_mdIn, e_mdAt, e_valF, valO_s, e_obI, oiO_s, e_callV, e_methV, e_frzBS, kFB_nx, kFB_ret, e_frzBO, fBO_bx, okB_ob, okF_c, okF_n, fix_ob, fixF_c, fixF_n, sN_nx, sN_ret, tN_nx, tN_ret, e_tryN, e_fldQ, dkO_k, e_lookE, e, c0, c1, e2]
section
variable {d : D} {n rows columns : Nat} {few free : Int} {T : List (List Nat)} {S5 s6 s8 s9 : Slot} {row : List Nat}
theorem table_cell (h : Pool n d) (hn : n < 2 ^ 58) (h0 : 0 ≤ few) (h4 : few ≤ 4) (f0 : 0 ≤ free) (f9 : free ≤ 1000) (hz : row.length ≤ 1000) :
    ∃ c d' x9, b__law_table_1 [.mu d, .im (.int rows), .im (.int columns), .im (.int free), .im (.int few), S5, s6, .im (.str row), s8, s9] =
      .nx [.mu d', .im (.int rows), .im (.int columns), .im (.int free), .im (.int few), S5, s6, .im (.str (row ++ [c])), s8, x9] ∧ Sg c ∧ Pool (n + 2) d' := by
  obtain ⟨c, d1, e1, hc, hP1⟩ := sign_ok h (by omega) h0 h4
  have hl : ∀ c : Nat, row.length + [c].length ≤ 16777216 := fun c => by simp only [List.length_cons, List.length_nil]; omega
  by_cases hf : 0 < free
  · obtain ⟨v, d2, e2, v0, v1, hP2⟩ := take_ok (many := free) hP1 (by omega) hf (by omega)
    by_cases hv : v = 0
    · refine ⟨63, d2, .im (.str [63]), ?_, by unfold Sg; omega, hP2⟩
      simp -implicitDefEqProofs only [b__law_table_1, bM_ok, bM_exc, bR_ok, bR_exc, bS_nx, bS_ret, bS_exc, bO_some, bOM_some, selM_t, selM_f, selS_t, selS_f, rdO_im, rdO_ow, lookO_im, lookO_ow, lookO_mu, moveO_ow, ownO_ow, ownO_mu, putO_ow, putO_mu, ofDR_ret, ofDR_exc, ofDU_ret, ofDU_exc, endF_nx, endF_ret, endF_exc, endU_nx, endU_ret, endU_exc, e_runF, e_runU, e_bind, e_ret, e_lift, e_rd, e_look, e_move, e_ownC, e_putC, e_op2, e_op1, e_tst, e_notM, e_andM, e_orM, e_notE, e_andE, e_orE, e_iteE, e_chn, e_argN, e_argC, e_tupE, e_lstE, e_noP, e_partM, e_sl3, asStr_str, e_strM, e_callF, e_callU, e_useU, e_mutM, e_skip, e_seqS, e_ifS, e_exprS, e_retS, e_setS, e_ownS, e_stIx, e_tgS, e_tgN, e_tgT, e_tgCons, e_tgNil, parK_2, e_parS, e_forS, e_rng1M, e_rng2M, e_iterM, e_enumA, e_zipM, e_lcE, o_subI, o_addI, o_eqI, o_neI, o_eqS, o_neS, o_ltI, o_leI, o_gtI, o_geI, o_maxI, o_minI, o_lenL, o_lenF, o_lenT, o_negI, o_asB, o_isiS, List.map_cons, List.map_nil, List.length_cons, List.length_nil, List.cons_append, List.nil_append, List.append_nil, List.replicate_succ, List.replicate_zero, List.getElem?_cons_succ, List.getElem?_cons_zero, List.set_cons_succ, List.set_cons_zero, Option.map_some, Option.map_none, Option.bind_some, Option.bind_none, if_true, if_false, ite_true, ite_false, decide_true, decide_false, Bool.not_true, Bool.not_false, Nat.zero_add, Nat.reduceAdd, Nat.reduceSub, reduceIte, reduceCtorEq, Nat.reduceLT, Nat.reduceLeDiff, Int.reduceLT, Int.reduceLE, Int.reduceToNat, Int.reduceNeg, Int.reduceEq, Int.reduceSub, Int.reduceAdd, Int.reduceMul, Int.reducePow, tyOk, beq_self_eq_true, e_freeP1, e_freeP2, freeO_no, freeO_im, e_wipe1, e_wipe2, e_back1, e_back2, backO_s, o_iterL, o_iterF, o_iterT, Bool.and_true, sK_nx, sK_ret, tK_nx, tK_ret, e_tryS, e_raiseS, o_isE, o_isEN, o_notNN, o_notNE, o_isNN, o_isNE, e_prN, e_prC, e_dispE, e_zipA, o_zipSS, o_zipSL, o_zipLL, o_asI, e_callL, e_callLF, bRs_ok, e_bxK, bxKo_bx, e_bxPutK, e_bxAtK, e_bxL, bxLo_bx, e_bxSet2, e_lcEN, e_owbS, kOw_nx, e_owbO, owO_bx, o_lenDT, fix_nxt2, okB_nxt2, e_mkX, mkT_str, e_callLN, ofLF_t, ofLF_exc, ofLN_b, ofLN_exc, ofDL_bl, ofDL_int, ofDL_str, ofDL_non, ofDL_exc, e_killS, kK_nx, kK_ret, kK_exc, e_wipeC, e_wipeN, e_backC, e_backN, e_stp, e_lcs, joinC_t, joinC_f, joinC_ok, e_augI, augO_int, e_getE, e_dixE, asD_k, keyD_s, keyD_i, e_bSkK, e_kiY, e_frzS, kF_nx, e_frzO, fO_ow, e_freeP3, e_strX, e_rng3A, o_iterM, e_lckS, kL_nx, e_lckO, lO_k, lO_t, e_iterK, o_iterKk, o_iterKt, e_getA, e_dixA, isDct_k, isDct_t, isDct_fk, isDct_ft, oGetA_k, oGetA_fk, oGetA_t, oGetA_ft, id_eq, e_iterL, e_lookT, lookR_ok, frzA_c, frzA_n, frz_im', frz_ow', frz_mu', frz_no', e_runN, endN_nx, endN_ret, endN_exc, e_bxS, e_nwM, e_nxM, e_fixM, e_tupN, e_moveB, moveBO_bx, frz_bx', frz_mb', frzB_t, okB_nw, okB_int, okB_str, okB_lst, okB_tup, okB_non, okB_bl, okB_nxt, okB_nxl, okA_c, okA_n, fix_nw, fix_int, fix_str, fix_lst, fix_tup, fix_non, fix_bl, fix_nxt, fix_nxl, fixA_c, fixA_n, e_bxT, bxTO_bx, bxTD_nw, e_bxAtT, e_callUF, e_owbA, e_obF, obO_mb, obO_bx, e_imF, imO_im, e_bxO, bxOo_bx, bxOo_mb, e_bputO, bpO_mb, bpO_bx, lkp_c, fldD_nw, fldD_int, fldD_lst, e_lookF, e_fldS, e_fldC, fldCo_c, putFd_c, putFd_n, e_fldM, e_fldP, ofDM_ret, ofDM_exc, e_callB, e_callM, e_methM, mkO_ret, e_makeM, endM_nx, endM_ret, endM_exc, e_runM, e_mdIn, e_mdAt, e_valF, valO_s, e_obI, oiO_s, e_callV, e_methV, e_frzBS, kFB_nx, kFB_ret, e_frzBO, fBO_bx, okB_ob, okF_c, okF_n, fix_ob, fixF_c, fixF_n, sN_nx, sN_ret, tN_nx, tN_ret, e_tryN, e_fldQ, dkO_k, e_lookE, e1, e2, hf, hv, o_addS (hl 63)]
    · refine ⟨c, d2, .im (.str [c]), ?_, hc, hP2⟩
      simp -implicitDefEqProofs only [b__law_table_1, bM_ok, bM_exc, bR_ok, bR_exc, bS_nx, bS_ret, bS_exc, bO_some, bOM_some, selM_t, selM_f, selS_t, selS_f, rdO_im, rdO_ow, lookO_im, lookO_ow, lookO_mu, moveO_ow, ownO_ow, ownO_mu, putO_ow, putO_mu, ofDR_ret, ofDR_exc, ofDU_ret, ofDU_exc, endF_nx, endF_ret, endF_exc, endU_nx, endU_ret, endU_exc, e_runF, e_runU, e_bind, e_ret, e_lift, e_rd, e_look, e_move, e_ownC, e_putC, e_op2, e_op1, e_tst, e_notM, e_andM, e_orM, e_notE, e_andE, e_orE, e_iteE, e_chn, e_argN, e_argC, e_tupE, e_lstE, e_noP, e_partM, e_sl3, asStr_str, e_strM, e_callF, e_callU, e_useU, e_mutM, e_skip, e_seqS, e_ifS, e_exprS, e_retS, e_setS, e_ownS, e_stIx, e_tgS, e_tgN, e_tgT, e_tgCons, e_tgNil, parK_2, e_parS, e_forS, e_rng1M, e_rng2M, e_iterM, e_enumA, e_zipM, e_lcE, o_subI, o_addI, o_eqI, o_neI, o_eqS, o_neS, o_ltI, o_leI, o_gtI, o_geI, o_maxI, o_minI, o_lenL, o_lenF, o_lenT, o_negI, o_asB, o_isiS, List.map_cons, List.map_nil, List.length_cons, List.length_nil, List.cons_append, List.nil_append, List.append_nil, List.replicate_succ, List.replicate_zero, List.getElem?_cons_succ, List.getElem?_cons_zero, List.set_cons_succ, List.set_cons_zero, Option.map_some, Option.map_none, Option.bind_some, Option.bind_none, if_true, if_false, ite_true, ite_false, decide_true, decide_false, Bool.not_true, Bool.not_false, Nat.zero_add, Nat.reduceAdd, Nat.reduceSub, reduceIte, reduceCtorEq, Nat.reduceLT, Nat.reduceLeDiff, Int.reduceLT, Int.reduceLE, Int.reduceToNat, Int.reduceNeg, Int.reduceEq, Int.reduceSub, Int.reduceAdd, Int.reduceMul, Int.reducePow, tyOk, beq_self_eq_true, e_freeP1, e_freeP2, freeO_no, freeO_im, e_wipe1, e_wipe2, e_back1, e_back2, backO_s, o_iterL, o_iterF, o_iterT, Bool.and_true, sK_nx, sK_ret, tK_nx, tK_ret, e_tryS, e_raiseS, o_isE, o_isEN, o_notNN, o_notNE, o_isNN, o_isNE, e_prN, e_prC, e_dispE, e_zipA, o_zipSS, o_zipSL, o_zipLL, o_asI, e_callL, e_callLF, bRs_ok, e_bxK, bxKo_bx, e_bxPutK, e_bxAtK, e_bxL, bxLo_bx, e_bxSet2, e_lcEN, e_owbS, kOw_nx, e_owbO, owO_bx, o_lenDT, fix_nxt2, okB_nxt2, e_mkX, mkT_str, e_callLN, ofLF_t, ofLF_exc, ofLN_b, ofLN_exc, ofDL_bl, ofDL_int, ofDL_str, ofDL_non, ofDL_exc, e_killS, kK_nx, kK_ret, kK_exc, e_wipeC, e_wipeN, e_backC, e_backN, e_stp, e_lcs, joinC_t, joinC_f, joinC_ok, e_augI, augO_int, e_getE, e_dixE, asD_k, keyD_s, keyD_i, e_bSkK, e_kiY, e_frzS, kF_nx, e_frzO, fO_ow, e_freeP3, e_strX, e_rng3A, o_iterM, e_lckS, kL_nx, e_lckO, lO_k, lO_t, e_iterK, o_iterKk, o_iterKt, e_getA, e_dixA, isDct_k, isDct_t, isDct_fk, isDct_ft, oGetA_k, oGetA_fk, oGetA_t, oGetA_ft, id_eq, e_iterL, e_lookT, lookR_ok, frzA_c, frzA_n, frz_im', frz_ow', frz_mu', frz_no', e_runN, endN_nx, endN_ret, endN_exc, e_bxS, e_nwM, e_nxM, e_fixM, e_tupN, e_moveB, moveBO_bx, frz_bx', frz_mb', frzB_t, okB_nw, okB_int, okB_str, okB_lst, okB_tup, okB_non, okB_bl, okB_nxt, okB_nxl, okA_c, okA_n, fix_nw, fix_int, fix_str, fix_lst, fix_tup, fix_non, fix_bl, fix_nxt, fix_nxl, fixA_c, fixA_n, e_bxT, bxTO_bx, bxTD_nw, e_bxAtT, e_callUF, e_owbA, e_obF, obO_mb, obO_bx, e_imF, imO_im, e_bxO, bxOo_bx, bxOo_mb, e_bputO, bpO_mb, bpO_bx, lkp_c, fldD_nw, fldD_int, fldD_lst, e_lookF, e_fldS, e_fldC, fldCo_c, putFd_c, putFd_n, e_fldM, e_fldP, ofDM_ret, ofDM_exc, e_callB, e_callM, e_methM, mkO_ret, e_makeM, endM_nx, endM_ret, endM_exc, e_runM, e_mdIn, e_mdAt, e_valF, valO_s, e_obI, oiO_s, e_callV, e_methV, e_frzBS, kFB_nx, kFB_ret, e_frzBO, fBO_bx, okB_ob, okF_c, okF_n, fix_ob, fixF_c, fixF_n, sN_nx, sN_ret, tN_nx, tN_ret, e_tryN, e_fldQ, dkO_k, e_lookE, e1, e2, hf, hv, o_addS (hl c)]
  · refine ⟨c, d1, .im (.str [c]), ?_, hc, hP1.mono (by omega)⟩
    simp -implicitDefEqProofs only [b__law_table_1, bM_ok, bM_exc, bR_ok, bR_exc, bS_nx, bS_ret, bS_exc, bO_some, bOM_some, selM_t, selM_f, selS_t, selS_f, rdO_im, rdO_ow, lookO_im, lookO_ow, lookO_mu, moveO_ow, ownO_ow, ownO_mu, putO_ow, putO_mu, ofDR_ret, ofDR_exc, ofDU_ret, ofDU_exc, endF_nx, endF_ret, endF_exc, endU_nx, endU_ret, endU_exc, e_runF, e_runU, e_bind, e_ret, e_lift, e_rd, e_look, e_move, e_ownC, e_putC, e_op2, e_op1, e_tst, e_notM, e_andM, e_orM, e_notE, e_andE, e_orE, e_iteE, e_chn, e_argN, e_argC, e_tupE, e_lstE, e_noP, e_partM, e_sl3, asStr_str, e_strM, e_callF, e_callU, e_useU, e_mutM, e_skip, e_seqS, e_ifS, e_exprS, e_retS, e_setS, e_ownS, e_stIx, e_tgS, e_tgN, e_tgT, e_tgCons, e_tgNil, parK_2, e_parS, e_forS, e_rng1M, e_rng2M, e_iterM, e_enumA, e_zipM, e_lcE, o_subI, o_addI, o_eqI, o_neI, o_eqS, o_neS, o_ltI, o_leI, o_gtI, o_geI, o_maxI, o_minI, o_lenL, o_lenF, o_lenT, o_negI, o_asB, o_isiS, List.map_cons, List.map_nil, List.length_cons, List.length_nil, List.cons_append, List.nil_append, List.append_nil, List.replicate_succ, List.replicate_zero, List.getElem?_cons_succ, List.getElem?_cons_zero, List.set_cons_succ, List.set_cons_zero, Option.map_some, Option.map_none, Option.bind_some, Option.bind_none, if_true, if_false, ite_true, ite_false, decide_true, decide_false, Bool.not_true, Bool.not_false, Nat.zero_add, Nat.reduceAdd, Nat.reduceSub, reduceIte, reduceCtorEq, Nat.reduceLT, Nat.reduceLeDiff, Int.reduceLT, Int.reduceLE, Int.reduceToNat, Int.reduceNeg, Int.reduceEq, Int.reduceSub, Int.reduceAdd, Int.reduceMul, Int.reducePow, tyOk, beq_self_eq_true, e_freeP1, e_freeP2, freeO_no, freeO_im, e_wipe1, e_wipe2, e_back1, e_back2, backO_s, o_iterL, o_iterF, o_iterT, Bool.and_true, sK_nx, sK_ret, tK_nx, tK_ret, e_tryS, e_raiseS, o_isE, o_isEN, o_notNN, o_notNE, o_isNN, o_isNE, e_prN, e_prC, e_dispE, e_zipA, o_zipSS, o_zipSL, o_zipLL, o_asI, e_callL, e_callLF, bRs_ok, e_bxK, bxKo_bx, e_bxPutK, e_bxAtK, e_bxL, bxLo_bx, e_bxSet2, e_lcEN, e_owbS, kOw_nx, e_owbO, owO_bx, o_lenDT, fix_nxt2, okB_nxt2, e_mkX, mkT_str, e_callLN, ofLF_t, ofLF_exc, ofLN_b, ofLN_exc, ofDL_bl, ofDL_int, ofDL_str, ofDL_non, ofDL_exc, e_killS, kK_nx, kK_ret, kK_exc, e_wipeC, e_wipeN, e_backC, e_backN, e_stp, e_lcs, joinC_t, joinC_f, joinC_ok, e_augI, augO_int, e_getE, e_dixE, asD_k, keyD_s, keyD_i, e_bSkK, e_kiY, e_frzS, kF_nx, e_frzO, fO_ow, e_freeP3, e_strX, e_rng3A, o_iterM, e_lckS, kL_nx, e_lckO, lO_k, lO_t, e_iterK, o_iterKk, o_iterKt, e_getA, e_dixA, isDct_k, isDct_t, isDct_fk, isDct_ft, oGetA_k, oGetA_fk, oGetA_t, oGetA_ft, id_eq, e_iterL, e_lookT, lookR_ok, frzA_c, frzA_n, frz_im', frz_ow', frz_mu', frz_no', e_runN, endN_nx, endN_ret, endN_exc, e_bxS, e_nwM, e_nxM, e_fixM, e_tupN, e_moveB, moveBO_bx, frz_bx', frz_mb', frzB_t, okB_nw, okB_int, okB_str, okB_lst, okB_tup, okB_non, okB_bl, okB_nxt, okB_nxl, okA_c, okA_n, fix_nw, fix_int, fix_str, fix_lst, fix_tup, fix_non, fix_bl, fix_nxt, fix_nxl, fixA_c, fixA_n, e_bxT, bxTO_bx, bxTD_nw, e_bxAtT, e_callUF, e_owbA, e_obF, obO_mb, obO_bx, e_imF, imO_im, e_bxO, bxOo_bx, bxOo_mb, e_bputO, bpO_mb, bpO_bx, lkp_c, fldD_nw, fldD_int, fldD_lst, e_lookF, e_fldS, e_fldC, fldCo_c, putFd_c, putFd_n, e_fldM, e_fldP, ofDM_ret, ofDM_exc, e_callB, e_callM, e_methM, mkO_ret, e_makeM, endM_nx, endM_ret, endM_exc, e_runM, e_mdIn, e_mdAt, e_valF, valO_s, e_obI, oiO_s, e_callV, e_methV, e_frzBS, kFB_nx, kFB_ret, e_frzBO, fBO_bx, okB_ob, okF_c, okF_n, fix_ob, fixF_c, fixF_n, sN_nx, sN_ret, tN_nx, tN_ret, e_tryN, e_fldQ, dkO_k, e_lookE, e1, hf, o_addS (hl c)]
theorem table_row (h : Pool n d) (hn : n < 2 ^ 57) (h0 : 0 ≤ few) (h4 : few ≤ 4) (f0 : 0 ≤ free) (f9 : free ≤ 1000) (hz : columns ≤ 1000) (hT : T.length < 1000) {s7 : Slot} :
    ∃ r d' x7 x8 x9, b__law_table_2 [.mu d, .im (.int rows), .im (.int columns), .im (.int free), .im (.int few), .ow (.lst (T.map .str)), s6, s7, s8, s9] =
      .nx [.mu d', .im (.int rows), .im (.int columns), .im (.int free), .im (.int few), .ow (.lst ((T ++ [r]).map .str)), s6, x7, x8, x9] ∧ r.length = columns ∧ (∀ c, c ∈ r → Sg c) ∧ Pool (n + 2 * columns) d' := by
  obtain ⟨τ, e, r, d', x8, x9, rfl, hl, hr, hP⟩ := for_range (h := tgN 8) (body := b__law_table_1) (lo := 0) (n := columns) (τ := [.mu d, .im (.int rows), .im (.int columns), .im (.int free), .im (.int few), .ow (.lst (T.map .str)), s6, .im (.str []), s8, s9])
    (fun j τ => ∃ (r : List Nat) (d' : D) (x8 x9 : Slot), τ = [.mu d', .im (.int rows), .im (.int columns), .im (.int free), .im (.int few), .ow (.lst (T.map .str)), s6, .im (.str r), x8, x9] ∧ r.length = j ∧ (∀ c, c ∈ r → Sg c) ∧ Pool (n + 2 * j) d')
    ⟨[], d, _, _, rfl, rfl, fun _ h => (nomatch h), h⟩ fun j τ hj hI => by
      obtain ⟨r, d', x8, x9, rfl, hl, hr, hP⟩ := hI
      obtain ⟨c, d2, y9, e, hc, hP2⟩ := table_cell (rows := rows) (columns := columns) (S5 := .ow (.lst (T.map .str))) (s6 := s6) (s8 := .im (.int (0 + (j : Int)))) (s9 := x9) hP (by omega) h0 h4 f0 f9 (row := r) (by omega)
      refine ⟨_, _, rfl, e, r ++ [c], d2, _, y9, rfl, by rw [List.length_append, hl]; rfl, fun x hx => ?_, hP2⟩
      rcases List.mem_append.mp hx with q | q
      · exact hr x q
      · rw [List.mem_singleton.mp q]; exact hc
  refine ⟨r, d', .im (.str r), x8, x9, ?_, hl, hr, hP⟩
  simp -implicitDefEqProofs only [b__law_table_2, bM_ok, bM_exc, bR_ok, bR_exc, bS_nx, bS_ret, bS_exc, bO_some, bOM_some, selM_t, selM_f, selS_t, selS_f, rdO_im, rdO_ow, lookO_im, lookO_ow, lookO_mu, moveO_ow, ownO_ow, ownO_mu, putO_ow, putO_mu, ofDR_ret, ofDR_exc, ofDU_ret, ofDU_exc, endF_nx, endF_ret, endF_exc, endU_nx, endU_ret, endU_exc, e_runF, e_runU, e_bind, e_ret, e_lift, e_rd, e_look, e_move, e_ownC, e_putC, e_op2, e_op1, e_tst, e_notM, e_andM, e_orM, e_notE, e_andE, e_orE, e_iteE, e_chn, e_argN, e_argC, e_tupE, e_lstE, e_noP, e_partM, e_sl3, asStr_str, e_strM, e_callF, e_callU, e_useU, e_mutM, e_skip, e_seqS, e_ifS, e_exprS, e_retS, e_setS, e_ownS, e_stIx, e_tgS, e_tgN, e_tgT, e_tgCons, e_tgNil, parK_2, e_parS, e_forS, e_rng1M, e_rng2M, e_iterM, e_enumA, e_zipM, e_lcE, o_subI, o_addI, o_eqI, o_neI, o_eqS, o_neS, o_ltI, o_leI, o_gtI, o_geI, o_maxI, o_minI, o_lenL, o_lenF, o_lenT, o_negI, o_asB, o_isiS, List.map_cons, List.map_nil, List.length_cons, List.length_nil, List.cons_append, List.nil_append, List.append_nil, List.replicate_succ, List.replicate_zero, List.getElem?_cons_succ, List.getElem?_cons_zero, List.set_cons_succ, List.set_cons_zero, Option.map_some, Option.map_none, Option.bind_some, Option.bind_none, if_true, if_false, ite_true, ite_false, decide_true, decide_false, Bool.not_true, Bool.not_false, Nat.zero_add, Nat.reduceAdd, Nat.reduceSub, reduceIte, reduceCtorEq, Nat.reduceLT, Nat.reduceLeDiff, Int.reduceLT, Int.reduceLE, Int.reduceToNat, Int.reduceNeg, Int.reduceEq, Int.reduceSub, Int.reduceAdd, Int.reduceMul, Int.reducePow, tyOk, beq_self_eq_true, e_freeP1, e_freeP2, freeO_no, freeO_im, e_wipe1, e_wipe2, e_back1, e_back2, backO_s, o_iterL, o_iterF, o_iterT, Bool.and_true, sK_nx, sK_ret, tK_nx, tK_ret, e_tryS, e_raiseS, o_isE, o_isEN, o_notNN, o_notNE, o_isNN, o_isNE, e_prN, e_prC, e_dispE, e_zipA, o_zipSS, o_zipSL, o_zipLL, o_asI, e_callL, e_callLF, bRs_ok, e_bxK, bxKo_bx, e_bxPutK, e_bxAtK, e_bxL, bxLo_bx, e_bxSet2, e_lcEN, e_owbS, kOw_nx, e_owbO, owO_bx, o_lenDT, fix_nxt2, okB_nxt2, e_mkX, mkT_str, e_callLN, ofLF_t, ofLF_exc, ofLN_b, ofLN_exc, ofDL_bl, ofDL_int, ofDL_str, ofDL_non, ofDL_exc, e_killS, kK_nx, kK_ret, kK_exc, e_wipeC, e_wipeN, e_backC, e_backN, e_stp, e_lcs, joinC_t, joinC_f, joinC_ok, e_augI, augO_int, e_getE, e_dixE, asD_k, keyD_s, keyD_i, e_bSkK, e_kiY, e_frzS, kF_nx, e_frzO, fO_ow, e_freeP3, e_strX, e_rng3A, o_iterM, e_lckS, kL_nx, e_lckO, lO_k, lO_t, e_iterK, o_iterKk, o_iterKt, e_getA, e_dixA, isDct_k, isDct_t, isDct_fk, isDct_ft, oGetA_k, oGetA_fk, oGetA_t, oGetA_ft, id_eq, e_iterL, e_lookT, lookR_ok, frzA_c, frzA_n, frz_im', frz_ow', frz_mu', frz_no', e_runN, endN_nx, endN_ret, endN_exc, e_bxS, e_nwM, e_nxM, e_fixM, e_tupN, e_moveB, moveBO_bx, frz_bx', frz_mb', frzB_t, okB_nw, okB_int, okB_str, okB_lst, okB_tup, okB_non, okB_bl, okB_nxt, okB_nxl, okA_c, okA_n, fix_nw, fix_int, fix_str, fix_lst, fix_tup, fix_non, fix_bl, fix_nxt, fix_nxl, fixA_c, fixA_n, e_bxT, bxTO_bx, bxTD_nw, e_bxAtT, e_callUF, e_owbA, e_obF, obO_mb, obO_bx, e_imF, imO_im, e_bxO, bxOo_bx, bxOo_mb, e_bputO, bpO_mb, bpO_bx, lkp_c, fldD_nw, fldD_int, fldD_lst, e_lookF, e_fldS, e_fldC, fldCo_c, putFd_c, putFd_n, e_fldM, e_fldP, ofDM_ret, ofDM_exc, e_callB, e_callM, e_methM, mkO_ret, e_makeM, endM_nx, endM_ret, endM_exc, e_runM, e_mdIn, e_mdAt, e_valF, valO_s, e_obI, oiO_s, e_callV, e_methV, e_frzBS, kFB_nx, kFB_ret, e_frzBO, fBO_bx, okB_ob, okF_c, okF_n, fix_ob, fixF_c, fixF_n, sN_nx, sN_ret, tN_nx, tN_ret, e_tryN, e_fldQ, dkO_k, e_lookE, o_range columns (by omega), e, o_append (show (T.map D.str).length < 16777216 by rw [List.length_map]; omega)]
  rw [List.map_append]
  rfl
end
theorem table_ok {n rows columns : Nat} {d : D} {free : Int} (h : Pool n d) (hn : n < 2 ^ 56) (r0 : 0 < rows) (r1 : rows ≤ 1000) (c0 : 0 < columns) (c1 : columns ≤ 1000) (f0 : 0 ≤ free) (f9 : free ≤ 1000) :
    ∃ T d', m__law_table [d, .int rows, .int columns, .int free] = .ret (.lst (T.map .str)) d' ∧ Lit rows columns T ∧ Pool (n + 3000000) d' := by
  obtain ⟨v, d1, e1, v0, v1, hP1⟩ := take_ok (many := 4) h (by omega) (by decide) (by decide)
  obtain ⟨few, ef, f0', f4'⟩ : ∃ few : Int, oIx (.lst [.int 0, .int 1, .int 2, .int 4]) (.int v) = some (.int few) ∧ 0 ≤ few ∧ few ≤ 4 := by
    obtain ⟨k, rfl⟩ := Int.eq_ofNat_of_zero_le v0
    exact four (p := fun k => ∃ few : Int, oIx (.lst [.int 0, .int 1, .int 2, .int 4]) (.int (k : Nat)) = some (.int few) ∧ 0 ≤ few ∧ few ≤ 4) ⟨0, rfl, by decide, by decide⟩ ⟨1, rfl, by decide, by decide⟩ ⟨2, rfl, by decide, by decide⟩ ⟨4, rfl, by decide, by decide⟩ (show k < 4 by omega)
  obtain ⟨τ, e, T, d', x6, x7, x8, x9, rfl, hl, hT, hP⟩ := for_range (h := tgN 6) (body := b__law_table_2) (lo := 0) (n := rows) (τ := [.mu d1, .im (.int rows), .im (.int columns), .im (.int free), .im (.int few), .ow (.lst []), .no, .no, .no, .no])
    (fun i τ => ∃ (T : List (List Nat)) (d' : D) (x6 x7 x8 x9 : Slot), τ = [.mu d', .im (.int rows), .im (.int columns), .im (.int free), .im (.int few), .ow (.lst (T.map .str)), x6, x7, x8, x9] ∧ T.length = i ∧ (∀ r, r ∈ T → r.length = columns ∧ ∀ c, c ∈ r → Sg c) ∧ Pool (n + 1 + 2000 * i) d')
    ⟨[], d1, _, _, _, _, rfl, rfl, fun _ h => (nomatch h), hP1⟩ fun i τ hi hI => by
      obtain ⟨T, d', x6, x7, x8, x9, rfl, hl, hT, hP⟩ := hI
      obtain ⟨r, d2, y7, y8, y9, e, hr, hc, hP2⟩ := table_row (rows := rows) (columns := columns) (T := T) (s6 := .im (.int (0 + (i : Int)))) (s7 := x7) (s8 := x8) (s9 := x9) hP (by omega) f0' f4' f0 f9 c1 (by omega)
      refine ⟨_, _, rfl, e, T ++ [r], d2, _, y7, y8, y9, rfl, by rw [List.length_append, hl]; rfl, fun x hx => ?_, hP2.mono (by omega)⟩
      rcases List.mem_append.mp hx with q | q
      · exact hT x q
      · rw [List.mem_singleton.mp q]; exact ⟨hr, hc⟩
  refine ⟨T, d', ?_, ⟨⟨hl, fun r hr => ⟨(hT r hr).1, fun c hc => by have := (hT r hr).2 c hc; unfold Sg at this; omega⟩⟩, r0, c0, r1, c1, fun r hr => (hT r hr).2⟩, hP.mono (by omega)⟩
  simp -implicitDefEqProofs only [m__law_table, b__law_table, bM_ok, bM_exc, bR_ok, bR_exc, bS_nx, bS_ret, bS_exc, bO_some, bOM_some, selM_t, selM_f, selS_t, selS_f, rdO_im, rdO_ow, lookO_im, lookO_ow, lookO_mu, moveO_ow, ownO_ow, ownO_mu, putO_ow, putO_mu, ofDR_ret, ofDR_exc, ofDU_ret, ofDU_exc, endF_nx, endF_ret, endF_exc, endU_nx, endU_ret, endU_exc, e_runF, e_runU, e_bind, e_ret, e_lift, e_rd, e_look, e_move, e_ownC, e_putC, e_op2, e_op1, e_tst, e_notM, e_andM, e_orM, e_notE, e_andE, e_orE, e_iteE, e_chn, e_argN, e_argC, e_tupE, e_lstE, e_noP, e_partM, e_sl3, asStr_str, e_strM, e_callF, e_callU, e_useU, e_mutM, e_skip, e_seqS, e_ifS, e_exprS, e_retS, e_setS, e_ownS, e_stIx, e_tgS, e_tgN, e_tgT, e_tgCons, e_tgNil, parK_2, e_parS, e_forS, e_rng1M, e_rng2M, e_iterM, e_enumA, e_zipM, e_lcE, o_subI, o_addI, o_eqI, o_neI, o_eqS, o_neS, o_ltI, o_leI, o_gtI, o_geI, o_maxI, o_minI, o_lenL, o_lenF, o_lenT, o_negI, o_asB, o_isiS, List.map_cons, List.map_nil, List.length_cons, List.length_nil, List.cons_append, List.nil_append, List.append_nil, List.replicate_succ, List.replicate_zero, List.getElem?_cons_succ, List.getElem?_cons_zero, List.set_cons_succ, List.set_cons_zero, Option.map_some, Option.map_none, Option.bind_some, Option.bind_none, if_true, if_false, ite_true, ite_false, decide_true, decide_false, Bool.not_true, Bool.not_false, Nat.zero_add, Nat.reduceAdd, Nat.reduceSub, reduceIte, reduceCtorEq, Nat.reduceLT, Nat.reduceLeDiff, Int.reduceLT, Int.reduceLE, Int.reduceToNat, Int.reduceNeg, Int.reduceEq, Int.reduceSub, Int.reduceAdd, Int.reduceMul, Int.reducePow, tyOk, beq_self_eq_true, e_freeP1, e_freeP2, freeO_no, freeO_im, e_wipe1, e_wipe2, e_back1, e_back2, backO_s, o_iterL, o_iterF, o_iterT, Bool.and_true, sK_nx, sK_ret, tK_nx, tK_ret, e_tryS, e_raiseS, o_isE, o_isEN, o_notNN, o_notNE, o_isNN, o_isNE, e_prN, e_prC, e_dispE, e_zipA, o_zipSS, o_zipSL, o_zipLL, o_asI, e_callL, e_callLF, bRs_ok, e_bxK, bxKo_bx, e_bxPutK, e_bxAtK, e_bxL, bxLo_bx, e_bxSet2, e_lcEN, e_owbS, kOw_nx, e_owbO, owO_bx, o_lenDT, fix_nxt2, okB_nxt2, e_mkX, mkT_str, e_callLN, ofLF_t, ofLF_exc, ofLN_b, ofLN_exc, ofDL_bl, ofDL_int, ofDL_str, ofDL_non, ofDL_exc, e_killS, kK_nx, kK_ret, kK_exc, e_wipeC, e_wipeN, e_backC, e_backN, e_stp, e_lcs, joinC_t, joinC_f, joinC_ok, e_augI, augO_int, e_getE, e_dixE, asD_k, keyD_s, keyD_i, e_bSkK, e_kiY, e_frzS, kF_nx, e_frzO, fO_ow, e_freeP3, e_strX, e_rng3A, o_iterM, e_lckS, kL_nx, e_lckO, lO_k, lO_t, e_iterK, o_iterKk, o_iterKt, e_getA, e_dixA, isDct_k, isDct_t, isDct_fk, isDct_ft, oGetA_k, oGetA_fk, oGetA_t, oGetA_ft, id_eq, e_iterL, e_lookT, lookR_ok, frzA_c, frzA_n, frz_im', frz_ow', frz_mu', frz_no', e_runN, endN_nx, endN_ret, endN_exc, e_bxS, e_nwM, e_nxM, e_fixM, e_tupN, e_moveB, moveBO_bx, frz_bx', frz_mb', frzB_t, okB_nw, okB_int, okB_str, okB_lst, okB_tup, okB_non, okB_bl, okB_nxt, okB_nxl, okA_c, okA_n, fix_nw, fix_int, fix_str, fix_lst, fix_tup, fix_non, fix_bl, fix_nxt, fix_nxl, fixA_c, fixA_n, e_bxT, bxTO_bx, bxTD_nw, e_bxAtT, e_callUF, e_owbA, e_obF, obO_mb, obO_bx, e_imF, imO_im, e_bxO, bxOo_bx, bxOo_mb, e_bputO, bpO_mb, bpO_bx, lkp_c, fldD_nw, fldD_int, fldD_lst, e_lookF, e_fldS, e_fldC, fldCo_c, putFd_c, putFd_n, e_fldM, e_fldP, ofDM_ret, ofDM_exc, e_callB, e_callM, e_methM, mkO_ret, e_makeM, endM_nx, endM_ret, endM_exc, e_runM, e_mdIn, e_mdAt, e_valF, valO_s, e_obI, oiO_s, e_callV, e_methV, e_frzBS, kFB_nx, kFB_ret, e_frzBO, fBO_bx, okB_ob, okF_c, okF_n, fix_ob, fixF_c, fixF_n, sN_nx, sN_ret, tN_nx, tN_ret, e_tryN, e_fldQ, dkO_k, e_lookE, e1, ef, o_range rows (by omega), e]
end Q

namespace Q
open PL
open PySem (Str)
section
variable {h w : Nat} {T : List (List Nat)}
/-! ### sizes, free cells, how often each sign stands -/
theorem size_of_ok (hT : Lit h w T) : m_size_of [.lst (T.map .str)] = .ret (.tup [.int h, .int w]) .non := by
  have hh := hT.hh
  have hw := hT.hw
  obtain ⟨e1, l1⟩ := row_at hT.t (i := 0) (by decide) (by have := hT.h0; omega)
  have l1' : (T.getD 0 []).length = w := l1
  have f1 : oLen (.str (T.getD 0 [])) = some (.int w) := by rw [o_lenS (by omega), l1']
  have g1 : (T.map D.str).length = h := by rw [List.length_map]; exact hT.t.1
  simp! only [m_size_of, b_size_of, one_eq, ix0, ix1, ix2, tx0, tx1, tx2, o_intB, isi_lst, isi_tup, isi_bi, isi_bb, isi_ii, isi_ss, o_listL, o_iterS', o_enumL', o_enumS', need_little_ok hT, e1, f1, g1]
theorem flat_len (hT : Lit h w T) : (T.map List.length).sum ≤ 1000000 := by
  have hl : ∀ {L : List (List Nat)}, (∀ r, r ∈ L → r.length = w) → (L.map List.length).sum = L.length * w := fun {L} hL => by
    induction L with
    | nil => simp
    | cons r L ih =>
      rw [List.map_cons, List.sum_cons, ih fun r hr => hL r (List.mem_cons_of_mem _ hr), hL r List.mem_cons_self, List.length_cons, Nat.add_mul, Nat.one_mul, Nat.add_comm]
  rw [hl fun r hr => (hT.t.2 r hr).1, hT.t.1]
  exact Nat.mul_le_mul hT.hh hT.hw
theorem flat_len' (hT : Lit h w T) : T.flatten.length ≤ 1000000 := by
  rw [List.length_flatten]
  exact flat_len hT
theorem join_ok (hT : Lit h w T) : oJoin (.str []) (.lst (T.map .str)) = some (.str T.flatten) := o_join (Nat.le_trans (flat_len hT) (by decide))
theorem free_count (hT : Lit h w T) : m_how_many_free [.lst (T.map .str)] = .ret (.int (T.flatten.count 63)) .non := by
  have J := join_ok hT
  have hl := flat_len' hT
  simp! only [m_how_many_free, b_how_many_free, one_eq, ix0, ix1, ix2, tx0, tx1, tx2, o_intB, isi_lst, isi_tup, isi_bi, isi_bb, isi_ii, isi_ss, o_listL, o_iterS', o_enumL', o_enumS', need_little_ok hT, J]
  rw [lc_filt (fun c => decide (c = 63)) (fun c => .str [c]) (by omega) fun c hc => by
    simp! only [one_eq, ix0, ix1, ix2, tx0, tx1, tx2, o_intB, isi_lst, isi_tup, isi_bi, isi_bb, isi_ii, isi_ss, o_listL, o_iterS', o_enumL', o_enumS', s_eq]]
  simp! only [one_eq, ix0, ix1, ix2, tx0, tx1, tx2, o_intB, isi_lst, isi_tup, isi_bi, isi_bb, isi_ii, isi_ss, o_listL, o_iterS', o_enumL', o_enumS', List.length_map]
  rw [← List.countP_eq_length_filter]
  rfl
def kc (c : Nat) : L2.Key := .inr (S [c])
theorem kc_inj {a b : Nat} (h : kc a = kc b) : a = b := by
  unfold kc at h
  injection h with h
  have := S_inj h
  simpa using this
theorem putD_get {es : List (L2.Key × D)} {k j : L2.Key} {d : D} : getD' (putD es k d) j = if j = k then some d else getD' es j := by
  unfold putD
  split
  · rename_i ha
    have key : ∀ L : List (L2.Key × D), getD' (L.map fun kv => if kv.1 = k then (kv.1, d) else kv) j = if j = k then (if (L.any fun kv => decide (kv.1 = k)) = true then some d else none) else getD' L j := fun L => by
      induction L with
      | nil => unfold getD'; simp
      | cons p L ih =>
        unfold getD' at ih ⊢
        rw [List.map_cons, List.find?_cons, List.find?_cons, List.any_cons]
        by_cases hp : p.1 = k
        · by_cases hj : j = k
          · subst hj
            simp [hp]
          · have h1 : ¬ k = j := fun z => hj z.symm
            have h2 : ¬ p.1 = j := fun z => hj (z.symm.trans hp)
            simp only [hp, if_true, h1, decide_false, hj, if_false] at ih ⊢
            exact ih
        · by_cases hj : j = k
          · subst hj
            simp only [hp, if_false, decide_false, Bool.false_or, if_true] at ih ⊢
            exact ih
          · simp only [hp, if_false, hj] at ih ⊢
            by_cases h2 : p.1 = j
            · simp [h2]
            · simp only [h2, decide_false]
              exact ih
    rw [key, ha]
    simp
  · rename_i ha
    unfold getD'
    rw [List.find?_append]
    by_cases hj : j = k
    · subst hj
      rw [List.find?_eq_none.mpr (fun p hp q => ha (List.any_eq_true.mpr ⟨p, hp, q⟩))]
      simp
    · have h1 : ¬ k = j := fun z => hj z.symm
      rw [if_neg hj]
      cases List.find? (fun kv => decide (kv.1 = j)) es with
      | none => simp [h1]
      | some p => rfl
theorem putD_any {es : List (L2.Key × D)} {k : L2.Key} : ((es.any fun kv => decide (kv.1 = k)) = true) = (k ∈ es.map (·.1)) := by
  rw [List.any_eq_true, List.mem_map]
  apply propext
  constructor
  · rintro ⟨p, hp, q⟩
    exact ⟨p, hp, of_decide_eq_true q⟩
  · rintro ⟨p, hp, q⟩
    exact ⟨p, hp, decide_eq_true q⟩
theorem putD_old {es : List (L2.Key × D)} {k : L2.Key} {d : D} (h : k ∈ es.map (·.1)) : (putD es k d).map (·.1) = es.map (·.1) := by
  unfold putD
  rw [if_pos (by rw [putD_any]; exact h), List.map_map]
  refine List.map_congr_left fun p _ => ?_
  show (if p.1 = k then (p.1, d) else p).1 = p.1
  split <;> rfl
theorem putD_new {es : List (L2.Key × D)} {k : L2.Key} {d : D} (h : ¬ k ∈ es.map (·.1)) : (putD es k d).map (·.1) = es.map (·.1) ++ [k] := by
  unfold putD
  rw [if_neg (by rw [putD_any]; exact h), List.map_append]
  rfl
/-- how often each sign but the free one stands in s -/
structure Cnt (s : List Nat) (es : List (L2.Key × D)) : Prop where
  get : ∀ c, getD' es (kc c) = if c ≠ 63 ∧ c ∈ s then some (.int (s.count c)) else none
  keys : ∀ k, k ∈ es.map (·.1) ↔ ∃ c, k = kc c ∧ c ≠ 63 ∧ c ∈ s
  nd : (es.map (·.1)).Nodup
  len : es.length ≤ s.length
theorem Cnt.nil : Cnt [] [] := ⟨fun c => by simp [getD'], fun k => by simp, List.nodup_nil, Nat.le_refl _⟩
theorem Cnt.skip {s : List Nat} {es : List (L2.Key × D)} (h : Cnt s es) : Cnt (s ++ [63]) es := by
  refine ⟨fun c => ?_, fun k => ?_, h.nd, by rw [List.length_append]; have := h.len; omega⟩
  · rw [h.get c]
    by_cases q : c = 63
    · simp [q]
    · have q' : ¬ 63 = c := fun z => q z.symm
      simp [q, List.count_append, List.count_cons, q']
  · rw [h.keys k]
    constructor
    · rintro ⟨c, e, q, hc⟩; exact ⟨c, e, q, List.mem_append_left _ hc⟩
    · rintro ⟨c, e, q, hc⟩
      rcases List.mem_append.mp hc with z | z
      · exact ⟨c, e, q, z⟩
      · exact absurd (List.mem_singleton.mp z) q
theorem Cnt.more {s : List Nat} {es : List (L2.Key × D)} {c : Nat} (h : Cnt s es) (hc : c ≠ 63) : Cnt (s ++ [c]) (putD es (kc c) (.int ((s.count c : Nat) + 1))) := by
  have hg : ∀ b, getD' (putD es (kc c) (.int ((s.count c : Nat) + 1))) (kc b) = if b ≠ 63 ∧ b ∈ s ++ [c] then some (.int ((s ++ [c]).count b)) else none := fun b => by
    rw [putD_get]
    by_cases q : b = c
    · subst q
      rw [if_pos rfl, if_pos ⟨hc, by simp⟩]
      simp [List.count_append]
    · have q2 : ¬ kc b = kc c := fun z => q (kc_inj z)
      rw [if_neg q2, h.get b]
      have q3 : ¬ c = b := fun z => q z.symm
      simp [q, q3, List.count_append, List.count_cons]
  by_cases hk : kc c ∈ es.map (·.1)
  · have hm : c ∈ s := by
      obtain ⟨b, e, _, hb⟩ := (h.keys _).mp hk
      rw [kc_inj e]; exact hb
    refine ⟨hg, fun k => ?_, by rw [putD_old hk]; exact h.nd, ?_⟩
    · rw [putD_old hk, h.keys k]
      constructor
      · rintro ⟨b, e, q, hb⟩; exact ⟨b, e, q, List.mem_append_left _ hb⟩
      · rintro ⟨b, e, q, hb⟩
        rcases List.mem_append.mp hb with z | z
        · exact ⟨b, e, q, z⟩
        · exact ⟨b, e, q, by rw [List.mem_singleton.mp z]; exact hm⟩
    · have := congrArg List.length (putD_old (d := .int ((s.count c : Nat) + 1)) hk)
      rw [List.length_map, List.length_map] at this
      have := h.len
      rw [List.length_append]
      omega
  · refine ⟨hg, fun k => ?_, ?_, ?_⟩
    · rw [putD_new hk, List.mem_append, h.keys k]
      constructor
      · rintro (⟨b, e, q, hb⟩ | z)
        · exact ⟨b, e, q, List.mem_append_left _ hb⟩
        · exact ⟨c, List.mem_singleton.mp z, hc, by simp⟩
      · rintro ⟨b, e, q, hb⟩
        rcases List.mem_append.mp hb with z | z
        · exact .inl ⟨b, e, q, z⟩
        · exact .inr (by rw [e, List.mem_singleton.mp z]; exact List.mem_singleton.mpr rfl)
    · rw [putD_new hk]
      exact List.nodup_append.mpr ⟨h.nd, by simp, fun a ha b hb z => by
        rw [List.mem_singleton.mp hb] at z
        exact hk (z ▸ ha)⟩
    · have := congrArg List.length (putD_new (d := .int ((s.count c : Nat) + 1)) hk)
      rw [List.length_map, List.length_append, List.length_map] at this
      have := h.len
      rw [List.length_append]
      simp only [List.length_singleton] at *
      omega
theorem get_of_mem {es : List (L2.Key × D)} (nd : (es.map (·.1)).Nodup) {p : L2.Key × D} (hp : p ∈ es) : getD' es p.1 = some p.2 := by
  induction es with
  | nil => cases hp
  | cons q es ih =>
    rw [List.map_cons, List.nodup_cons] at nd
    unfold getD' at ih ⊢
    rw [List.find?_cons]
    rcases List.mem_cons.mp hp with rfl | hp
    · simp
    · have : ¬ q.1 = p.1 := fun z => nd.1 (z ▸ List.mem_map_of_mem hp)
      simp only [this, decide_false]
      exact ih nd.2 hp
theorem Cnt.same {s t : List Nat} {es fs : List (L2.Key × D)} (h : Cnt s es) (h2 : Cnt t fs) (e : ∀ c, s.count c = t.count c) : sameK es fs = true := by
  have hm : ∀ c, c ∈ s ↔ c ∈ t := fun c => by
    rw [← List.count_pos_iff, ← List.count_pos_iff, e c]
  unfold sameK
  rw [Bool.and_eq_true, beq_iff_eq]
  refine ⟨?_, List.all_eq_true.mpr fun p hp => ?_⟩
  · have : (es.map (·.1)).length = (fs.map (·.1)).length := ((List.perm_ext_iff_of_nodup h.nd h2.nd).mpr fun k => by
      rw [h.keys, h2.keys]
      constructor
      · rintro ⟨c, q, r, z⟩; exact ⟨c, q, r, (hm c).mp z⟩
      · rintro ⟨c, q, r, z⟩; exact ⟨c, q, r, (hm c).mpr z⟩).length_eq
    simpa using this
  · obtain ⟨c, hk, hc, hs⟩ := (h.keys p.1).mp (List.mem_map_of_mem hp)
    have e1 := get_of_mem h.nd hp
    rw [hk, h.get c, if_pos ⟨hc, hs⟩] at e1
    rw [← Option.some.inj e1, hk, h2.get c, if_pos ⟨hc, (hm c).mp hs⟩]
    unfold sameV
    simp [e c]
theorem counts_ok (hT : Lit h w T) : ∃ es, m_signs_counted [.lst (T.map .str)] = .ret (.dK es) .non ∧ Cnt T.flatten es := by
  have J := join_ok hT
  have hl := flat_len' hT
  obtain ⟨s', e, es, rfl, hC⟩ := for_relD (h := tgN 2) (body := b_signs_counted_1) (ds := T.flatten.map fun c => D.str [c]) (τ := [.im (.lst (T.map .str)), .ow (.dK []), .no]) (s := .ow (.dK [])) 1
    (fun n s => ∃ es, s = .ow (.dK es) ∧ Cnt (T.flatten.take n) es) ⟨[], rfl, by rw [List.take_zero]; exact .nil⟩ fun n d s hd hI => by
      obtain ⟨es, rfl, hC⟩ := hI
      rw [List.getElem?_map] at hd
      cases ex : T.flatten[n]? with
      | none => rw [ex] at hd; cases hd
      | some c =>
        rw [ex] at hd
        cases hd
        have et : T.flatten.take (n + 1) = T.flatten.take n ++ [c] := by rw [List.take_add_one, ex]; rfl
        rw [et]
        by_cases q : c = 63
        · subst q
          refine ⟨_, ?_, es, rfl, hC.skip⟩
          simp! only [b_signs_counted_1, one_eq, ix0, ix1, ix2, tx0, tx1, tx2, o_intB, isi_lst, isi_tup, isi_bi, isi_bb, isi_ii, isi_ss, o_listL, o_iterS', o_enumL', o_enumS']
        · have hz : es.length < 16777216 := by
            have := hC.len
            rw [List.length_take] at this
            omega
          have eg : (getD' es (kc c)).getD (.int 0) = .int ((T.flatten.take n).count c : Nat) := by
            rw [hC.get c]
            by_cases z : c ∈ T.flatten.take n
            · rw [if_pos ⟨q, z⟩]; rfl
            · rw [if_neg fun y => z y.2, List.count_eq_zero.mpr z]; rfl
          refine ⟨.ow (.dK (putD es (kc c) (.int (((T.flatten.take n).count c : Nat) + 1)))), ?_, _, rfl, hC.more q⟩
          have k1 : keyD (.str [c]) = some (kc c) := rfl
          have st := fun d => o_setD (d := d) hz k1
          have eg' : (getD' es (.inr (S [c]))).getD (.int 0) = .int ((T.flatten.take n).count c : Nat) := eg
          simp! only [b_signs_counted_1, one_eq, ix0, ix1, ix2, tx0, tx1, tx2, o_intB, isi_lst, isi_tup, isi_bi, isi_bb, isi_ii, isi_ss, o_listL, o_iterS', o_enumL', o_enumS', q, eg', st]
  rw [List.length_map, List.take_length] at hC
  refine ⟨es, ?_, hC⟩
  have e' : forL (tgN 2) b_signs_counted_1 (T.flatten.map fun c => D.str [c]) [.im (.lst (T.map .str)), .ow (.dK []), .no] = .nx [.im (.lst (T.map .str)), .ow (.dK es), .no] := e
  simp! only [m_signs_counted, b_signs_counted, one_eq, ix0, ix1, ix2, tx0, tx1, tx2, o_intB, isi_lst, isi_tup, isi_bi, isi_bb, isi_ii, isi_ss, o_listL, o_iterS', o_enumL', o_enumS', need_little_ok hT, J, e']
end
end Q

/-! SL: slices by numbers from 0 on, of texts and of lists. -/
namespace Q
open PL
open PySem (Str)
theorem cutT {α : Type} {xs : List α} {n : Nat} : cutD xs none (some (n : Int)) = xs.take n := by
  unfold cutD
  rw [HT.sIx_nat, HT.sIx_none, List.drop_zero, Nat.sub_zero, List.take_eq_take_iff]
  omega
theorem cutF {α : Type} {xs : List α} {n : Nat} : cutD xs (some (n : Int)) none = xs.drop n := by
  unfold cutD
  rw [HT.sIx_nat, HT.sIx_none]
  by_cases q : n ≤ xs.length
  · rw [Nat.min_eq_left q]
    exact List.take_of_length_le (by rw [List.length_drop]; exact Nat.le_refl _)
  · rw [Nat.min_eq_right (by omega), Nat.sub_self, List.take_zero, List.drop_of_length_le (by omega)]
theorem l_T {xs : List D} {n : Nat} : oSl (.lst xs) none (some (n : Int)) = some (.lst (xs.take n)) := by
  show some (D.lst (cutD xs none (some (n : Int)))) = _
  rw [cutT]
theorem l_F {xs : List D} {n : Nat} : oSl (.lst xs) (some (n : Int)) none = some (.lst (xs.drop n)) := by
  show some (D.lst (cutD xs (some (n : Int)) none)) = _
  rw [cutF]
end Q

namespace Q
open PL
open PySem (Str)
/-! ### counts as a function of the sign (k04) -/
structure Fun (f : Nat → Nat) (n : Nat) (es : List (L2.Key × D)) : Prop where
  get : ∀ c, getD' es (kc c) = if f c ≠ 0 then some (.int (f c)) else none
  keys : ∀ k, k ∈ es.map (·.1) ↔ ∃ c, k = kc c ∧ f c ≠ 0
  nd : (es.map (·.1)).Nodup
  len : es.length ≤ n
def cntF (s : List Nat) (c : Nat) : Nat := if c = 63 then 0 else s.count c
theorem cntF_ne {s : List Nat} {c : Nat} : cntF s c ≠ 0 ↔ c ≠ 63 ∧ c ∈ s := by
  unfold cntF
  by_cases q : c = 63
  · rw [if_pos q]; exact ⟨fun z => absurd rfl z, fun z => absurd q z.1⟩
  · rw [if_neg q]
    exact ⟨fun z => ⟨q, List.count_pos_iff.mp (Nat.pos_of_ne_zero z)⟩, fun z => Nat.pos_iff_ne_zero.mp (List.count_pos_iff.mpr z.2)⟩
theorem cntF_app {s t : List Nat} {c : Nat} : cntF (s ++ t) c = cntF s c + cntF t c := by
  unfold cntF
  by_cases q : c = 63
  · simp [q]
  · simp [q, List.count_append]
theorem Cnt.fn {s : List Nat} {es : List (L2.Key × D)} (h : Cnt s es) : Fun (cntF s) s.length es := by
  refine ⟨fun c => ?_, fun k => ?_, h.nd, h.len⟩
  · rw [h.get c]
    by_cases q : c ≠ 63 ∧ c ∈ s
    · rw [if_pos q, if_pos (cntF_ne.mpr q)]
      unfold cntF
      rw [if_neg q.1]
    · rw [if_neg q, if_neg fun z => q (cntF_ne.mp z)]
  · rw [h.keys k]
    constructor
    · rintro ⟨c, e, q⟩; exact ⟨c, e, cntF_ne.mpr q⟩
    · rintro ⟨c, e, q⟩; exact ⟨c, e, cntF_ne.mp q⟩
theorem Fun.cnt {s : List Nat} {n : Nat} {es : List (L2.Key × D)} (h : Fun (cntF s) n es) (hn : n ≤ s.length) : Cnt s es := by
  refine ⟨fun c => ?_, fun k => ?_, h.nd, Nat.le_trans h.len hn⟩
  · rw [h.get c]
    by_cases q : c ≠ 63 ∧ c ∈ s
    · rw [if_pos q, if_pos (cntF_ne.mpr q)]
      unfold cntF
      rw [if_neg q.1]
    · rw [if_neg q, if_neg fun z => q (cntF_ne.mp z)]
  · rw [h.keys k]
    constructor
    · rintro ⟨c, e, q⟩; exact ⟨c, e, cntF_ne.mp q⟩
    · rintro ⟨c, e, q⟩; exact ⟨c, e, cntF_ne.mpr q⟩
theorem Fun.put {f : Nat → Nat} {n c v : Nat} {es : List (L2.Key × D)} (h : Fun f n es) (hv : v ≠ 0) : Fun (fun b => if b = c then f c + v else f b) (n + 1) (putD es (kc c) (.int ((f c + v : Nat) : Int))) := by
  have hg : ∀ b, getD' (putD es (kc c) (.int ((f c + v : Nat) : Int))) (kc b) = if (if b = c then f c + v else f b) ≠ 0 then some (.int ((if b = c then f c + v else f b : Nat) : Int)) else none := fun b => by
    rw [putD_get]
    by_cases q : b = c
    · subst q
      rw [if_pos rfl, if_pos rfl, if_pos (by omega)]
    · have q2 : ¬ kc b = kc c := fun z => q (kc_inj z)
      rw [if_neg q2, h.get b, if_neg q]
  have hm : ∀ b, (if b = c then f c + v else f b) ≠ 0 ↔ b = c ∨ f b ≠ 0 := fun b => by
    by_cases q : b = c
    · rw [if_pos q]; exact ⟨fun _ => .inl q, fun _ => by omega⟩
    · rw [if_neg q]; exact ⟨.inr, fun z => z.resolve_left q⟩
  by_cases hk : kc c ∈ es.map (·.1)
  · refine ⟨hg, fun k => ?_, by rw [putD_old hk]; exact h.nd, ?_⟩
    · rw [putD_old hk, h.keys k]
      constructor
      · rintro ⟨b, e, q⟩; exact ⟨b, e, (hm b).mpr (.inr q)⟩
      · rintro ⟨b, e, q⟩
        rcases (hm b).mp q with z | z
        · obtain ⟨x, ex, hx⟩ := (h.keys _).mp hk
          refine ⟨b, e, ?_⟩
          rw [z, kc_inj ex]; exact hx
        · exact ⟨b, e, z⟩
    · have := congrArg List.length (putD_old (d := .int ((f c + v : Nat) : Int)) hk)
      rw [List.length_map, List.length_map] at this
      have := h.len
      omega
  · refine ⟨hg, fun k => ?_, ?_, ?_⟩
    · rw [putD_new hk, List.mem_append, h.keys k]
      constructor
      · rintro (⟨b, e, q⟩ | z)
        · exact ⟨b, e, (hm b).mpr (.inr q)⟩
        · exact ⟨c, List.mem_singleton.mp z, (hm c).mpr (.inl rfl)⟩
      · rintro ⟨b, e, q⟩
        rcases (hm b).mp q with z | z
        · exact .inr (by rw [e, z]; exact List.mem_singleton.mpr rfl)
        · exact .inl ⟨b, e, z⟩
    · rw [putD_new hk]
      exact List.nodup_append.mpr ⟨h.nd, by simp, fun a ha b hb z => by
        rw [List.mem_singleton.mp hb] at z
        exact hk (z ▸ ha)⟩
    · have := congrArg List.length (putD_new (d := .int ((f c + v : Nat) : Int)) hk)
      rw [List.length_map, List.length_append, List.length_map] at this
      have := h.len
      simp only [List.length_singleton] at *
      omega
theorem Fun.at {f : Nat → Nat} {n : Nat} {es : List (L2.Key × D)} (h : Fun f n es) {p : L2.Key × D} (hp : p ∈ es) : ∃ c, p = (kc c, .int (f c : Nat)) ∧ f c ≠ 0 := by
  obtain ⟨c, hk, hc⟩ := (h.keys p.1).mp (List.mem_map_of_mem hp)
  have e1 := get_of_mem h.nd hp
  rw [hk, h.get c, if_pos hc] at e1
  exact ⟨c, Prod.ext hk (Option.some.inj e1).symm, hc⟩
theorem as_map {α β : Type} {g : α → β} : ∀ {es : List β}, (∀ p, p ∈ es → ∃ c, p = g c) → ∃ L : List α, es = L.map g
  | [], _ => ⟨[], rfl⟩
  | p :: es, h => by
    obtain ⟨c, rfl⟩ := h p List.mem_cons_self
    obtain ⟨L, e⟩ := as_map (es := es) fun q hq => h q (List.mem_cons_of_mem _ hq)
    exact ⟨c :: L, by rw [e]; rfl⟩
theorem Fun.lst {f : Nat → Nat} {n : Nat} {es : List (L2.Key × D)} (h : Fun f n es) : ∃ L : List Nat, L.Nodup ∧ es = L.map (fun c => (kc c, D.int (f c : Nat))) ∧ (∀ c, c ∈ L ↔ f c ≠ 0) ∧ L.length ≤ n := by
  obtain ⟨L, e⟩ := as_map (g := fun c => (kc c, D.int (f c : Nat))) fun p hp => ⟨(h.at hp).choose, (h.at hp).choose_spec.1⟩
  have ek : es.map (·.1) = L.map kc := by rw [e, List.map_map]; rfl
  have nd := h.nd
  rw [ek] at nd
  refine ⟨L, (List.pairwise_map.mp nd).imp fun q z => q (congrArg kc z), e, fun c => ?_, ?_⟩
  · have := h.keys (kc c)
    rw [ek, List.mem_map] at this
    constructor
    · intro hc
      obtain ⟨b, eb, hb⟩ := this.mp ⟨c, hc, rfl⟩
      rw [kc_inj eb]; exact hb
    · intro hc
      obtain ⟨b, hb, eb⟩ := this.mpr ⟨c, rfl, hc⟩
      rw [← kc_inj eb]; exact hb
  · have := h.len
    rw [e, List.length_map] at this
    exact this
/-! ### the sum of all counts -/
theorem count_in {c : Nat} {L : List Nat} (hc : ¬ c ∈ L) : ∀ s : List Nat, s.countP (fun x => decide (x ∈ c :: L)) = s.count c + s.countP (fun x => decide (x ∈ L))
  | [] => rfl
  | x :: s => by
    rw [List.countP_cons, List.countP_cons, List.count_cons, count_in hc s]
    by_cases q : x = c
    · subst q
      simp [hc]
      omega
    · simp [q]
      omega
theorem sum_count {s : List Nat} : ∀ {L : List Nat}, L.Nodup → (L.map fun c => s.count c).sum = s.countP (fun c => decide (c ∈ L))
  | [], _ => by simp
  | c :: L, h => by
    rw [List.nodup_cons] at h
    rw [List.map_cons, List.sum_cons, sum_count h.2, count_in h.1]
theorem count_rest : ∀ s : List Nat, s.countP (fun c => decide (c ≠ 63)) + s.count 63 = s.length
  | [] => rfl
  | x :: s => by
    have := count_rest s
    rw [List.countP_cons, List.count_cons, List.length_cons]
    by_cases q : x = 63
    · simp [q] at this ⊢
      omega
    · simp [q] at this ⊢
      omega
theorem ints_map {f : Nat → Nat} : ∀ L : List Nat, intsD (L.map fun c => D.int (f c : Nat)) = some (L.map fun c => ((f c : Nat) : Int))
  | [] => rfl
  | c :: L => by
    rw [List.map_cons]
    unfold intsD
    rw [ints_map L]
    rfl
theorem sum_cast {f : Nat → Nat} : ∀ L : List Nat, (L.map fun c => ((f c : Nat) : Int)).sum = (((L.map f).sum : Nat) : Int)
  | [] => rfl
  | c :: L => by
    rw [List.map_cons, List.sum_cons, sum_cast L, List.map_cons, List.sum_cons]
    omega
theorem sum_ok {s : List Nat} {es : List (L2.Key × D)} (h : Cnt s es) : oSumV (.dK es) = some (.int ((s.length : Int) - (s.count 63 : Nat))) := by
  obtain ⟨L, nd, e, hL, _⟩ := h.fn.lst
  have e1 : es.map (·.2) = L.map fun c => D.int (cntF s c : Nat) := by rw [e, List.map_map]; rfl
  show (intsD (es.map (·.2))).map (fun ns => D.int ns.sum) = _
  rw [e1, ints_map]
  have e2 : L.map (cntF s) = L.map fun c => s.count c := List.map_congr_left fun c hc => by
    have := (cntF_ne.mp ((hL c).mp hc)).1
    unfold cntF
    rw [if_neg this]
  have e3 : s.countP (fun c => decide (c ∈ L)) = s.countP (fun c => decide (c ≠ 63)) := List.countP_congr fun c hc => by
    rw [decide_eq_true_eq, decide_eq_true_eq, hL c, cntF_ne]
    exact ⟨fun z => z.1, fun z => ⟨z, hc⟩⟩
  have e4 := count_rest s
  show some (D.int (L.map fun c => ((cntF s c : Nat) : Int)).sum) = _
  rw [sum_cast, e2, sum_count nd, e3]
  congr 2
  omega
/-! ### counts added -/
theorem lckI_run {i : Nat} {f : SM} {τ τ' : PS0} {es : List (L2.Key × D)} (hi : τ[i]? = some (.im (.dK es))) (h1 : ((τ.set i .no).all flS && (es.map (·.2)).all flt) = true) (h2 : f (τ.set i (.im (.fk es))) = .nx τ') (h3 : (decide (i < τ'.length) && (τ'.set i .no).all flS) = true) : lckI i f τ = .nx (τ'.set i .no) := by
  unfold lckI
  rw [hi]
  simp only [h1, h2, h3, if_true]
theorem Fun.flat {f : Nat → Nat} {n : Nat} {es : List (L2.Key × D)} (h : Fun f n es) : (es.map (·.2)).all flt = true := List.all_eq_true.mpr fun d hd => by
  obtain ⟨p, hp, rfl⟩ := List.mem_map.mp hd
  obtain ⟨c, rfl, _⟩ := h.at hp
  rfl
theorem add_turn {f : Nat → Nat} {n c : Nat} {t : List Nat} {fs gs : List (L2.Key × D)} {s0 : Slot} (h : Fun f n gs) (hz : n < 16777216) (h2 : Cnt t fs) (hc : cntF t c ≠ 0) :
    stp (tgN 3) b__law_added_1 [s0, .im (.fk fs), .ow (.dK gs), .no] (.str [c]) = .nx [s0, .im (.fk fs), .ow (.dK (putD gs (kc c) (.int ((f c + cntF t c : Nat) : Int)))), .no] := by
  have e1 : (getD' gs (.inr (S [c]))).getD (.int 0) = .int (f c : Nat) := by
    show (getD' gs (kc c)).getD (.int 0) = _
    rw [h.get c]
    by_cases q : f c = 0
    · rw [if_neg fun z => z q, q]; rfl
    · rw [if_pos q]; rfl
  have e2 : getD' fs (.inr (S [c])) = some (.int (cntF t c : Nat)) := by
    show getD' fs (kc c) = _
    rw [h2.fn.get c, if_pos hc]
  have k1 : keyD (.str [c]) = some (kc c) := rfl
  have st := fun d => o_setD (d := d) (es := gs) (Nat.lt_of_le_of_lt h.len hz) k1
  have ei : (f c : Int) + (cntF t c : Int) = ((f c + cntF t c : Nat) : Int) := by omega
  simp! only [b__law_added_1, one_eq, ix0, ix1, ix2, tx0, tx1, tx2, o_intB, isi_lst, isi_tup, isi_bi, isi_bb, isi_ii, isi_ss, o_listL, o_iterS', o_enumL', o_enumS', e1, e2, st, ei]
theorem added_ok {s t : List Nat} {es fs : List (L2.Key × D)} (h1 : Cnt s es) (h2 : Cnt t fs) (hz : s.length + t.length ≤ 2000000) : ∃ gs, m__law_added [.dK es, .dK fs] = .ret (.dK gs) .non ∧ Cnt (s ++ t) gs := by
  obtain ⟨L, nd, e, hL, hl⟩ := h2.fn.lst
  have ek : oIterK (.fk fs) = some (L.map fun c => D.str [c]) := by
    show some (fs.map fun kv => keyO kv.1) = _
    rw [e, List.map_map]
    rfl
  obtain ⟨s', e', gs, rfl, hF⟩ := for_relD (h := tgN 3) (body := b__law_added_1) (ds := L.map fun c => D.str [c]) (τ := [.no, .im (.fk fs), .ow (.dK es), .no]) (s := .ow (.dK es)) 2
    (fun n s1 => ∃ gs, s1 = .ow (.dK gs) ∧ Fun (fun c => cntF s c + if c ∈ L.take n then cntF t c else 0) (s.length + n) gs) ⟨es, rfl, by
      have := h1.fn
      simpa using this⟩ fun n d s1 hd hI => by
      obtain ⟨gs, rfl, hF⟩ := hI
      rw [List.getElem?_map] at hd
      cases ex : L[n]? with
      | none => rw [ex] at hd; cases hd
      | some c =>
        rw [ex] at hd
        cases hd
        have hn := (List.getElem?_eq_some_iff.mp ex).1
        have et : L.take (n + 1) = L.take n ++ [c] := by rw [List.take_add_one, ex]; rfl
        have hc : cntF t c ≠ 0 := (hL c).mp (List.mem_of_getElem? ex)
        have hnot : ¬ c ∈ L.take n := fun z => by
          have nd2 : (L.take (n + 1)).Nodup := List.Nodup.sublist (List.take_sublist _ _) nd
          rw [et, List.nodup_append] at nd2
          exact nd2.2.2 c z c (List.mem_singleton.mpr rfl) rfl
        refine ⟨_, add_turn (s0 := .no) hF (by omega) h2 hc, _, rfl, ?_⟩
        have hP := hF.put (c := c) hc
        have ef : (fun b => if b = c then (cntF s c + if c ∈ L.take n then cntF t c else 0) + cntF t c else cntF s b + if b ∈ L.take n then cntF t b else 0) = fun b => cntF s b + if b ∈ L.take (n + 1) then cntF t b else 0 := funext fun b => by
          rw [et]
          by_cases q : b = c
          · subst q
            rw [if_pos rfl, if_neg hnot, if_pos (List.mem_append_right _ (List.mem_singleton.mpr rfl))]
            omega
          · rw [if_neg q]
            congr 1
            by_cases q2 : b ∈ L.take n
            · rw [if_pos q2, if_pos (List.mem_append_left _ q2)]
            · rw [if_neg q2, if_neg fun z => by
                rcases List.mem_append.mp z with z | z
                · exact q2 z
                · exact q (List.mem_singleton.mp z)]
        have hP : Fun (fun b => if b = c then (cntF s c + if c ∈ L.take n then cntF t c else 0) + cntF t c else cntF s b + if b ∈ L.take n then cntF t b else 0) (s.length + n + 1) (putD gs (kc c) (.int (((cntF s c + if c ∈ L.take n then cntF t c else 0) + cntF t c : Nat) : Int))) := hP
        rw [ef] at hP
        exact hP
  have e' : forL (tgN 3) b__law_added_1 (L.map fun c => D.str [c]) [.no, .im (.fk fs), .ow (.dK es), .no] = .nx [.no, .im (.fk fs), .ow (.dK gs), .no] := e'
  rw [List.length_map, List.take_length] at hF
  have ef : (fun c => cntF s c + if c ∈ L then cntF t c else 0) = cntF (s ++ t) := funext fun c => by
    rw [cntF_app]
    congr 1
    by_cases q : c ∈ L
    · rw [if_pos q]
    · rw [if_neg q]
      exact (Classical.not_not.mp fun z => q ((hL c).mpr z)).symm
  rw [ef] at hF
  have hC := hF.cnt (by rw [List.length_append]; omega)
  refine ⟨gs, ?_, hC⟩
  have LK : lckI 1 (forS (iterK (rd 1)) (tgN 3) b__law_added_1) [.no, .im (.dK fs), .ow (.dK es), .no] = .nx [.no, .no, .ow (.dK gs), .no] := by
    refine lckI_run (i := 1) (τ' := [.no, .im (.fk fs), .ow (.dK gs), .no]) rfl ?_ ?_ ?_
    · have a1 := h1.fn.flat
      have a2 := h2.fn.flat
      show ((true && (true && ((es.map (·.2)).all flt && (true && true)))) && (fs.map (·.2)).all flt) = true
      rw [a1, a2]
      rfl
    · show forS (iterK (rd 1)) (tgN 3) b__law_added_1 [.no, .im (.fk fs), .ow (.dK es), .no] = _
      simp! only [one_eq, ix0, ix1, ix2, tx0, tx1, tx2, o_intB, isi_lst, isi_tup, isi_bi, isi_bb, isi_ii, isi_ss, o_listL, o_iterS', o_enumL', o_enumS', ek, e']
    · have a1 := hC.fn.flat
      show (decide (1 < 4) && (true && (true && ((gs.map (·.2)).all flt && (true && true))))) = true
      rw [a1]
      rfl
  have od : oDictD (.dK es) = some (.dK es) := rfl
  simp! only [m__law_added, b__law_added, one_eq, ix0, ix1, ix2, tx0, tx1, tx2, o_intB, isi_lst, isi_tup, isi_bi, isi_bb, isi_ii, isi_ss, o_listL, o_iterS', o_enumL', o_enumS', od, LK]
/-! ### counts that are the same but for the free sign -/
theorem Cnt.same' {s t : List Nat} {es fs : List (L2.Key × D)} (h : Cnt s es) (h2 : Cnt t fs) (e : ∀ c, c ≠ 63 → s.count c = t.count c) : sameK es fs = true := by
  have ee : cntF s = cntF t := funext fun c => by
    unfold cntF
    by_cases q : c = 63
    · rw [if_pos q, if_pos q]
    · rw [if_neg q, if_neg q, e c q]
  have f1 := h.fn
  have f2 := h2.fn
  rw [ee] at f1
  unfold sameK
  rw [Bool.and_eq_true, beq_iff_eq]
  refine ⟨?_, List.all_eq_true.mpr fun p hp => ?_⟩
  · have : (es.map (·.1)).length = (fs.map (·.1)).length := ((List.perm_ext_iff_of_nodup f1.nd f2.nd).mpr fun k => by
      rw [f1.keys, f2.keys]).length_eq
    simpa using this
  · obtain ⟨c, rfl, hc⟩ := f1.at hp
    show sameV (.int (cntF t c : Nat)) (getD' fs (kc c)) = true
    rw [f2.get c, if_pos hc]
    unfold sameV
    simp
end Q

namespace Q
open PL
open PySem (Str)
section
variable {h w w2 : Nat} {T U A B : List (List Nat)}
theorem is_table_T (hT : Lit h w T) : m_is_table [.lst (T.map .str)] = .ret (.bl (decide (T.flatten.count 63 = 0))) .non := by
  have L := lc_filtL (vs := [1]) (h := tgN 1) (t := tst (op2 (oIn false) (ret K_FREE) (rd 1))) (el := rd 1) (τ := [.im (.lst (T.map .str)), .no]) (A := T) .str .str (fun r => decide (63 ∈ r)) (by rw [hT.t.1]; have := hT.hh; omega) fun r hr => by
    have e : oIn false (.str [63]) (.str r) = some (.bl (decide (63 ∈ r))) := rfl
    refine ⟨_, [.im (.lst (T.map .str)), .im (.str r)], rfl, ?_, fun _ => rfl, fun z => ⟨[.im (.lst (T.map .str)), .im (.str r)], rfl, rfl⟩⟩
    simp! only [e]
  have E := o_eqNil (A := T.filter fun r => decide (63 ∈ r)) fun r hr => tab_cps hT.t r (List.mem_filter.mp hr).1
  have eq : decide (T.filter (fun r => decide (63 ∈ r)) = []) = decide (T.flatten.count 63 = 0) := by
    refine decide_eq_decide.mpr ⟨fun z => List.count_eq_zero.mpr fun m => ?_, fun z => List.filter_eq_nil_iff.mpr fun r hr m => ?_⟩
    · obtain ⟨r, hr, m⟩ := List.mem_flatten.mp m
      exact List.filter_eq_nil_iff.mp z r hr (decide_eq_true m)
    · exact List.count_eq_zero.mp z (List.mem_flatten.mpr ⟨r, hr, of_decide_eq_true m⟩)
  rw [eq] at E
  generalize decide (T.flatten.count 63 = 0) = b at *
  simp! only [m_is_table, b_is_table, is_little_ok hT, L, E]
theorem flat_hw (hT : Lit h w T) : T.flatten.length = h * w := by
  have hl : ∀ {L : List (List Nat)}, (∀ r, r ∈ L → r.length = w) → L.flatten.length = L.length * w := fun {L} hL => by
    induction L with
    | nil => simp
    | cons r L ih =>
      rw [List.flatten_cons, List.length_append, ih fun r hr => hL r (List.mem_cons_of_mem _ hr), hL r List.mem_cons_self, List.length_cons, Nat.add_mul, Nat.one_mul, Nat.add_comm]
  rw [hl fun r hr => (hT.t.2 r hr).1, hT.t.1]
theorem Lit.rs (hT : Lit h w T) : ∀ r, r ∈ T → r.length = w ∧ ∀ c, c ∈ r → Sg c := fun r hr => ⟨(hT.t.2 r hr).1, fun c hc => hT.sg r hr c hc⟩
/-! ### the three others -/
theorem rev_lit (hT : Lit h w T) : Lit h w T.reverse := Lit.mk' hT.h0 hT.w0 hT.hh hT.hw (by rw [List.length_reverse]; exact hT.t.1) fun r hr => hT.rs r (List.mem_reverse.mp hr)
theorem turn_lit (hT : Lit h w T) : Lit h w (T.map List.reverse) := Lit.mk' hT.h0 hT.w0 hT.hh hT.hw (by rw [List.length_map]; exact hT.t.1) fun r hr => by
  obtain ⟨s, hs, rfl⟩ := List.mem_map.mp hr
  exact ⟨by rw [List.length_reverse]; exact (hT.rs s hs).1, fun c hc => (hT.rs s hs).2 c (List.mem_reverse.mp hc)⟩
theorem over_lit (hT : Lit h w T) : Lit h w (T.drop 1 ++ T.take 1) := Lit.mk' hT.h0 hT.w0 hT.hh hT.hw (by
    rw [List.length_append, List.length_drop, List.length_take]
    have := hT.t.1
    have := hT.h0
    omega) fun r hr => by
  rcases List.mem_append.mp hr with q | q
  · exact hT.rs r (List.mem_of_mem_drop q)
  · exact hT.rs r (List.mem_of_mem_take q)
theorem rev_count {c : Nat} : T.reverse.flatten.count c = T.flatten.count c := (List.Perm.flatten (List.reverse_perm T)).count_eq c
theorem turn_count {c : Nat} : (T.map List.reverse).flatten.count c = T.flatten.count c := by
  induction T with
  | nil => rfl
  | cons r T ih => rw [List.map_cons, List.flatten_cons, List.flatten_cons, List.count_append, List.count_append, ih, List.count_reverse]
theorem over_count {c : Nat} : (T.drop 1 ++ T.take 1).flatten.count c = T.flatten.count c := by
  rw [List.flatten_append, List.count_append, Nat.add_comm, ← List.count_append, ← List.flatten_append, List.take_append_drop]
theorem other_ok (hT : Lit h w T) (hU : Lit h w U) (e : ∀ c, U.flatten.count c = T.flatten.count c) {es : List (L2.Key × D)} (hC : Cnt T.flatten es) {s0 s1 s5 s6 s9 : Slot} :
    stp (tgN 4) b__law_alone_1 [s0, s1, .im (.dK es), .im (.int (T.flatten.count 63 : Nat)), .no, s5, s6, .im (.int h), .im (.int w), s9] (.lst (U.map .str)) = .nx [s0, s1, .im (.dK es), .im (.int (T.flatten.count 63 : Nat)), .no, s5, s6, .im (.int h), .im (.int w), s9] := by
  obtain ⟨fs, e1, hC2⟩ := counts_ok hU
  have e2 : oNeK (.dK fs) (.dK es) = some (.bl false) := if_pos (hC2.same hC e)
  have e3 := free_count hU
  rw [e 63] at e3
  have e4 : oNe (.int (T.flatten.count 63 : Nat)) (.int (T.flatten.count 63 : Nat)) = some (.bl false) := ne_self rfl
  have e5 := size_of_ok hU
  have e6 : oNe (.tup [.int h, .int w]) (.tup [.int h, .int w]) = some (.bl false) := ne_self rfl
  simp! only [b__law_alone_1, one_eq, ix0, ix1, ix2, tx0, tx1, tx2, o_intB, isi_lst, isi_tup, isi_bi, isi_bb, isi_ii, isi_ss, o_listL, o_iterS', o_enumL', o_enumS', e1, e2, e3, e4, e5, e6]
/-! ### each free cell another sign -/
def fill (z c : Nat) : Nat := if c = 63 then z else c
theorem repl_fill {z : Nat} : ∀ s : List Nat, PySem.StrLaws.replL [63] [z] s = s.map (fill z)
  | [] => PySem.StrLaws.replL_nil
  | c :: s => by
    by_cases q : c = 63
    · subst q
      rw [PySem.StrLaws.replL_hit (by decide) rfl, List.map_cons]
      show [z] ++ PySem.StrLaws.replL [63] [z] s = _
      rw [repl_fill s]
      rfl
    · rw [PySem.StrLaws.replL_miss (fun y => q (by
        have y : [c] = [63] := y
        injection y)), repl_fill s, List.map_cons]
      unfold fill
      rw [if_neg q]
theorem fill_lit {z : Nat} (hT : Lit h w T) (hz : Sg z) : Lit h w (T.map fun r => r.map (fill z)) := Lit.mk' hT.h0 hT.w0 hT.hh hT.hw (by rw [List.length_map]; exact hT.t.1) fun r hr => by
  obtain ⟨s, hs, rfl⟩ := List.mem_map.mp hr
  refine ⟨by rw [List.length_map]; exact (hT.rs s hs).1, fun c hc => ?_⟩
  obtain ⟨b, hb, rfl⟩ := List.mem_map.mp hc
  unfold fill
  split
  · exact hz
  · exact (hT.rs s hs).2 b hb
theorem fill_count {z c : Nat} (hz : z ≠ 63) : ∀ s : List Nat, (s.map (fill z)).count c = if c = 63 then 0 else s.count c + if c = z then s.count 63 else 0
  | [] => by simp
  | b :: s => by
    rw [List.map_cons, List.count_cons, List.count_cons, List.count_cons, fill_count hz s]
    unfold fill
    by_cases q : b = 63
    · subst q
      by_cases q2 : c = 63
      · subst q2
        simp [hz]
      · by_cases q3 : c = z
        · subst q3
          have q4 : ¬ 63 = c := fun y => q2 y.symm
          simp [q2, q4]
          omega
        · have q4 : ¬ 63 = c := fun y => q2 y.symm
          have q5 : ¬ z = c := fun y => q3 y.symm
          simp [q2, q3, q4, q5]
    · by_cases q2 : c = 63
      · subst q2
        simp [q]
      · by_cases q3 : c = z
        · subst q3
          simp [q, q2]
          omega
        · simp [q, q2, q3]
theorem flat_map {f : Nat → Nat} : (T.map fun r => r.map f).flatten = T.flatten.map f := by
  rw [List.map_flatten]
theorem fill_id {z : Nat} (e : T.flatten.count 63 = 0) : (T.map fun r => r.map (fill z)) = T := by
  have : ∀ r, r ∈ T → r.map (fill z) = r := fun r hr => by
    conv => rhs; rw [← List.map_id' r]
    refine List.map_congr_left fun c hc => ?_
    unfold fill
    rw [if_neg fun q => List.count_eq_zero.mp e (List.mem_flatten.mpr ⟨r, hr, by rw [← q]; exact hc⟩)]
  conv => rhs; rw [← List.map_id' T]
  exact List.map_congr_left this
theorem cnt_one {z n : Nat} (hz : z ≠ 63) (hn : n ≠ 0) : Cnt (List.replicate n z) [(kc z, .int (n : Nat))] := by
  refine ⟨fun c => ?_, fun k => ?_, List.pairwise_singleton _ _, by rw [List.length_replicate]; simp; omega⟩
  · unfold getD'
    by_cases q : c = z
    · subst q
      rw [if_pos ⟨hz, by simp [hn]⟩]
      simp
    · have q2 : ¬ kc z = kc c := fun y => q (kc_inj y).symm
      rw [if_neg fun y => q (List.eq_of_mem_replicate y.2)]
      simp [q2]
  · constructor
    · intro hk
      exact ⟨z, List.mem_singleton.mp hk, hz, by simp [hn]⟩
    · rintro ⟨c, rfl, _, hc⟩
      rw [List.eq_of_mem_replicate hc]
      exact List.mem_singleton.mpr rfl
theorem sign_K_ok {n : Nat} {d : D} (h : Pool n d) (hn : n < 2 ^ 59) : ∃ c d', m__law_sign_K [d, .int 0] = .ret (.str [c]) d' ∧ Sg c ∧ c ≠ 63 ∧ Pool (n + 1) d' := by
  have hl := T1_len
  have hsg : ∀ {c : Nat}, c ∈ T_1 → Sg c ∧ c ≠ 63 := fun {c} hc => ⟨T1_sg hc, by
    have := List.all_eq_true.mp (show (T_1.all fun c => decide (c ≠ 63)) = true from rfl) c hc
    exact of_decide_eq_true this⟩
  unfold m__law_sign_K b__law_sign_K
  generalize T_1 = ds at *
  obtain ⟨v, d', e, v0, v1, hP⟩ := take_ok (many := 92) h hn (by decide) (by decide)
  have e1 : oLen (.str ds) = some (.int 92) := by rw [o_lenS (by omega), hl]; rfl
  have e2 := sign_at (s := ds) (w := 92) (j := v) hl (by decide) v0 (by omega)
  have hm := hsg (getD_mem (s := ds) (j := v.toNat) (by omega))
  refine ⟨_, d', ?_, hm.1, hm.2, hP⟩
  simp! only [one_eq, ix0, ix1, ix2, tx0, tx1, tx2, o_intB, isi_lst, isi_tup, isi_bi, isi_bb, isi_ii, isi_ss, o_listL, o_iterS', o_enumL', o_enumS', oIxS_eq, e, e1, e2]
theorem e_iterZ {j : Nat} {τ : PS0} : iterZ j τ = (match τ[j]? with
  | some (.im (.lst ds)) => .ok ds τ
  | _ => .stuck) := rfl
theorem e_replV {i : Nat} {y : List Nat} {fa : M D} {τ : PS0} : replV i y fa τ = bM (fa τ) fun d τ => match τ[i]? with
  | some (.im (.str z)) => (match oReplV y z d with
    | some r => .ok r τ
    | none => .stuck)
  | _ => .stuck := by
  unfold replV andThen bM
  cases fa τ <;> rfl
theorem alone_ok {n : Nat} {d : D} (hP : Pool n d) (hn : n < 2 ^ 59) (hT : Lit h w T) (hh : h ≤ 1000) (hw : w ≤ 1000) : ∃ d', m__law_alone [d, .lst (T.map .str)] = .ret (.bl true) d' ∧ Pool (n + 1) d' := by
  obtain ⟨es, e1, hC⟩ := counts_ok hT
  have e2 := size_of_ok hT
  have e3 := free_count hT
  have e4 := sum_ok hC
  have e5 := is_little_ok hT
  have e6 := is_table_T hT
  obtain ⟨z, d', e7, hz, hz3, hP'⟩ := sign_K_ok hP hn
  refine ⟨d', ?_, hP'⟩
  have hl : T.length = h := hT.t.1
  have fl := flat_hw hT
  have f2 := flat_len' hT
  have le : T.flatten.count 63 ≤ T.flatten.length := List.count_le_length
  have ad : oAdd (.int (T.flatten.count 63 : Nat)) (.int ((T.flatten.length : Int) - (T.flatten.count 63 : Nat))) = some (.int ((h : Int) * (w : Int))) := by
    rw [o_addI]
    congr 2
    rw [fl, Int.natCast_mul]
    omega
  have mu : oMulA (.int h) (.int w) = some (.int ((h : Int) * (w : Int))) := o_mulP (by omega) (by omega) (by omega) (by omega)
  have n1 : oNe (.int ((h : Int) * (w : Int))) (.int ((h : Int) * (w : Int))) = some (.bl false) := ne_self rfl
  have n2 : ∀ b : Bool, oNe (.bl b) (.bl b) = some (.bl false) := fun b => ne_self rfl
  have q1 : oEq (.int (T.flatten.count 63 : Nat)) (.int 0) = some (.bl (decide (T.flatten.count 63 = 0))) := by
    rw [o_eqI]
    congr 2
    exact decide_eq_decide.mpr ⟨fun y => by omega, fun y => by omega⟩
  have rv : oRev (.lst (T.map D.str)) = some (.lst (T.reverse.map .str)) := by rw [o_revL, List.map_reverse]
  have rows : ∀ r, r ∈ T → oRev (.str r) = some (.str r.reverse) := fun r hr => o_revS (by rw [(hT.t.2 r hr).1]; omega)
  have m1 : (T.map fun r => D.str r.reverse) = (T.map List.reverse).map .str := by rw [List.map_map]; rfl
  have s1 : oSl (.lst (T.map D.str)) (some 1) none = some (.lst ((T.drop 1).map .str)) := by rw [List.map_drop]; exact l_F (n := 1)
  have s2 : oSl (.lst (T.map D.str)) none (some 1) = some (.lst ((T.take 1).map .str)) := by rw [List.map_take]; exact l_T (n := 1)
  have s3 : oAdd (.lst ((T.drop 1).map .str)) (.lst ((T.take 1).map .str)) = some (.lst ((T.drop 1 ++ T.take 1).map .str)) := by
    rw [o_addL (by rw [List.length_map, List.length_map, List.length_drop, List.length_take]; omega), List.map_append]
  have hF := fill_lit hT hz
  have fc : ∀ c, (T.map fun r => r.map (fill z)).flatten.count c = if c = 63 then 0 else T.flatten.count c + if c = z then T.flatten.count 63 else 0 := fun c => by
    rw [flat_map, fill_count hz3]
  have fid := fill_id (T := T) (z := z)
  have mf : (T.map fun r => D.str (r.map (fill z))) = (T.map fun r => r.map (fill z)).map .str := by rw [List.map_map]; rfl
  generalize hFF : (T.map fun r => r.map (fill z)) = F at *
  have g1 := is_table_T hF
  rw [show F.flatten.count 63 = 0 from (fc 63).trans (if_pos rfl)] at g1
  have g2 := free_count hF
  rw [show F.flatten.count 63 = 0 from (fc 63).trans (if_pos rfl)] at g2
  obtain ⟨fs, g3, hC2⟩ := counts_ok hF
  have n3 : oNe (.int ((0 : Nat) : Int)) (.int 0) = some (.bl false) := ne_self rfl
  have rp : ∀ r, r ∈ T → oReplV [63] [z] (.str r) = some (.str (r.map (fill z))) := fun r hr => by
    have := (hT.t.2 r hr).1
    show (if [63] ≠ [z] ∧ r.length + (r.length + 1) * 1 ≤ 16777216 then some (D.str (PySem.StrLaws.replL [63] [z] r)) else none) = _
    rw [if_pos ⟨fun y => hz3 (by injection y with y _; exact y.symm), by omega⟩, repl_fill]
  simp! only [m__law_alone, b__law_alone, one_eq, ix0, ix1, ix2, tx0, tx1, tx2, o_intB, isi_lst, isi_tup, isi_bi, isi_bb, isi_ii, isi_ss, o_listL, o_iterS', o_enumL', o_enumS', e_iterZ, e1, e2, e3, e4, e5, e6, e7, ad, mu, n1, n2, q1, rv, s1, s2, s3, g1, g2, g3, n3]
  rw [lc_mp (A := T) (fun r => .str r.reverse) (by omega) fun r hr => by simp! only [one_eq, ix0, ix1, ix2, tx0, tx1, tx2, o_intB, isi_lst, isi_tup, isi_bi, isi_bb, isi_ii, isi_ss, o_listL, o_iterS', o_enumL', o_enumS', rows r hr]]
  rw [m1]
  simp! only [one_eq, ix0, ix1, ix2, tx0, tx1, tx2, o_intB, isi_lst, isi_tup, isi_bi, isi_bb, isi_ii, isi_ss, o_listL, o_iterS', o_enumL', o_enumS', e_iterZ, e1, e2, e3, e4, e5, e6, e7, ad, mu, n1, n2, q1, rv, s1, s2, s3, g1, g2, g3, n3]
  rw [for_sameD fun x hx => ?_]
  · simp! only [one_eq, ix0, ix1, ix2, tx0, tx1, tx2, o_intB, isi_lst, isi_tup, isi_bi, isi_bb, isi_ii, isi_ss, o_listL, o_iterS', o_enumL', o_enumS', e_iterZ, e1, e2, e3, e4, e5, e6, e7, ad, mu, n1, n2, q1, rv, s1, s2, s3, g1, g2, g3, n3]
    rw [lc_mp (A := T) (fun r => .str (r.map (fill z))) (by omega) fun r hr => by
      simp! only [one_eq, ix0, ix1, ix2, tx0, tx1, tx2, o_intB, isi_lst, isi_tup, isi_bi, isi_bb, isi_ii, isi_ss, o_listL, o_iterS', o_enumL', o_enumS', e_replV, rp r hr]]
    rw [mf]
    simp! only [one_eq, ix0, ix1, ix2, tx0, tx1, tx2, o_intB, isi_lst, isi_tup, isi_bi, isi_bb, isi_ii, isi_ss, o_listL, o_iterS', o_enumL', o_enumS', e_iterZ, e1, e2, e3, e4, e5, e6, e7, ad, mu, n1, n2, q1, rv, s1, s2, s3, g1, g2, g3, n3]
    by_cases q : T.flatten.count 63 = 0
    · have id := fid q
      have E : oEq (.lst (F.map .str)) (.lst (T.map .str)) = some (.bl true) := by
        rw [id, o_eqL (tab_cps hT.t) (tab_cps hT.t), decide_eq_true rfl]
      simp! only [one_eq, ix0, ix1, ix2, tx0, tx1, tx2, o_intB, isi_lst, isi_tup, isi_bi, isi_bb, isi_ii, isi_ss, o_listL, o_iterS', o_enumL', o_enumS', e_iterZ, e1, e2, e3, e4, e5, e6, e7, ad, mu, n1, n2, q1, rv, s1, s2, s3, g1, g2, g3, n3, q, E]
    · obtain ⟨gs, g4, hC3⟩ := added_ok hC (cnt_one (z := z) hz3 q) (by rw [List.length_replicate]; omega)
      have E : oEqK (.dK fs) (.dK gs) = some (.bl true) := if_pos (hC2.same' hC3 fun c hc => by
        rw [fc c, if_neg hc, List.count_append, List.count_replicate]
        congr 1
        by_cases q2 : c = z
        · subst q2; simp
        · have q3 : ¬ z = c := fun y => q2 y.symm
          simp [q2, q3])
      have dd : oDisp [(.str [z], .int (T.flatten.count 63 : Nat))] = some (.dK [(kc z, .int (T.flatten.count 63 : Nat))]) := rfl
      simp! only [one_eq, ix0, ix1, ix2, tx0, tx1, tx2, o_intB, isi_lst, isi_tup, isi_bi, isi_bb, isi_ii, isi_ss, o_listL, o_iterS', o_enumL', o_enumS', e_iterZ, e1, e2, e3, e4, e5, e6, e7, ad, mu, n1, n2, q1, rv, s1, s2, s3, g1, g2, g3, n3, q, dd, g4, E]
  · simp only [List.mem_cons, List.not_mem_nil, or_false] at hx
    rcases hx with rfl | rfl | rfl
    · exact other_ok hT (rev_lit hT) (fun c => rev_count) hC
    · exact other_ok hT (turn_lit hT) (fun c => turn_count) hC
    · exact other_ok hT (over_lit hT) (fun c => over_count) hC
/-! ### parts together -/
theorem together_ok {h1 w1 h2 w2 h3 w3 : Nat} (hA : Lit h1 w1 A) (hB : Lit h2 w2 B) (hU : Lit h3 w3 U) (e : ∀ c, U.flatten.count c = A.flatten.count c + B.flatten.count c) :
    m__law_together [.lst [.lst (A.map .str), .lst (B.map .str)], .lst (U.map .str)] = .ret (.bl true) .non := by
  obtain ⟨as, a1, hCA⟩ := counts_ok hA
  obtain ⟨bs, b1, hCB⟩ := counts_ok hB
  obtain ⟨us, u1, hCU⟩ := counts_ok hU
  have a2 := free_count hA
  have b2 := free_count hB
  have u2 := free_count hU
  have lA := flat_len' hA
  have lB := flat_len' hB
  obtain ⟨x1, ex1, hx1⟩ := added_ok Cnt.nil hCA (by simp only [List.length_nil]; omega)
  obtain ⟨x2, ex2, hx2⟩ := added_ok hx1 hCB (by rw [List.nil_append]; omega)
  have E : oEqK (.dK us) (.dK x2) = some (.bl true) := if_pos (hCU.same hx2 fun c => by rw [List.nil_append, List.count_append, e c])
  have N : oEq (.int (U.flatten.count 63 : Nat)) (.int ((A.flatten.count 63 : Nat) + (B.flatten.count 63 : Nat))) = some (.bl true) := by
    rw [o_eqI]
    congr 2
    exact decide_eq_true (by rw [e 63]; omega)
  simp! only [m__law_together, b__law_together, b__law_together_1, one_eq, ix0, ix1, ix2, tx0, tx1, tx2, o_intB, isi_lst, isi_tup, isi_bi, isi_bb, isi_ii, isi_ss, o_listL, o_iterS', o_enumL', o_enumS', forL, Int.zero_add, a1, b1, u1, a2, b2, u2, ex1, ex2, E, N]
/-! ### side by side -/
def beside (A B : List (List Nat)) : List (List Nat) := (A.zip B).map fun p => p.1 ++ p.2
theorem zip_str : ∀ {A B : List (List Nat)}, zipD (A.map .str) (B.map .str) = (A.zip B).map fun p => .tup [.str p.1, .str p.2]
  | [], _ => by simp [zipD]
  | _ :: _, [] => by simp [zipD]
  | a :: A, b :: B => by
    show D.tup [.str a, .str b] :: zipD (A.map .str) (B.map .str) = _
    rw [zip_str]
    rfl
theorem beside_lit {w1 w2 : Nat} (hA : Lit h w1 A) (hB : Lit h w2 B) (hw : w1 + w2 ≤ 1000) : Lit h (w1 + w2) (beside A B) := by
  refine Lit.mk' hA.h0 (by have := hA.w0; omega) hA.hh hw (by
    unfold beside
    rw [List.length_map, List.length_zip, hA.t.1, hB.t.1, Nat.min_self]) fun r hr => ?_
  obtain ⟨p, hp, rfl⟩ := List.mem_map.mp hr
  obtain ⟨ha, hb⟩ := List.of_mem_zip (a := p.1) (b := p.2) hp
  obtain ⟨l1, c1⟩ := hA.rs _ ha
  obtain ⟨l2, c2⟩ := hB.rs _ hb
  refine ⟨by rw [List.length_append, l1, l2], fun c hc => ?_⟩
  rcases List.mem_append.mp hc with q | q
  · exact c1 c q
  · exact c2 c q
theorem beside_count {c : Nat} : ∀ {A B : List (List Nat)}, A.length = B.length → (beside A B).flatten.count c = A.flatten.count c + B.flatten.count c
  | [], [], _ => rfl
  | [], _ :: _, e => nomatch e
  | _ :: _, [], e => nomatch e
  | a :: A, b :: B, e => by
    have ih := beside_count (c := c) (A := A) (B := B) (Nat.succ.inj e)
    unfold beside at ih ⊢
    simp only [List.zip_cons_cons, List.map_cons, List.flatten_cons, List.count_append]
    rw [ih]
    omega
/-! ### in two parts -/
theorem take_lit {v : Nat} (hT : Lit h w T) (v0 : 0 < v) (v1 : v ≤ h) : Lit v w (T.take v) := Lit.mk' v0 hT.w0 (Nat.le_trans v1 hT.hh) hT.hw (by rw [List.length_take, hT.t.1, Nat.min_eq_left v1]) fun r hr => hT.rs r (List.mem_of_mem_take hr)
theorem drop_lit {v : Nat} (hT : Lit h w T) (v1 : v < h) : Lit (h - v) w (T.drop v) := Lit.mk' (by omega) hT.w0 (by have := hT.hh; omega) hT.hw (by rw [List.length_drop, hT.t.1]) fun r hr => hT.rs r (List.mem_of_mem_drop hr)
theorem cut_count {v c : Nat} : T.flatten.count c = (T.take v).flatten.count c + (T.drop v).flatten.count c := by
  rw [← List.count_append, ← List.flatten_append, List.take_append_drop]
/-- two tables beside one another -/
theorem two_ok {w1 w2 : Nat} (hA : Lit h w1 A) (hB : Lit h w2 B) (hw : w1 + w2 ≤ 1000) {X Y : List (List Nat)} {x1 x2 : Nat} (hX : Lit h x1 X) (hY : Lit h x2 Y) (ex : x1 + x2 = w1 + w2) (ec : ∀ c, A.flatten.count c + B.flatten.count c = X.flatten.count c + Y.flatten.count c) {s0 s1 s2 s6 : Slot} :
    stp (tgT 2 (tgCons (tgN 7) (tgCons (tgN 8) tgNil))) b_law_2 [s0, s1, s2, .im (.int h), .im (.lst (X.map .str)), .im (.lst (Y.map .str)), s6, .no, .no, .no, .no, .no] (.tup [.lst (A.map .str), .lst (B.map .str)]) = .nx [s0, s1, s2, .im (.int h), .im (.lst (X.map .str)), .im (.lst (Y.map .str)), s6, .no, .no, .no, .no, .no] := by
  have hz := hA.hh
  have lA : A.length = h := hA.t.1
  have lB : B.length = h := hB.t.1
  have Z : oZipA (.lst (A.map .str)) (.lst (B.map .str)) = some ((A.zip B).map fun p => .tup [.str p.1, .str p.2]) := congrArg some zip_str
  have hU := beside_lit hA hB hw
  have mb : ((A.zip B).map fun p => D.str (p.1 ++ p.2)) = (beside A B).map .str := by unfold beside; rw [List.map_map]; rfl
  have e1 := size_of_ok hU
  have rx : oIx (.lst (X.map .str)) (.int 0) = some (.str (X.getD 0 [])) := (row_at hX.t (i := 0) (by decide) (by have := hX.h0; omega)).1
  have ry : oIx (.lst (Y.map .str)) (.int 0) = some (.str (Y.getD 0 [])) := (row_at hY.t (i := 0) (by decide) (by have := hY.h0; omega)).1
  have lx : (X.getD 0 []).length = x1 := (row_at hX.t (i := 0) (by decide) (by have := hX.h0; omega)).2
  have ly : (Y.getD 0 []).length = x2 := (row_at hY.t (i := 0) (by decide) (by have := hY.h0; omega)).2
  have hx := hX.hw
  have hy := hY.hw
  have fx : oLen (.str (X.getD 0 [])) = some (.int x1) := by rw [o_lenS (by omega), lx]
  have fy : oLen (.str (Y.getD 0 [])) = some (.int x2) := by rw [o_lenS (by omega), ly]
  have n1 : oNe (.tup [.int h, .int (w1 + w2 : Nat)]) (.tup [.int h, .int ((x1 : Int) + (x2 : Int))]) = some (.bl false) := by
    rw [show (x1 : Int) + (x2 : Int) = ((w1 + w2 : Nat) : Int) by omega]
    exact ne_self rfl
  have t1 := together_ok hX hY hU fun c => by rw [beside_count (lA.trans lB.symm), ec c]
  simp! only [b_law_2, one_eq, ix0, ix1, ix2, tx0, tx1, tx2, o_intB, isi_lst, isi_tup, isi_bi, isi_bb, isi_ii, isi_ss, o_listL, o_iterS', o_enumL', o_enumS', Z]
  rw [lc_mp (A := A.zip B) (fun p => .str (p.1 ++ p.2)) (by rw [List.length_zip]; omega) fun p hp => by
    obtain ⟨ha, hb⟩ := List.of_mem_zip (a := p.1) (b := p.2) hp
    have l1 := (hA.rs _ ha).1
    have l2 := (hB.rs _ hb).1
    have ad : oAdd (.str p.1) (.str p.2) = some (.str (p.1 ++ p.2)) := o_addS (by omega)
    simp! only [one_eq, ix0, ix1, ix2, tx0, tx1, tx2, o_intB, isi_lst, isi_tup, isi_bi, isi_bb, isi_ii, isi_ss, o_listL, o_iterS', o_enumL', o_enumS', e_law_1, ad]]
  rw [mb]
  simp! only [one_eq, ix0, ix1, ix2, tx0, tx1, tx2, o_intB, isi_lst, isi_tup, isi_bi, isi_bb, isi_ii, isi_ss, o_listL, o_iterS', o_enumL', o_enumS', e1, rx, ry, fx, fy, n1, t1]
end
theorem free_of {v : Int} (v0 : 0 ≤ v) (v1 : v < 4) : ∃ free : Int, oIx (.lst [.int 0, .int 9, .int 3, .int 1]) (.int v) = some (.int free) ∧ 0 ≤ free ∧ free ≤ 1000 := by
  obtain ⟨k, rfl⟩ := Int.eq_ofNat_of_zero_le v0
  exact four (p := fun k => ∃ free : Int, oIx (.lst [.int 0, .int 9, .int 3, .int 1]) (.int (k : Nat)) = some (.int free) ∧ 0 ≤ free ∧ free ≤ 1000) ⟨0, rfl, by decide, by decide⟩ ⟨9, rfl, by decide, by decide⟩ ⟨3, rfl, by decide, by decide⟩ ⟨1, rfl, by decide, by decide⟩ (show k < 4 by omega)
theorem law_turn {k : Nat} {ns : List Int} (hk : k < 64) : stp (tgN 1) b_law_3 [.im (.fz (ns.map .int)), .no, .no, .no, .no, .no, .no, .no, .no, .no, .no, .no] (.int k) = .nx [.im (.fz (ns.map .int)), .no, .no, .no, .no, .no, .no, .no, .no, .no, .no, .no] := by
  obtain ⟨d, e1, hP⟩ := pool_ok (ns := ns) hk
  obtain ⟨a, d1, e2, a0, a1, hP⟩ := side_ok (most := 12) hP (by omega) (by decide) (by decide)
  obtain ⟨h, rfl⟩ := Int.eq_ofNat_of_zero_le (show 0 ≤ a by omega)
  obtain ⟨b, d2, e3, b0, b1, hP⟩ := side_ok (most := 6) hP (by omega) (by decide) (by decide)
  obtain ⟨w1, rfl⟩ := Int.eq_ofNat_of_zero_le (show 0 ≤ b by omega)
  obtain ⟨v, d3, e4, v0, v1, hP⟩ := take_ok (many := 4) hP (by omega) (by decide) (by decide)
  obtain ⟨f1, ef1, f10, f19⟩ := free_of v0 v1
  obtain ⟨A, d4, e5, hA, hP⟩ := table_ok (rows := h) (columns := w1) hP (by omega) (by omega) (by omega) (by omega) (by omega) f10 f19
  obtain ⟨b', d5, e6, b0', b1', hP⟩ := side_ok (most := 6) hP (by omega) (by decide) (by decide)
  obtain ⟨w2, rfl⟩ := Int.eq_ofNat_of_zero_le (show 0 ≤ b' by omega)
  obtain ⟨v', d6, e7, v0', v1', hP⟩ := take_ok (many := 4) hP (by omega) (by decide) (by decide)
  obtain ⟨f2, ef2, f20, f29⟩ := free_of v0' v1'
  obtain ⟨B, d7, e8, hB, hP⟩ := table_ok (rows := h) (columns := w2) hP (by omega) (by omega) (by omega) (by omega) (by omega) f20 f29
  obtain ⟨d8, e9, hP⟩ := alone_ok hP (by omega) hA (by omega) (by omega)
  obtain ⟨d9, e10, hP⟩ := alone_ok hP (by omega) hB (by omega) (by omega)
  obtain ⟨c, d10, e11, c0, c1, hP⟩ := take_ok (many := (h : Int)) hP (by omega) (by omega) (by omega)
  obtain ⟨v, rfl⟩ := Int.eq_ofNat_of_zero_le c0
  simp! only [b_law_3, one_eq, ix0, ix1, ix2, tx0, tx1, tx2, o_intB, isi_lst, isi_tup, isi_bi, isi_bb, isi_ii, isi_ss, o_listL, o_iterS', o_enumL', o_enumS', e1, e2, e3, e4, ef1, e5, e6, e7, ef2, e8, e9, e10, e11]
  rw [for_sameD fun x hx => ?_]
  · simp! only [one_eq, ix0, ix1, ix2, tx0, tx1, tx2, o_intB, isi_lst, isi_tup, isi_bi, isi_bb, isi_ii, isi_ss, o_listL, o_iterS', o_enumL', o_enumS', e1, e2, e3, e4, ef1, e5, e6, e7, ef2, e8, e9, e10, e11]
    by_cases q : v = 0
    · subst q
      have t0 : ¬ (0 : Int) < ((0 : Nat) : Int) := by decide
      simp! only [one_eq, ix0, ix1, ix2, tx0, tx1, tx2, o_intB, isi_lst, isi_tup, isi_bi, isi_bb, isi_ii, isi_ss, o_listL, o_iterS', o_enumL', o_enumS', e1, e2, e3, e4, ef1, e5, e6, e7, ef2, e8, e9, e10, e11, t0]
    · have t0 : (0 : Int) < (v : Int) := by omega
      have s1 : oSl (.lst (A.map D.str)) none (some (v : Int)) = some (.lst ((A.take v).map .str)) := by rw [List.map_take]; exact l_T
      have s2 : oSl (.lst (A.map D.str)) (some (v : Int)) none = some (.lst ((A.drop v).map .str)) := by rw [List.map_drop]; exact l_F
      have hX := take_lit hA (v := v) (by omega) (by omega)
      have hY := drop_lit hA (v := v) (by omega)
      have t1 := together_ok hX hY hA fun c => cut_count
      have g1 := size_of_ok hX
      have g2 := size_of_ok hY
      have i0 : ∀ a b : D, oIx (.tup [a, b]) (.int 0) = some a := fun _ _ => rfl
      have N : oNe (.int ((v : Int) + ((h - v : Nat) : Int))) (.int h) = some (.bl false) := by
        rw [o_neI]
        congr 2
        have : (v : Int) + ((h - v : Nat) : Int) = (h : Int) := by omega
        rw [decide_eq_true this]
        rfl
      simp! only [one_eq, ix0, ix1, ix2, tx0, tx1, tx2, o_intB, isi_lst, isi_tup, isi_bi, isi_bb, isi_ii, isi_ss, o_listL, o_iterS', o_enumL', o_enumS', e1, e2, e3, e4, ef1, e5, e6, e7, ef2, e8, e9, e10, e11, t0, s1, s2, t1, g1, g2, i0, N]
  · simp only [List.mem_cons, List.not_mem_nil, or_false] at hx
    rcases hx with rfl | rfl
    · exact two_ok hA hB (by omega) hA hB rfl fun c => rfl
    · exact two_ok hB hA (by omega) hA hB (by omega) fun c => by omega
theorem math : ∀ ns : List Int, ns.length ≤ 63 → m_law [.fz (ns.map .int)] = .ret (.bl true) .non := fun ns hl => by
  obtain ⟨n, en, hn⟩ : ∃ n : Nat, (if (if (ns.length : Int) < 8 then (ns.length : Int) else 8) > 1 then (if (ns.length : Int) < 8 then (ns.length : Int) else 8) else 1) = (n : Int) ∧ n < 64 := by
    refine ⟨(if (if (ns.length : Int) < 8 then (ns.length : Int) else 8) > 1 then (if (ns.length : Int) < 8 then (ns.length : Int) else 8) else 1).toNat, ?_, ?_⟩ <;> split <;> split <;> omega
  simp! only [m_law, b_law, List.length_map, en, o_range n (by omega)]
  rw [for_sameR fun i hi => by rw [zadd]; exact law_turn (by omega)]
  simp! only [one_eq, ix0, ix1, ix2, tx0, tx1, tx2, o_intB, isi_lst, isi_tup, isi_bi, isi_bb, isi_ii, isi_ss, o_listL, o_iterS', o_enumL', o_enumS']
end Q

end

open PySem PySem.W PyProof.Rows
set_option maxHeartbeats 0 in
theorem PySem.Challenge.cw_tablefind_k04_whole_counts_of_tables_holds : PySem.Challenge.rw_tablefind_k04_whole_counts_of_tables.Holds := by
  w_on; o_law; k_head; (case hw => w_witness2)
  k_fill
  refine L2.walk_of (l := PySem.Challenge.rw_tablefind_k04_whole_counts_of_tables) (n := 63) (k := 6) (x := "script") (CX := fun w => L2.CX (PySem.Challenge.rw_tablefind_k04_whole_counts_of_tables).prog w) (sp := fun w => PL.spLaw _) rfl (by decide) rfl ⟨rfl, by decide, by decide⟩ (fun w h Y => PySem.W.kIn_of Y) ?F (fun _ H a ns hl hO hS => ⟨a, ns, rfl, hS, hl, hO, fun _ => rfl⟩) (fun _ _ _ _ _ h => by obtain ⟨_, _, _, _, _, _, _, _, _, _, _, _, z⟩ := h; exact z)
  case F =>
    intro w mg fa h KX G hmg
    refine' Q.all_mk KX G hmg ?a0 ?l0 ?c0 ?k0 ?a1 ?l1 ?c1 ?k1 ?a2 ?l2 ?c2 ?k2 ?a3 ?l3 ?c3 ?k3 ?a4 ?l4 ?c4 ?k4 ?a5 ?l5 ?c5 ?k5 ?a6 ?l6 ?c6 ?k6 ?a7 ?l7 ?c7 ?k7 ?a8 ?l8 ?c8 ?k8 ?a9 ?l9 ?c9 ?k9 ?a10 ?l10 ?c10 ?k10 ?a11 ?l11 ?c11 ?k11 ?a12 ?l12 ?c12 ?k12 ?a13 ?l13 ?c13 ?k13 ?a14 ?l14 ?c14 ?k14 ?a15 ?l15 ?c15 ?k15 ?a16 ?l16 ?c16 ?k16 ?z0 ?z1 ?z2 ?z3 ?z4 ?z5 ?z6 ?z7 ?z8 ?z9 ?z10 ?gk0 ?gk1 ?hm
    (case a0 => k_is)
    (case l0 => k_is)
    (case c0 => k_is)
    (case k0 => k_is)
    (case a1 => k_is)
    (case l1 => k_is)
    (case c1 => k_is)
    (case k1 => k_is)
    (case a2 => k_is)
    (case l2 => k_is)
    (case c2 => k_is)
    (case k2 => k_is)
    (case a3 => k_is)
    (case l3 => k_is)
    (case c3 => k_is)
    (case k3 => k_is)
    (case a4 => k_is)
    (case l4 => k_is)
    (case c4 => k_is)
    (case k4 => k_is)
    (case a5 => k_is)
    (case l5 => k_is)
    (case c5 => k_is)
    (case k5 => k_is)
    (case a6 => k_is)
    (case l6 => k_is)
    (case c6 => k_is)
    (case k6 => k_is)
    (case a7 => k_is)
    (case l7 => k_is)
    (case c7 => k_is)
    (case k7 => k_is)
    (case a8 => k_is)
    (case l8 => k_is)
    (case c8 => k_is)
    (case k8 => k_is)
    (case a9 => k_is)
    (case l9 => k_is)
    (case c9 => k_is)
    (case k9 => k_is)
    (case a10 => k_is)
    (case l10 => k_is)
    (case c10 => k_is)
    (case k10 => k_is)
    (case a11 => k_is)
    (case l11 => k_is)
    (case c11 => k_is)
    (case k11 => k_is)
    (case a12 => k_is)
    (case l12 => k_is)
    (case c12 => k_is)
    (case k12 => k_is)
    (case a13 => k_is)
    (case l13 => k_is)
    (case c13 => k_is)
    (case k13 => k_is)
    (case a14 => k_is)
    (case l14 => k_is)
    (case c14 => k_is)
    (case k14 => k_is)
    (case a15 => k_is)
    (case l15 => k_is)
    (case c15 => k_is)
    (case k15 => k_is)
    (case a16 => k_is)
    (case l16 => k_is)
    (case c16 => k_is)
    (case k16 => k_is)
    (case z0 => k_is)
    (case z1 => k_is)
    (case z2 => k_is)
    (case z3 => k_is)
    (case z4 => k_is)
    (case z5 => k_is)
    (case z6 => k_is)
    (case z7 => k_is)
    (case z8 => k_is)
    (case z9 => k_is)
    (case z10 => k_is)
    (case gk0 => k_is)
    (case gk1 => k_is)
    (case hm => exact Q.math)

