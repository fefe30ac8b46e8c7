import PyProof.Rows.All
import Wide.All
import OpenK.AllK
import Wide.FinOn
import HandS.ForMost
import HandS.ForExc
import HandS.Evl
import HandS.IsInst
import HandS.More
import HandS.Deep
import HandS.TupSets
import HandS.DictComp
import HandS.TupAny
import HandS.SortInts
import HandS.SetFor
import HandS.Wide
import HandS.EndBits
import HandS.Conv
import HandS.Head0
import HandS.Head1
import HandS.Head2
import HandS.HeadEnd
import HandS.HeadHook1
import HandS.HeadHook2
import HandS.Defaults
import PyProof.ReprRoads
import PySem.Challenge.RW_duepairs_k02_behind_and_room
set_option Elab.async false
set_option linter.all false
set_option maxRecDepth 100000
set_option maxHeartbeats 4000000
/-! Data seen through the heap: frozen parts, owned lists, a Hoare logic over data. -/
namespace Dd
open PySem PySem.Spec PyProof.Rows L2
open Evl (Ex)

/-! ### heaps -/
variable {K : PySem.W.Frag}
theorem ex_free {F H : Hp} (e : Ex F H) {p : Addr} (h : H p = none) : F p = none := Evl.fresh_back e h
mutual
/-- a value of the heap F read as data: lists and tuples that stand in F by themselves -/
inductive Dq (F : Hp) : V → PyData → Prop
  | non : Dq F .non .none
  | bl (b : Bool) : Dq F (.bl b) (.bool b)
  | int (i : Int) : Dq F (.int i) (.int i)
  | str (x : Str) : Dq F (.str x) (.str x)
  | lst {a : Addr} {xs : List V} {ds : List PyData} : F a = some (.lst xs) → DqAll F xs ds → Dq F (.ref a) (.list ds)
  | tup {a : Addr} {xs : List V} {ds : List PyData} : F a = some (.tup xs) → DqAll F xs ds → Dq F (.ref a) (.tuple ds)
inductive DqAll (F : Hp) : List V → List PyData → Prop
  | nil : DqAll F [] []
  | cons {v : V} {vs : List V} {d : PyData} {ds : List PyData} : Dq F v d → DqAll F vs ds → DqAll F (v :: vs) (d :: ds)
end
mutual
theorem Dq.p {F : Hp} : ∀ (d : PyData) (v : V), Dq F v d → L2.Dp K F v d
  | .none, _, h => by cases h; exact .non
  | .bool b, _, h => by cases h; exact .bl b
  | .int i, _, h => by cases h; exact .int i
  | .str x, _, h => by cases h; exact .str x
  | .list ds, _, h => by
    cases h with
    | lst hs ha => exact .lst (.inl (.inl hs)) (DqAll.p ds _ ha)
  | .tuple ds, _, h => by
    cases h with
    | tup hs ha => exact .tup (.inl (.inl hs)) (DqAll.p ds _ ha)
  | .dict _, _, h => by cases h
theorem DqAll.p {F : Hp} : ∀ (ds : List PyData) (vs : List V), DqAll F vs ds → L2.DpAll K F vs ds
  | [], _, h => by cases h; exact .nil
  | d :: ds, _, h => by
    cases h with
    | cons h1 h2 => exact .cons (Dq.p d _ h1) (DqAll.p ds _ h2)
end
mutual
theorem dpm {F G : Hp} (e : Ex F G) : ∀ (d : PyData) (v : V), Dq F v d → Dq G v d
  | .none, _, h => by cases h; exact .non
  | .bool b, _, h => by cases h; exact .bl b
  | .int i, _, h => by cases h; exact .int i
  | .str x, _, h => by cases h; exact .str x
  | .list ds, _, h => by
    cases h with
    | lst hs ha => exact .lst (e _ _ hs) (dpm_all e ds _ ha)
  | .tuple ds, _, h => by
    cases h with
    | tup hs ha => exact .tup (e _ _ hs) (dpm_all e ds _ ha)
  | .dict _, _, h => by cases h
theorem dpm_all {F G : Hp} (e : Ex F G) : ∀ (ds : List PyData) (vs : List V), DqAll F vs ds → DqAll G vs ds
  | [], _, h => by cases h; exact .nil
  | d :: ds, _, h => by
    cases h with
    | cons h1 h2 => exact .cons (dpm e d _ h1) (dpm_all e ds _ h2)
end
theorem Dq.up {F G : Hp} {v : V} {d : PyData} (h : Dq F v d) (e : Ex F G) : Dq G v d := dpm e d v h
theorem DqAll.up {F G : Hp} {vs : List V} {ds : List PyData} (h : DqAll F vs ds) (e : Ex F G) : DqAll G vs ds := dpm_all e ds vs h
theorem dp_non {F : Hp} {v : V} (h : Dq F v .none) : v = .non := by cases h; rfl
theorem dp_bl {F : Hp} {v : V} {b : Bool} (h : Dq F v (.bool b)) : v = .bl b := by cases h; rfl
theorem dp_int {F : Hp} {v : V} {i : Int} (h : Dq F v (.int i)) : v = .int i := by cases h; rfl
theorem dp_str {F : Hp} {v : V} {x : Str} (h : Dq F v (.str x)) : v = .str x := by cases h; rfl
theorem dp_lst {F : Hp} {v : V} {ds : List PyData} (h : Dq F v (.list ds)) : ∃ a xs, v = .ref a ∧ F a = some (.lst xs) ∧ DqAll F xs ds := by
  cases h with
  | lst hs ha => exact ⟨_, _, rfl, hs, ha⟩
theorem dp_tup {F : Hp} {v : V} {ds : List PyData} (h : Dq F v (.tuple ds)) : ∃ a xs, v = .ref a ∧ F a = some (.tup xs) ∧ DqAll F xs ds := by
  cases h with
  | tup hs ha => exact ⟨_, _, rfl, hs, ha⟩
theorem dpa_len {F : Hp} : ∀ {vs : List V} {ds : List PyData}, DqAll F vs ds → vs.length = ds.length
  | _, [], h => by cases h; rfl
  | _, d :: ds, h => by
    cases h with
    | cons h1 h2 => exact congrArg (· + 1) (dpa_len h2)
theorem dpa_get {F : Hp} : ∀ {vs : List V} {ds : List PyData} {i : Nat} {d : PyData}, DqAll F vs ds → ds[i]? = some d → ∃ v, vs[i]? = some v ∧ Dq F v d
  | _, [], _, _, h, e => by simp at e
  | _, d :: ds, 0, _, h, e => by
    cases h with
    | cons h1 h2 => simp at e; subst e; exact ⟨_, rfl, h1⟩
  | _, d :: ds, i + 1, x, h, e => by
    cases h with
    | cons h1 h2 =>
      obtain ⟨v, q1, q2⟩ := dpa_get (i := i) (d := x) h2 (by simpa using e)
      exact ⟨v, by simpa using q1, q2⟩
theorem dpa_get2 {F : Hp} {vs : List V} {ds : List PyData} {i : Nat} {v : V} (h : DqAll F vs ds) (e : vs[i]? = some v) : ∃ d, ds[i]? = some d ∧ Dq F v d := by
  have hl := dpa_len h
  have hi : i < ds.length := by
    have := (List.getElem?_eq_some_iff.mp e).1
    omega
  obtain ⟨w, e2, h2⟩ := dpa_get h (List.getElem?_eq_getElem hi)
  rw [e] at e2
  cases e2
  exact ⟨_, List.getElem?_eq_getElem hi, h2⟩
theorem dpa_app {F : Hp} : ∀ {vs ws : List V} {ds es : List PyData}, DqAll F vs ds → DqAll F ws es → DqAll F (vs ++ ws) (ds ++ es)
  | _, _, [], _, h, g => by cases h; exact g
  | _, _, d :: ds, _, h, g => by
    cases h with
    | cons h1 h2 => exact .cons h1 (dpa_app h2 g)
theorem dpa_set {F : Hp} {v : V} {d : PyData} (q : Dq F v d) : ∀ {vs : List V} {ds : List PyData} (i : Nat), DqAll F vs ds → DqAll F (vs.set i v) (ds.set i d)
  | _, [], _, h => by cases h; exact .nil
  | _, _ :: ds, 0, h => by
    cases h with
    | cons h1 h2 => exact .cons q h2
  | _, _ :: ds, i + 1, h => by
    cases h with
    | cons h1 h2 => exact .cons h1 (dpa_set q i h2)
theorem dpa_take {F : Hp} : ∀ {vs : List V} {ds : List PyData} (n : Nat), DqAll F vs ds → DqAll F (vs.take n) (ds.take n)
  | _, _, 0, _ => .nil
  | _, [], n + 1, h => by cases h; exact .nil
  | _, _ :: ds, n + 1, h => by
    cases h with
    | cons h1 h2 => exact .cons h1 (dpa_take n h2)
theorem dpa_drop {F : Hp} : ∀ {vs : List V} {ds : List PyData} (n : Nat), DqAll F vs ds → DqAll F (vs.drop n) (ds.drop n)
  | _, _, 0, h => h
  | _, [], n + 1, h => by cases h; exact .nil
  | _, _ :: ds, n + 1, h => by
    cases h with
    | cons h1 h2 => exact dpa_drop n h2
theorem dpa_ints {F : Hp} : ∀ (ns : List Int), DqAll F (ns.map V.int) (ns.map PyData.int)
  | [] => .nil
  | n :: ns => .cons (.int n) (dpa_ints ns)
theorem dpa_ints' {F : Hp} : ∀ {vs : List V} {ns : List Int}, DqAll F vs (ns.map PyData.int) → vs = ns.map V.int
  | _, [], h => by cases h; rfl
  | _, n :: ns, h => by
    cases h with
    | cons h1 h2 => cases h1; exact congrArg (V.int n :: ·) (dpa_ints' h2)
theorem dpa_at {F : Hp} {vs : List V} {ds : List PyData} {i : Int} {d : PyData} (h : DqAll F vs ds) (e : atI ds i = some d) : ∃ v, atI vs i = some v ∧ Dq F v d := by
  unfold atI at e ⊢
  rw [dpa_len h]
  cases q : ixN ds.length i with
  | none => rw [q] at e; cases e
  | some j =>
    rw [q] at e
    exact dpa_get h e

/-- one step of the world: H grows to H2 but at M, the frozen part F grows to F2 -/
structure NxM (M : Addr → Prop) (F H F2 H2 : Hp) : Prop where
  h : ∀ a o, ¬ M a → H a = some o → H2 a = some o
  f : Ex F F2
  k : Ex F2 H2
  ap : ∀ a, F a = none → H a ≠ none → F2 a = none
  th : ∀ a, H a ≠ none → H2 a ≠ none
def M0 : Addr → Prop := fun _ => False
abbrev Nx := NxM M0
theorem ne_some {H : Hp} {a : Addr} {o : HO} (h : H a = some o) : H a ≠ none := by rw [h]; simp
theorem some_ne {H : Hp} {a : Addr} (h : H a ≠ none) : ∃ o, H a = some o := by
  cases q : H a with
  | none => exact absurd q h
  | some o => exact ⟨o, rfl⟩
theorem NxM.refl {M : Addr → Prop} {F H : Hp} (k : Ex F H) : NxM M F H F H := ⟨fun _ _ _ h => h, Ex.refl F, k, fun _ h _ => h, fun _ h => h⟩
theorem NxM.trans {M : Addr → Prop} {F H F1 H1 F2 H2 : Hp} (a : NxM M F H F1 H1) (b : NxM M F1 H1 F2 H2) : NxM M F H F2 H2 :=
  ⟨fun x o n h => b.h x o n (a.h x o n h), a.f.trans b.f, b.k, fun x h1 h2 => b.ap x (a.ap x h1 h2) (a.th x h2), fun x h => b.th x (a.th x h)⟩
theorem Nx.h0 {F H F2 H2 : Hp} (n : Nx F H F2 H2) : Ex H H2 := fun a o e => n.h a o (fun z => z) e
theorem Nx.toM {M : Addr → Prop} {F H F2 H2 : Hp} (n : Nx F H F2 H2) : NxM M F H F2 H2 := ⟨fun a o _ e => n.h a o (fun z => z) e, n.f, n.k, n.ap, n.th⟩
theorem NxM.to {M M' : Addr → Prop} {F H F2 H2 : Hp} (n : NxM M F H F2 H2) (s : ∀ a, M a → M' a) : NxM M' F H F2 H2 := ⟨fun a o q e => n.h a o (fun z => q (s a z)) e, n.f, n.k, n.ap, n.th⟩
def cup (A B : Hp) : Hp := fun a => match A a with | some o => some o | none => B a
theorem cup_l {A B : Hp} {a : Addr} {o : HO} (h : A a = some o) : cup A B a = some o := by unfold cup; rw [h]
theorem cup_r {A B : Hp} {a : Addr} (h : A a = none) : cup A B a = B a := by unfold cup; rw [h]
theorem NxM.up {M : Addr → Prop} {F G H F2 H2 : Hp} (e : Ex F G) (kG : Ex G H) (hM : ∀ a, M a → G a = none) (n : NxM M F H F2 H2) : NxM M G H (cup G F2) H2 ∧ Ex F2 (cup G F2) := by
  have gh : Ex G H2 := fun a o q => n.h a o (fun z => by rw [hM a z] at q; cases q) (kG a o q)
  refine ⟨⟨n.h, fun a o q => cup_l q, fun a o q => ?_, fun a h1 h2 => ?_, n.th⟩, fun a o q => ?_⟩
  · cases c : G a with
    | some u => rw [cup_l c] at q; cases q; exact gh a _ c
    | none => rw [cup_r c] at q; exact n.k a o q
  · rw [cup_r h1]
    exact n.ap a (ex_free e h1) h2
  · cases c : G a with
    | some u =>
      have h1 := gh a u c
      rw [n.k a o q] at h1
      cases h1
      exact cup_l c
    | none => rw [cup_r c]; exact q
/-- a new object, frozen at once -/
theorem Nx.new {F H : Hp} {p : Addr} {o : HO} (k : Ex F H) (h : H p = none) : Nx F H (upd F p o) (upd H p o) := by
  have hF := ex_free k h
  refine ⟨fun a u _ e => ?_, Evl.Ex.new hF, fun a u e => ?_, fun a h1 h2 => ?_, fun a h2 => ?_⟩
  · rw [upd_ne (ne_of_none e h)]; exact e
  · by_cases c : a = p
    · subst c; rw [upd_same] at e ⊢; exact e
    · rw [upd_ne c] at e ⊢; exact k a u e
  · have c : a ≠ p := fun z => by subst z; exact h2 h
    rw [upd_ne c]; exact h1
  · have c : a ≠ p := fun z => by subst z; exact h2 h
    rw [upd_ne c]; exact h2
/-- a new object that may be changed later -/
theorem Nx.mut {F H : Hp} {p : Addr} {o : HO} (k : Ex F H) (h : H p = none) : Nx F H F (upd H p o) := by
  have hF := ex_free k h
  refine ⟨fun a u _ e => ?_, Ex.refl F, fun a u e => ?_, fun a h1 _ => h1, fun a h2 => ?_⟩
  · rw [upd_ne (ne_of_none e h)]; exact e
  · rw [upd_ne (ne_of_none e hF)]; exact k a u e
  · have c : a ≠ p := fun z => by subst z; exact h2 h
    rw [upd_ne c]; exact h2
/-- a change at an address that is not frozen -/
theorem NxM.wr {M : Addr → Prop} {F H : Hp} {p : Addr} {o : HO} (k : Ex F H) (hm : M p) (h : F p = none) : NxM M F H F (upd H p o) := by
  refine ⟨fun a u hn e => ?_, Ex.refl F, fun a u e => ?_, fun a h1 _ => h1, fun a h2 => ?_⟩
  · have c : a ≠ p := fun z => by subst z; exact hn hm
    rw [upd_ne c]; exact e
  · rw [upd_ne (ne_of_none e h)]; exact k a u e
  · by_cases c : a = p
    · subst c; rw [upd_same]; simp
    · rw [upd_ne c]; exact h2
/-- an object that stands is frozen from here on -/
theorem Nx.frz {F H : Hp} {p : Addr} {o : HO} (k : Ex F H) (h : H p = some o) (hF : F p = none) : Ex F (upd F p o) ∧ Ex (upd F p o) H := by
  refine ⟨Evl.Ex.new hF, fun a u e => ?_⟩
  by_cases c : a = p
  · subst c; rw [upd_same] at e; cases e; exact h
  · rw [upd_ne c] at e; exact k a u e

/-! ### what the slots hold -/
inductive Ent where
  | un
  | dat (d : PyData)
  | own (a : Addr) (ds : List PyData)
  | val (v : V)
  | dic (a : Addr) (kvs : List (Key × V))
  | pil (a : Addr)
/-- where an entry's own object stands -/
def adr : Ent → Option Addr
  | .own a _ => some a
  | .dic a _ => some a
  | .pil a => some a
  | _ => none
structure Fx where
  K : PySem.W.Frag
  M : Addr → Prop
  F0 : Hp
  H0 : Hp
def EntOk (C : Fx) (F H : Hp) (s : Option (Option V)) : Ent → Prop
  | .un => True
  | .dat d => ∃ v, s = some (some v) ∧ Dq F v d
  | .own a ds => s = some (some (.ref a)) ∧ F a = none ∧ (C.M a ∨ C.H0 a = none) ∧ ∃ xs, H a = some (.lst xs) ∧ DqAll F xs ds
  | .val v => s = some (some v)
  | .dic a kvs => s = some (some (.ref a)) ∧ F a = none ∧ (C.M a ∨ C.H0 a = none) ∧ H a = some (.dK kvs)
  | .pil a => s = some (some (.ref a)) ∧ F a = none ∧ (C.M a ∨ C.H0 a = none) ∧ ∃ n, 0 ≤ n ∧ H a = some (.lst [.int n])
abbrev En := List Ent
structure Env (C : Fx) (F H : Hp) (s : L2.St) (e : En) : Prop where
  len : s.length = e.length
  ent : ∀ (i : Nat) x, e[i]? = some x → EntOk C F H s[i]? x
  apart : ∀ (i j : Nat) x y a, i ≠ j → e[i]? = some x → e[j]? = some y → adr x = some a → adr y ≠ some a
/-- where one stands in a def: since the entry the world has gone on by NxM, the slots hold e -/
def At (C : Fx) (B : Hp) (e : En) (s : L2.St) (H : Hp) : Prop := ∃ F, NxM C.M C.F0 C.H0 F H ∧ Ex B F ∧ Env C F H s e
theorem EntOk.nx {C : Fx} {F H F2 H2 : Hp} {s : Option (Option V)} {x : Ent} (h : EntOk C F H s x) (n : Nx F H F2 H2) : EntOk C F2 H2 s x := by
  cases x with
  | un => trivial
  | dat d => obtain ⟨v, h1, h2⟩ := h; exact ⟨v, h1, Dq.up h2 n.f⟩
  | own a ds => obtain ⟨h1, h2, h3, xs, h4, h5⟩ := h; exact ⟨h1, n.ap a h2 (ne_some h4), h3, xs, Nx.h0 n a _ h4, DqAll.up h5 n.f⟩
  | val v => exact h
  | dic a kvs => obtain ⟨h1, h2, h3, h4⟩ := h; exact ⟨h1, n.ap a h2 (ne_some h4), h3, Nx.h0 n a _ h4⟩
  | pil a => obtain ⟨h1, h2, h3, m, h4, h5⟩ := h; exact ⟨h1, n.ap a h2 (ne_some h5), h3, m, h4, Nx.h0 n a _ h5⟩
/-- another step: what stands at the entry's own address is kept -/
theorem EntOk.nxm {M : Addr → Prop} {C : Fx} {F H F2 H2 : Hp} {s : Option (Option V)} {x : Ent} (h : EntOk C F H s x) (n : NxM M F H F2 H2) (hm : ∀ a, adr x = some a → ¬ M a) : EntOk C F2 H2 s x := by
  cases x with
  | un => trivial
  | dat d => obtain ⟨v, h1, h2⟩ := h; exact ⟨v, h1, Dq.up h2 n.f⟩
  | own a ds => obtain ⟨h1, h2, h3, xs, h4, h5⟩ := h; exact ⟨h1, n.ap a h2 (ne_some h4), h3, xs, n.h a _ (hm a rfl) h4, DqAll.up h5 n.f⟩
  | val v => exact h
  | dic a kvs => obtain ⟨h1, h2, h3, h4⟩ := h; exact ⟨h1, n.ap a h2 (ne_some h4), h3, n.h a _ (hm a rfl) h4⟩
  | pil a => obtain ⟨h1, h2, h3, m, h4, h5⟩ := h; exact ⟨h1, n.ap a h2 (ne_some h5), h3, m, h4, n.h a _ (hm a rfl) h5⟩
theorem EntOk.adr {C : Fx} {F H : Hp} {s : Option (Option V)} {x : Ent} {a : Addr} (h : EntOk C F H s x) (q : adr x = some a) : F a = none ∧ (C.M a ∨ C.H0 a = none) ∧ H a ≠ none := by
  cases x with
  | un => cases q
  | dat d => cases q
  | val v => cases q
  | own b ds => cases q; obtain ⟨_, h2, h3, xs, h4, _⟩ := h; exact ⟨h2, h3, ne_some h4⟩
  | dic b ds => cases q; obtain ⟨_, h2, h3, h4⟩ := h; exact ⟨h2, h3, ne_some h4⟩
  | pil b => cases q; obtain ⟨_, h2, h3, m, _, h4⟩ := h; exact ⟨h2, h3, ne_some h4⟩
theorem Env.nx {C : Fx} {F H F2 H2 : Hp} {s : L2.St} {e : En} (h : Env C F H s e) (n : Nx F H F2 H2) : Env C F2 H2 s e := ⟨h.len, fun i x q => (h.ent i x q).nx n, h.apart⟩
theorem Env.ex {C : Fx} {F H : Hp} {s : L2.St} {e : En} {i : Nat} {d : PyData} (h : Env C F H s e) (q : e[i]? = some (.dat d)) : ∃ v, s[i]? = some (some v) ∧ Dq F v d := h.ent i _ q

/-! ### expressions: a value of frozen data, a value that is read now, a new list of one's own -/
def EvD (C : Fx) (t : TE) (e : En) (d : PyData) : Prop := ∀ s F H, Ex F H → Env C F H s e → ∀ Q : VK, (∀ v F2 H2, Nx F H F2 H2 → Dq F2 v d → Q v H2) → t s H Q
def EvB (C : Fx) (t : TE) (e : En) (d : PyData) : Prop := ∀ s F H, Ex F H → Env C F H s e → ∀ Q : VK, (∀ v F2 H2, Nx F H F2 H2 → Dq H2 v d → Q v H2) → t s H Q
def EvN (C : Fx) (t : TE) (e : En) (ds : List PyData) : Prop := ∀ s F H, Ex F H → Env C F H s e → ∀ Q : VK, (∀ p xs F2 H2, Nx F H F2 H2 → H p = none → F2 p = none → H2 p = some (.lst xs) → DqAll F2 xs ds → Q (.ref p) H2) → t s H Q
def EvT (C : Fx) (t : TT) (e : En) (b : Bool) : Prop := ∀ s F H, Ex F H → Env C F H s e → ∀ Q : Bool → Hp → Prop, (∀ F2 H2, Nx F H F2 H2 → Q b H2) → t s H Q
def EvA (C : Fx) (t : TA) (e : En) (ds : List PyData) : Prop := ∀ s F H, Ex F H → Env C F H s e → ∀ Q : List V → Hp → Prop, (∀ vs F2 H2, Nx F H F2 H2 → DqAll F2 vs ds → Q vs H2) → t s H Q
def EvAB (C : Fx) (t : TA) (e : En) (ds : List PyData) : Prop := ∀ s F H, Ex F H → Env C F H s e → ∀ Q : List V → Hp → Prop, (∀ vs F2 H2, Nx F H F2 H2 → DqAll H2 vs ds → Q vs H2) → t s H Q
section
variable {C : Fx} {e : En} {ta tb te : TE} {t u : TT} {x y z d : PyData} {r : R2}
theorem EvD.b (h : EvD C te e d) : EvB C te e d := fun s F H k E Q q => h s F H k E Q fun v F2 H2 n h2 => q v F2 H2 n (Dq.up h2 n.k)
theorem EvN.dat {ds : List PyData} (h : EvN C te e ds) : EvD C te e (.list ds) := fun s F H k E Q q => h s F H k E Q fun p xs F2 H2 n h1 h2 h3 h4 => by
  obtain ⟨a, b⟩ := Nx.frz n.k h3 h2
  refine q (.ref p) (upd F2 p (.lst xs)) H2 ⟨n.h, n.f.trans a, b, fun c h5 h6 => ?_, n.th⟩ (.lst upd_same (DqAll.up h4 a))
  have hc : c ≠ p := fun z => by subst z; exact h6 h1
  rw [upd_ne hc]
  exact n.ap c h5 h6
theorem EvA.b {t : TA} {ds : List PyData} (h : EvA C t e ds) : EvAB C t e ds := fun s F H k E Q q => h s F H k E Q fun v F2 H2 n h2 => q v F2 H2 n (DqAll.up h2 n.k)
theorem ev_var {i : Nat} (h : e[i]? = some (.dat d)) : EvD C (tVar i) e d := fun s F H k E Q q => by
  obtain ⟨v, h1, h2⟩ := E.ex h
  exact ⟨v, h1, q v F H (NxM.refl k) h2⟩
/-- an owned list, read -/
theorem eb_own {i : Nat} {a : Addr} {ds : List PyData} (h : e[i]? = some (.own a ds)) : EvB C (tVar i) e (.list ds) := fun s F H k E Q q => by
  obtain ⟨h1, _, _, xs, h2, h3⟩ := E.ent i _ h
  exact ⟨_, h1, q _ F H (NxM.refl k) (.lst h2 (DqAll.up h3 k))⟩
theorem ev_int {i : Int} : EvD C (tC (.int i)) e (.int i) := fun s F H k E Q q => q _ F H (NxM.refl k) (.int i)
theorem ev_bl {b : Bool} : EvD C (tC (.bl b)) e (.bool b) := fun s F H k E Q q => q _ F H (NxM.refl k) (.bl b)
theorem ev_str {x : Str} : EvD C (tC (.str x)) e (.str x) := fun s F H k E Q q => q _ F H (NxM.refl k) (.str x)
theorem ev_non : EvD C (tC .non) e .none := fun s F H k E Q q => q _ F H (NxM.refl k) .non
theorem EvD.is (h : EvD C te e d) (q : d = x) : EvD C te e x := q ▸ h
theorem EvB.is (h : EvB C te e d) (q : d = x) : EvB C te e x := q ▸ h
theorem EvT.is {a b : Bool} (h : EvT C t e a) (q : a = b) : EvT C t e b := q ▸ h

/-- a two-place operation that reads its operands: its answer lies in what is frozen already, or is new -/
def RvB (C : Fx) (r : R2) (x y z : PyData) : Prop := ∀ F H a b, Ex F H → Dq H a x → Dq H b y → ∀ Q : VK, (∀ v F2 H2, Nx F H F2 H2 → Dq F2 v z → Q v H2) → r a b H Q
theorem ev_opB (ha : EvB C ta e x) (hb : EvB C tb e y) (hr : RvB C r x y z) : EvD C (tOp r ta tb) e z := fun s F H k E Q q =>
  ha s F H k E _ fun va F1 H1 n1 d1 => hb s F1 H1 n1.k (E.nx n1) _ fun vb F2 H2 n2 d2 =>
    hr F2 H2 va vb n2.k (Dq.up d1 (Nx.h0 n2)) d2 Q fun v F3 H3 n3 d3 => q v F3 H3 ((n1.trans n2).trans n3) d3
/-- .. that keeps parts of its operands: these are frozen -/
def RvD (C : Fx) (r : R2) (x y z : PyData) : Prop := ∀ F H a b, Ex F H → Dq F a x → Dq F b y → ∀ Q : VK, (∀ v F2 H2, Nx F H F2 H2 → Dq F2 v z → Q v H2) → r a b H Q
theorem ev_opD (ha : EvD C ta e x) (hb : EvD C tb e y) (hr : RvD C r x y z) : EvD C (tOp r ta tb) e z := fun s F H k E Q q =>
  ha s F H k E _ fun va F1 H1 n1 d1 => hb s F1 H1 n1.k (E.nx n1) _ fun vb F2 H2 n2 d2 =>
    hr F2 H2 va vb n2.k (Dq.up d1 n2.f) d2 Q fun v F3 H3 n3 d3 => q v F3 H3 ((n1.trans n2).trans n3) d3
theorem rv_now {F H : Hp} {Q : VK} {v : V} (k : Ex F H) (h : Dq F v z) (q : ∀ v F2 H2, Nx F H F2 H2 → Dq F2 v z → Q v H2) : Q v H := q v F H (NxM.refl k) h
/-! ints -/
theorem rv_i0 {g : Int → Int → V} {i j : Int} {z : PyData} (hz : ∀ F, Dq F (g i j) z) : RvB C (rI0 g) (.int i) (.int j) z := fun F H a b k ha hb Q q => by
  cases ha; cases hb
  exact ⟨i, j, rfl, rfl, q _ F H (NxM.refl k) (hz F)⟩
theorem rv_ic {P : Int → Int → Prop} {g : Int → Int → V} {i j : Int} {z : PyData} (hc : P i j) (hz : ∀ F, Dq F (g i j) z) : RvB C (rI P g) (.int i) (.int j) z := fun F H a b k ha hb Q q => by
  cases ha; cases hb
  exact ⟨i, j, rfl, rfl, hc, q _ F H (NxM.refl k) (hz F)⟩
theorem ev_add {i j : Int} (ha : EvB C ta e (.int i)) (hb : EvB C tb e (.int j)) : EvD C (tOp (rI0 fun i j => .int (i + j)) ta tb) e (.int (i + j)) := ev_opB ha hb (rv_i0 fun _ => .int _)
theorem ev_sub {i j : Int} (ha : EvB C ta e (.int i)) (hb : EvB C tb e (.int j)) : EvD C (tOp (rI0 fun i j => .int (i - j)) ta tb) e (.int (i - j)) := ev_opB ha hb (rv_i0 fun _ => .int _)
theorem ev_mul {i j : Int} (ha : EvB C ta e (.int i)) (hb : EvB C tb e (.int j)) (hc : CMul i j) : EvD C (tOp (rI CMul fun i j => .int (i * j)) ta tb) e (.int (i * j)) := ev_opB ha hb (rv_ic hc fun _ => .int _)
theorem ev_mod {i j : Int} (ha : EvB C ta e (.int i)) (hb : EvB C tb e (.int j)) (hc : 0 < j) : EvD C (tOp (rI (fun _ j => 0 < j) fun i j => .int (i % j)) ta tb) e (.int (i % j)) := ev_opB ha hb (rv_ic hc fun _ => .int _)
theorem ev_fdiv {i j : Int} (ha : EvB C ta e (.int i)) (hb : EvB C tb e (.int j)) (hc : CDiv i j) : EvD C (tOp (rI CDiv fun i j => .int (i / j)) ta tb) e (.int (i / j)) := ev_opB ha hb (rv_ic hc fun _ => .int _)
theorem ev_pow {i j : Int} (ha : EvB C ta e (.int i)) (hb : EvB C tb e (.int j)) (hc : CPow i j) : EvD C (tOp (rI CPow fun i j => .int (i ^ j.toNat)) ta tb) e (.int (i ^ j.toNat)) := ev_opB ha hb (rv_ic hc fun _ => .int _)
theorem ev_lt {i j : Int} (ha : EvB C ta e (.int i)) (hb : EvB C tb e (.int j)) : EvD C (tOp (rI0 fun i j => .bl (decide (i < j))) ta tb) e (.bool (decide (i < j))) := ev_opB ha hb (rv_i0 fun _ => .bl _)
theorem ev_le {i j : Int} (ha : EvB C ta e (.int i)) (hb : EvB C tb e (.int j)) : EvD C (tOp (rI0 fun i j => .bl (decide (i ≤ j))) ta tb) e (.bool (decide (i ≤ j))) := ev_opB ha hb (rv_i0 fun _ => .bl _)
theorem ev_gt {i j : Int} (ha : EvB C ta e (.int i)) (hb : EvB C tb e (.int j)) : EvD C (tOp (rI0 fun i j => .bl (decide (j < i))) ta tb) e (.bool (decide (j < i))) := ev_opB ha hb (rv_i0 fun _ => .bl _)
theorem ev_ge {i j : Int} (ha : EvB C ta e (.int i)) (hb : EvB C tb e (.int j)) : EvD C (tOp (rI0 fun i j => .bl (decide (j ≤ i))) ta tb) e (.bool (decide (j ≤ i))) := ev_opB ha hb (rv_i0 fun _ => .bl _)
theorem ev_neg {i : Int} (ha : EvB C ta e (.int i)) : EvD C (tUn (rU fun i => .int (-i)) ta) e (.int (-i)) := fun s F H k E Q q => ha s F H k E _ fun v F1 H1 n1 d1 => by
  cases d1
  exact ⟨i, rfl, q _ F1 H1 n1 (.int _)⟩
/-- == and != of ints (op_eq, op_ne) -/
theorem ev_eqI {i j : Int} (ha : EvB C ta e (.int i)) (hb : EvB C tb e (.int j)) : EvD C (tOp rEq ta tb) e (.bool (decide (i = j))) := ev_opB ha hb fun F H a b k ha hb Q q => by
  cases ha; cases hb
  have h1 : decide (V.int i = V.int j) = decide (i = j) := by simp
  exact ⟨rfl, by rw [h1]; exact q _ F H (NxM.refl k) (.bl _)⟩
theorem ev_neI {i j : Int} (ha : EvB C ta e (.int i)) (hb : EvB C tb e (.int j)) : EvD C (tOp rNe ta tb) e (.bool (!decide (i = j))) := ev_opB ha hb fun F H a b k ha hb Q q => by
  cases ha; cases hb
  have h1 : decide (V.int i = V.int j) = decide (i = j) := by simp
  exact ⟨rfl, by rw [h1]; exact q _ F H (NxM.refl k) (.bl _)⟩
theorem ev_eqS {i j : Str} (ha : EvB C ta e (.str i)) (hb : EvB C tb e (.str j)) : EvD C (tOp rEq ta tb) e (.bool (decide (i = j))) := ev_opB ha hb fun F H a b k ha hb Q q => by
  cases ha; cases hb
  have h1 : decide (V.str i = V.str j) = decide (i = j) := by simp
  exact ⟨rfl, by rw [h1]; exact q _ F H (NxM.refl k) (.bl _)⟩
theorem ev_neS {i j : Str} (ha : EvB C ta e (.str i)) (hb : EvB C tb e (.str j)) : EvD C (tOp rNe ta tb) e (.bool (!decide (i = j))) := ev_opB ha hb fun F H a b k ha hb Q q => by
  cases ha; cases hb
  have h1 : decide (V.str i = V.str j) = decide (i = j) := by simp
  exact ⟨rfl, by rw [h1]; exact q _ F H (NxM.refl k) (.bl _)⟩
/-- == and != of data (op_eqD, op_neD) -/
theorem ev_eqD (ha : EvB C ta e x) (hb : EvB C tb e y) (h1 : SeqAt.shaped x = true) (h2 : SeqAt.shaped y = true) : EvD C (tOp (rEqD C.K) ta tb) e (.bool (PyData.eqv x y)) := ev_opB ha hb fun F H a b k ha hb Q q =>
  ⟨x, y, Dq.p _ _ ha, Dq.p _ _ hb, h1, h2, q _ F H (NxM.refl k) (.bl _)⟩
theorem ev_neD (ha : EvB C ta e x) (hb : EvB C tb e y) (h1 : SeqAt.shaped x = true) (h2 : SeqAt.shaped y = true) : EvD C (tOp (rNeD C.K) ta tb) e (.bool (!PyData.eqv x y)) := ev_opB ha hb fun F H a b k ha hb Q q =>
  ⟨x, y, Dq.p _ _ ha, Dq.p _ _ hb, h1, h2, q _ F H (NxM.refl k) (.bl _)⟩
def isNon : PyData → Bool
  | .none => true
  | _ => false
theorem isNon_v {F : Hp} {v : V} (h : Dq F v x) : decide (v = .non) = isNon x := by
  cases h <;> simp [isNon]
/-- x is None, x is not None -/
theorem ev_isN (ha : EvB C ta e x) : EvD C (tIsN ta) e (.bool (isNon x)) := fun s F H k E Q q => ha s F H k E _ fun v F1 H1 n1 d1 => by
  rw [isNon_v d1]; exact q _ F1 H1 n1 (.bl _)
theorem ev_notN (ha : EvB C ta e x) : EvD C (tNotN ta) e (.bool (!isNon x)) := fun s F H k E Q q => ha s F H k E _ fun v F1 H1 n1 d1 => by
  rw [isNon_v d1]; exact q _ F1 H1 n1 (.bl _)
/-! tests -/
theorem et_B {b : Bool} (h : EvB C te e (.bool b)) : EvT C (tB te) e b := fun s F H k E Q q => h s F H k E _ fun v F1 H1 n1 d1 => by
  cases d1; exact ⟨b, rfl, q F1 H1 n1⟩
theorem et_test {b : Bool} (h : EvB C te e (.bool b)) : EvT C (tTest te) e b := fun s F H k E Q q => h s F H k E _ fun v F1 H1 n1 d1 => by
  cases d1; exact ⟨b, rfl, q F1 H1 n1⟩
theorem et_not {b : Bool} (h : EvT C t e b) : EvT C (tNot t) e (!b) := fun s F H k E Q q => h s F H k E _ fun F1 H1 n1 => q F1 H1 n1
theorem et_and {a b : Bool} (h1 : EvT C t e a) (h2 : a = true → EvT C u e b) : EvT C (tAnd t u) e (a && b) := fun s F H k E Q q => h1 s F H k E _ fun F1 H1 n1 => by
  cases a with
  | true => exact h2 rfl s F1 H1 n1.k (E.nx n1) Q fun F2 H2 n2 => q F2 H2 (n1.trans n2)
  | false => exact q F1 H1 n1
theorem et_or {a b : Bool} (h1 : EvT C t e a) (h2 : a = false → EvT C u e b) : EvT C (tOr t u) e (a || b) := fun s F H k E Q q => h1 s F H k E _ fun F1 H1 n1 => by
  cases a with
  | true => exact q F1 H1 n1
  | false => exact h2 rfl s F1 H1 n1.k (E.nx n1) Q fun F2 H2 n2 => q F2 H2 (n1.trans n2)
theorem ev_andV {a b : Bool} (h1 : EvB C ta e (.bool a)) (h2 : a = true → EvD C tb e (.bool b)) : EvD C (tAndV ta tb) e (.bool (a && b)) := fun s F H k E Q q => h1 s F H k E _ fun v F1 H1 n1 d1 => by
  cases d1
  refine ⟨a, rfl, ?_⟩
  cases a with
  | true => exact h2 rfl s F1 H1 n1.k (E.nx n1) Q fun v F2 H2 n2 d2 => q v F2 H2 (n1.trans n2) d2
  | false => exact q _ F1 H1 n1 (.bl _)
theorem ev_orV {a b : Bool} (h1 : EvB C ta e (.bool a)) (h2 : a = false → EvD C tb e (.bool b)) : EvD C (tOrV ta tb) e (.bool (a || b)) := fun s F H k E Q q => h1 s F H k E _ fun v F1 H1 n1 d1 => by
  cases d1
  refine ⟨a, rfl, ?_⟩
  cases a with
  | true => exact q _ F1 H1 n1 (.bl _)
  | false => exact h2 rfl s F1 H1 n1.k (E.nx n1) Q fun v F2 H2 n2 d2 => q v F2 H2 (n1.trans n2) d2
theorem ev_notV {a : Bool} (h1 : EvB C ta e (.bool a)) : EvD C (tNotV ta) e (.bool (!a)) := fun s F H k E Q q => h1 s F H k E _ fun v F1 H1 n1 d1 => by
  cases d1
  exact ⟨a, rfl, q _ F1 H1 n1 (.bl _)⟩
theorem ev_ifE {b : Bool} (h : EvT C t e b) (h1 : b = true → EvD C ta e d) (h2 : b = false → EvD C tb e d) : EvD C (tIf t ta tb) e d := fun s F H k E Q q => h s F H k E _ fun F1 H1 n1 => by
  cases b with
  | true => exact h1 rfl s F1 H1 n1.k (E.nx n1) Q fun v F2 H2 n2 d2 => q v F2 H2 (n1.trans n2) d2
  | false => exact h2 rfl s F1 H1 n1.k (E.nx n1) Q fun v F2 H2 n2 d2 => q v F2 H2 (n1.trans n2) d2
/-! arguments, displays -/
theorem ea_nil : EvA C tNil e [] := fun s F H k E Q q => q [] F H (NxM.refl k) .nil
theorem ea_cons {tr : TA} {ds : List PyData} (h : EvD C ta e x) (hr : EvA C tr e ds) : EvA C (tCons ta tr) e (x :: ds) := fun s F H k E Q q =>
  h s F H k E _ fun v F1 H1 n1 d1 => hr s F1 H1 n1.k (E.nx n1) _ fun vs F2 H2 n2 d2 => q _ F2 H2 (n1.trans n2) (.cons (Dq.up d1 n2.f) d2)
theorem eb_nil : EvAB C tNil e [] := fun s F H k E Q q => q [] F H (NxM.refl k) .nil
theorem eb_cons {tr : TA} {ds : List PyData} (h : EvB C ta e x) (hr : EvAB C tr e ds) : EvAB C (tCons ta tr) e (x :: ds) := fun s F H k E Q q =>
  h s F H k E _ fun v F1 H1 n1 d1 => hr s F1 H1 n1.k (E.nx n1) _ fun vs F2 H2 n2 d2 => q _ F2 H2 (n1.trans n2) (.cons (Dq.up d1 (Nx.h0 n2)) d2)
theorem ev_tup {t : TA} {ds : List PyData} (h : EvA C t e ds) (hl : ds.length ≤ 100000) : EvD C (tTup t) e (.tuple ds) := fun s F H k E Q q => h s F H k E _ fun vs F1 H1 n1 d1 =>
  ⟨Evl.sz_of (by rw [dpa_len d1]; exact hl), fun p hp => q _ _ _ (n1.trans (Nx.new n1.k hp)) (.tup upd_same (DqAll.up d1 (Nx.new (o := .tup vs) n1.k hp).f))⟩
theorem en_lst {t : TA} {ds : List PyData} (h : EvA C t e ds) (hl : ds.length ≤ 100000) : EvN C (tLst t) e ds := fun s F H k E Q q => h s F H k E _ fun vs F1 H1 n1 d1 =>
  ⟨Evl.sz_of (by rw [dpa_len d1]; exact hl), fun p hp => q p vs F1 _ (n1.trans (Nx.mut n1.k hp)) (ex_free (Nx.h0 n1) hp) (ex_free n1.k hp) upd_same d1⟩
/-- a call of a built-in that reads -/
def RcB (C : Fx) (r : List V → Hp → VK → Prop) (ds : List PyData) (z : PyData) : Prop := ∀ F H vs, Ex F H → DqAll H vs ds → ∀ Q : VK, (∀ v F2 H2, Nx F H F2 H2 → Dq F2 v z → Q v H2) → r vs H Q
theorem ev_cb {r : List V → Hp → VK → Prop} {t : TA} {ds : List PyData} (h : EvAB C t e ds) (hr : RcB C r ds z) : EvD C (tCB r t) e z := fun s F H k E Q q => h s F H k E _ fun vs F1 H1 n1 d1 =>
  hr F1 H1 vs n1.k d1 Q fun v F2 H2 n2 d2 => q v F2 H2 (n1.trans n2) d2
/-- subscripts: the item of a frozen list, tuple; of an owned list -/
theorem ev_ixL {ds : List PyData} {i : Int} (ha : EvD C ta e (.list ds)) (hb : EvD C tb e (.int i)) (hd : atI ds i = some z) : EvD C (tOp (rIxL C.K) ta tb) e z := ev_opD ha hb fun F H a b k ha hb Q q => by
  obtain ⟨p, xs, rfl, h1, h2⟩ := dp_lst ha
  cases hb
  obtain ⟨v, h3, h4⟩ := dpa_at h2 hd
  exact ⟨p, xs, i, v, rfl, rfl, .inl (.inl (k _ _ h1)), h3, q v F H (NxM.refl k) h4⟩
theorem ev_ixT {ds : List PyData} {i : Int} (ha : EvD C ta e (.tuple ds)) (hb : EvD C tb e (.int i)) (hd : atI ds i = some z) : EvD C (tOp (rIxT C.K) ta tb) e z := ev_opD ha hb fun F H a b k ha hb Q q => by
  obtain ⟨p, xs, rfl, h1, h2⟩ := dp_tup ha
  cases hb
  obtain ⟨v, h3, h4⟩ := dpa_at h2 hd
  exact ⟨p, xs, i, v, rfl, rfl, .inl (.inl (k _ _ h1)), h3, q v F H (NxM.refl k) h4⟩
theorem ev_ixO {ds : List PyData} {j : Nat} {a : Addr} {i : Int} (ha : e[j]? = some (.own a ds)) (hb : EvD C tb e (.int i)) (hd : atI ds i = some z) : EvD C (tOp (rIxL C.K) (tVar j) tb) e z := fun s F H k E Q q => by
  obtain ⟨h1, _, _, _⟩ := E.ent j _ ha
  refine ⟨_, h1, hb s F H k E _ fun v F1 H1 n1 d1 => ?_⟩
  obtain ⟨_, _, _, xs, h2, h3⟩ := (E.nx n1).ent j _ ha
  cases d1
  obtain ⟨v, h4, h5⟩ := dpa_at h3 hd
  exact ⟨a, xs, i, v, rfl, rfl, .inl (.inl h2), h4, q v F1 H1 n1 h5⟩
end

/-! ### expressions that may change what is owned (a pile that is drawn from) -/
def Ow (e : En) (a : Addr) : Prop := ∃ (i : Nat) (x : Ent), e[i]? = some x ∧ adr x = some a
def EvX (C : Fx) (t : TE) (e : En) (Post : PyData → En → Prop) : Prop := ∀ s F H, Ex F H → Env C F H s e → ∀ Q : VK,
  (∀ v d e2 F2 H2, Post d e2 → NxM (Ow e) F H F2 H2 → (∀ a, Ow e2 a → Ow e a) → Env C F2 H2 s e2 → Dq F2 v d → Q v H2) → t s H Q
def EvXN (C : Fx) (t : TE) (e : En) (Post : List PyData → En → Prop) : Prop := ∀ s F H, Ex F H → Env C F H s e → ∀ Q : VK,
  (∀ p xs ds e2 F2 H2, Post ds e2 → NxM (Ow e) F H F2 H2 → (∀ a, Ow e2 a → Ow e a) → Env C F2 H2 s e2 → H p = none → F2 p = none → H2 p = some (.lst xs) → DqAll F2 xs ds → Q (.ref p) H2) → t s H Q
def EvXT (C : Fx) (t : TT) (e : En) (Post : Bool → En → Prop) : Prop := ∀ s F H, Ex F H → Env C F H s e → ∀ Q : Bool → Hp → Prop,
  (∀ b e2 F2 H2, Post b e2 → NxM (Ow e) F H F2 H2 → (∀ a, Ow e2 a → Ow e a) → Env C F2 H2 s e2 → Q b H2) → t s H Q
def EvXA (C : Fx) (t : TA) (e : En) (Post : List PyData → En → Prop) : Prop := ∀ s F H, Ex F H → Env C F H s e → ∀ Q : List V → Hp → Prop,
  (∀ vs ds e2 F2 H2, Post ds e2 → NxM (Ow e) F H F2 H2 → (∀ a, Ow e2 a → Ow e a) → Env C F2 H2 s e2 → DqAll F2 vs ds → Q vs H2) → t s H Q
theorem base_free {C : Fx} {F H : Hp} (n : NxM C.M C.F0 C.H0 F H) {p : Addr} (h : H p = none) : C.H0 p = none := by
  cases q : C.H0 p with
  | none => rfl
  | some o => exact absurd h (n.th p (ne_some q))
theorem ow_some {C : Fx} {F H : Hp} {s : L2.St} {e : En} {a : Addr} (E : Env C F H s e) (o : Ow e a) : F a = none ∧ (C.M a ∨ C.H0 a = none) ∧ H a ≠ none := by
  obtain ⟨i, x, q, qa⟩ := o
  exact (E.ent i _ q).adr qa
theorem nx_ow {C : Fx} {F H F2 H2 : Hp} {s : L2.St} {e : En} (n : NxM C.M C.F0 C.H0 F H) (E : Env C F H s e) (m : NxM (Ow e) F H F2 H2) : NxM C.M C.F0 C.H0 F2 H2 := by
  refine ⟨fun a o hn ha => m.h a o (fun w => ?_) (n.h a o hn ha), n.f.trans m.f, m.k, fun a h1 h2 => m.ap a (n.ap a h1 h2) (n.th a h2), fun a h => m.th a (n.th a h)⟩
  obtain ⟨_, h3, _⟩ := ow_some E w
  rcases h3 with z | z
  · exact hn z
  · rw [z] at ha; cases ha
theorem nx_ow2 {C : Fx} {F H F1 H1 F2 H2 : Hp} {s : L2.St} {e e1 : En} (a : NxM (Ow e) F H F1 H1) (sub : ∀ a, Ow e1 a → Ow e a) (b : NxM (Ow e1) F1 H1 F2 H2) : NxM (Ow e) F H F2 H2 := a.trans (b.to sub)
section
variable {C : Fx} {e : En} {ta tb te : TE} {t u : TT} {x y z d : PyData} {r : R2}
theorem EvD.tx (h : EvD C te e d) : EvX C te e (fun d' e' => d' = d ∧ e' = e) := fun s F H k E Q q =>
  h s F H k E Q fun v F2 H2 n2 d2 => q v d e F2 H2 ⟨rfl, rfl⟩ n2.toM (fun _ z => z) (E.nx n2) d2
theorem EvN.tx {ds : List PyData} (h : EvN C te e ds) : EvXN C te e (fun ds' e' => ds' = ds ∧ e' = e) := fun s F H k E Q q =>
  h s F H k E Q fun p xs F2 H2 n2 h1 h2 h3 h4 => q p xs ds e F2 H2 ⟨rfl, rfl⟩ n2.toM (fun _ z => z) (E.nx n2) h1 h2 h3 h4
theorem EvT.tx {b : Bool} (h : EvT C t e b) : EvXT C t e (fun b' e' => b' = b ∧ e' = e) := fun s F H k E Q q =>
  h s F H k E Q fun F2 H2 n2 => q b e F2 H2 ⟨rfl, rfl⟩ n2.toM (fun _ z => z) (E.nx n2)
theorem EvA.tx {t : TA} {ds : List PyData} (h : EvA C t e ds) : EvXA C t e (fun ds' e' => ds' = ds ∧ e' = e) := fun s F H k E Q q =>
  h s F H k E Q fun vs F2 H2 n2 d2 => q vs ds e F2 H2 ⟨rfl, rfl⟩ n2.toM (fun _ z => z) (E.nx n2) d2
theorem EvX.imp {P P' : PyData → En → Prop} (h : EvX C te e P) (i : ∀ d e, P d e → P' d e) : EvX C te e P' := fun s F H n E Q q => h s F H n E Q fun v d e2 F2 H2 p => q v d e2 F2 H2 (i d e2 p)
theorem EvXT.imp {P P' : Bool → En → Prop} (h : EvXT C t e P) (i : ∀ b e, P b e → P' b e) : EvXT C t e P' := fun s F H n E Q q => h s F H n E Q fun b e2 F2 H2 p => q b e2 F2 H2 (i b e2 p)
theorem EvXN.imp {P P' : List PyData → En → Prop} (h : EvXN C te e P) (i : ∀ b e, P b e → P' b e) : EvXN C te e P' := fun s F H n E Q q => h s F H n E Q fun p xs ds e2 F2 H2 z => q p xs ds e2 F2 H2 (i ds e2 z)
theorem EvXA.imp {t : TA} {P P' : List PyData → En → Prop} (h : EvXA C t e P) (i : ∀ b e, P b e → P' b e) : EvXA C t e P' := fun s F H n E Q q => h s F H n E Q fun vs ds e2 F2 H2 z => q vs ds e2 F2 H2 (i ds e2 z)

/-! ### the slots change -/
theorem set_cases {i j : Nat} {x y : Ent} (hi : i < e.length) (q : (e.set i y)[j]? = some x) : (j = i ∧ x = y) ∨ (j ≠ i ∧ e[j]? = some x) := by
  by_cases c : i = j
  · subst c
    rw [List.getElem?_set_self hi] at q
    cases q
    exact .inl ⟨rfl, rfl⟩
  · rw [List.getElem?_set_ne c] at q
    exact .inr ⟨fun z => c z.symm, q⟩
/-- an entry goes to slot i -/
theorem Env.putE {F H : Hp} {s : L2.St} {i : Nat} {v : V} {y : Ent} (E : Env C F H s e) (hi : i < e.length) (h : EntOk C F H (some (some v)) y) (hn : ∀ (j : Nat) x a, j ≠ i → e[j]? = some x → adr y = some a → adr x ≠ some a) : Env C F H (s.set i (some v)) (e.set i y) := by
  refine ⟨by rw [List.length_set, List.length_set, E.len], fun j x q => ?_, fun j k x z a njk q1 q2 ha => ?_⟩
  · rcases set_cases hi q with ⟨rfl, rfl⟩ | ⟨c, r⟩
    · rw [List.getElem?_set_self (by rw [E.len]; exact hi)]; exact h
    · rw [List.getElem?_set_ne (Ne.symm c)]; exact E.ent j x r
  · rcases set_cases hi q1 with ⟨rfl, rfl⟩ | ⟨c1, r1⟩
    · rcases set_cases hi q2 with ⟨rfl, rfl⟩ | ⟨c2, r2⟩
      · exact absurd rfl njk
      · exact hn k z a c2 r2 ha
    · rcases set_cases hi q2 with ⟨rfl, rfl⟩ | ⟨c2, r2⟩
      · exact fun w => hn j x a c1 r1 w ha
      · exact E.apart j k x z a njk r1 r2 ha
theorem Env.put {F H : Hp} {s : L2.St} {i : Nat} {v : V} (E : Env C F H s e) (hi : i < e.length) (h : Dq F v d) : Env C F H (s.set i (some v)) (e.set i (.dat d)) := E.putE hi ⟨v, rfl, h⟩ fun _ _ _ _ _ z => nomatch z
theorem Env.putV {F H : Hp} {s : L2.St} {i : Nat} {v : V} (E : Env C F H s e) (hi : i < e.length) : Env C F H (s.set i (some v)) (e.set i (.val v)) := E.putE hi rfl fun _ _ _ _ _ z => nomatch z
/-- a new list of one's own goes to slot i -/
theorem Env.putN {F H : Hp} {s : L2.St} {i : Nat} {p : Addr} {xs : List V} {ds : List PyData} (E : Env C F H s e) (hi : i < e.length) (h1 : F p = none) (h2 : C.M p ∨ C.H0 p = none) (h3 : H p = some (.lst xs)) (h4 : DqAll F xs ds)
    (hn : ¬ Ow e p) : Env C F H (s.set i (some (.ref p))) (e.set i (.own p ds)) := E.putE hi ⟨rfl, h1, h2, xs, h3, h4⟩ fun j x a _ q w z => by
  cases w
  exact hn ⟨j, x, q, z⟩
/-- an owned list is changed -/
theorem Env.wr {F H : Hp} {s : L2.St} {i : Nat} {p : Addr} {xs : List V} {ds ds' : List PyData} (E : Env C F H s e) (q : e[i]? = some (.own p ds)) (h : DqAll F xs ds') : Env C F (upd H p (.lst xs)) s (e.set i (.own p ds')) := by
  have hi : i < e.length := (List.getElem?_eq_some_iff.mp q).1
  obtain ⟨h1, h2, h3, _⟩ := E.ent i _ q
  refine ⟨by rw [List.length_set, E.len], fun j x qx => ?_, fun j k x z a njk q1 q2 ha => ?_⟩
  · rcases set_cases hi qx with ⟨rfl, rfl⟩ | ⟨c, rx⟩
    · exact ⟨h1, h2, h3, xs, upd_same, h⟩
    · have w := E.ent j x rx
      have ne : ∀ a, adr x = some a → a ≠ p := fun a ha z => by
        subst z
        exact E.apart j i x _ a c rx q ha rfl
      cases x with
      | un => trivial
      | dat d => exact w
      | val v => exact w
      | dic a kvs => obtain ⟨w1, w2, w3, w4⟩ := w; exact ⟨w1, w2, w3, by rw [upd_ne (ne a rfl)]; exact w4⟩
      | own a ys => obtain ⟨w1, w2, w3, zs, w4, w5⟩ := w; exact ⟨w1, w2, w3, zs, by rw [upd_ne (ne a rfl)]; exact w4, w5⟩
      | pil a => obtain ⟨w1, w2, w3, m, w4, w5⟩ := w; exact ⟨w1, w2, w3, m, w4, by rw [upd_ne (ne a rfl)]; exact w5⟩
  · rcases set_cases hi q1 with ⟨rfl, rfl⟩ | ⟨c1, r1⟩
    · rcases set_cases hi q2 with ⟨rfl, rfl⟩ | ⟨c2, r2⟩
      · exact absurd rfl njk
      · exact E.apart j k _ z a njk q r2 ha
    · rcases set_cases hi q2 with ⟨rfl, rfl⟩ | ⟨c2, r2⟩
      · exact fun w => E.apart j k x (.own p ds) a njk r1 q ha w
      · exact E.apart j k x z a njk r1 r2 ha
theorem NxM.own {F H : Hp} {p : Addr} {o : HO} (n : NxM C.M C.F0 C.H0 F H) (hm : C.M p ∨ C.H0 p = none) (h : F p = none) : NxM C.M C.F0 C.H0 F (upd H p o) := by
  refine ⟨fun a u hn e => ?_, n.f, fun a u e => ?_, n.ap, fun a h2 => ?_⟩
  · have c : a ≠ p := fun z => by
      subst z
      rcases hm with w | w
      · exact hn w
      · rw [w] at e; cases e
    rw [upd_ne c]; exact n.h a u hn e
  · rw [upd_ne (ne_of_none e h)]; exact n.k a u e
  · by_cases c : a = p
    · subst c; rw [upd_same]; simp
    · rw [upd_ne c]; exact n.th a h2

/-! ### statements -/
variable {D : Ends} {tu tw tz ts : TS} {s : L2.St} {H B : Hp}
theorem a_seq (h : ts { D with nx := tz D } s H) : tSeq ts tz D s H := h
theorem a_asgX {i : Nat} {P : PyData → En → Prop} (h : EvX C te e P) (hi : ∀ d e2, P d e2 → i < e2.length) (k : ∀ d e2, P d e2 → ∀ s H, At C B (e2.set i (.dat d)) s H → D.nx s H) (A : At C B e s H) : tAsg te (gName i) D s H := by
  obtain ⟨F, n, b, E⟩ := A
  exact h s F H n.k E _ fun v d e2 F2 H2 p n2 _ E2 d2 => k d e2 p _ _ ⟨F2, nx_ow n E n2, b.trans n2.f, E2.put (hi d e2 p) d2⟩
theorem a_asg {i : Nat} (h : EvD C te e d) (k : ∀ s H, At C B (e.set i (.dat d)) s H → D.nx s H) (A : At C B e s H) (hi : Nat.ble (i + 1) e.length = true := by rfl) : tAsg te (gName i) D s H :=
  a_asgX h.tx (fun d' e' p => by rw [p.2]; exact Nat.le_of_ble_eq_true hi) (fun d' e' p => by rw [p.1, p.2]; exact k) A
theorem a_asgXN {i : Nat} {P : List PyData → En → Prop} (h : EvXN C te e P) (hi : ∀ d e2, P d e2 → i < e2.length) (k : ∀ ds e2, P ds e2 → ∀ p s H, At C B (e2.set i (.own p ds)) s H → D.nx s H) (A : At C B e s H) : tAsg te (gName i) D s H := by
  obtain ⟨F, n, b, E⟩ := A
  exact h s F H n.k E _ fun p xs ds e2 F2 H2 z n2 sub E2 h1 h2 h4 h5 => k ds e2 z p _ _ ⟨F2, nx_ow n E n2, b.trans n2.f, E2.putN (hi ds e2 z) h2 (.inr (base_free n h1)) h4 h5 fun w => (ow_some E (sub p w)).2.2 h1⟩
theorem a_asgN {i : Nat} {ds : List PyData} (h : EvN C te e ds) (k : ∀ p s H, At C B (e.set i (.own p ds)) s H → D.nx s H) (A : At C B e s H) (hi : Nat.ble (i + 1) e.length = true := by rfl) : tAsg te (gName i) D s H :=
  a_asgXN h.tx (fun d' e' p => by rw [p.2]; exact Nat.le_of_ble_eq_true hi) (fun d' e' p => by rw [p.1, p.2]; exact k) A
theorem a_ifX {P : Bool → En → Prop} (h : EvXT C t e P) (h1 : ∀ e2, P true e2 → ∀ s H, At C B e2 s H → tu D s H) (h2 : ∀ e2, P false e2 → ∀ s H, At C B e2 s H → tw D s H) (A : At C B e s H) : tIfS t tu tw D s H := by
  obtain ⟨F, n, b, E⟩ := A
  refine h s F H n.k E _ fun c e2 F2 H2 p n2 _ E2 => ?_
  cases c with
  | true => exact h1 e2 p _ _ ⟨F2, nx_ow n E n2, b.trans n2.f, E2⟩
  | false => exact h2 e2 p _ _ ⟨F2, nx_ow n E n2, b.trans n2.f, E2⟩
theorem a_if {b : Bool} (h : EvT C t e b) (h1 : b = true → ∀ s H, At C B e s H → tu D s H) (h2 : b = false → ∀ s H, At C B e s H → tw D s H) (A : At C B e s H) : tIfS t tu tw D s H :=
  a_ifX h.tx (fun e2 p => by rw [p.2]; exact h1 p.1.symm) (fun e2 p => by rw [p.2]; exact h2 p.1.symm) A
theorem a_nx (k : D.nx s H) : tNext D s H := k
theorem a_ret (h : EvD C te e d) (k : ∀ v F2 H2, NxM C.M C.F0 C.H0 F2 H2 → Dq F2 v d → D.rt v H2) (A : At C B e s H) : tRet te D s H := by
  obtain ⟨F, n, b, E⟩ := A
  exact h s F H n.k E _ fun v F2 H2 n2 d2 => k v F2 H2 (n.trans n2.toM) d2
theorem a_retX {P : PyData → En → Prop} (h : EvX C te e P) (k : ∀ v d e2 s F2 H2, P d e2 → NxM C.M C.F0 C.H0 F2 H2 → Env C F2 H2 s e2 → Dq F2 v d → D.rt v H2) (A : At C B e s H) : tRet te D s H := by
  obtain ⟨F, n, b, E⟩ := A
  exact h s F H n.k E _ fun v d e2 F2 H2 p n2 _ E2 d2 => k v d e2 s F2 H2 p (nx_ow n E n2) E2 d2
/-- return a list of one's own: new to the caller -/
theorem a_retO {i : Nat} {a : Addr} {ds : List PyData} (q : e[i]? = some (.own a ds)) (hm : ¬ C.M a) (k : ∀ p xs s F2 H2, NxM C.M C.F0 C.H0 F2 H2 → Env C F2 H2 s e → C.H0 p = none → F2 p = none → H2 p = some (.lst xs) → DqAll F2 xs ds → D.rt (.ref p) H2) (A : At C B e s H) : tRet (tVar i) D s H := by
  obtain ⟨F, n, b, E⟩ := A
  obtain ⟨h1, h2, h3, xs, h4, h5⟩ := E.ent i _ q
  rcases h3 with w | w
  · exact absurd w hm
  · exact ⟨_, h1, k a xs s F H n E w h2 h4 h5⟩
theorem a_retN {ds : List PyData} (h : EvN C te e ds) (k : ∀ p xs F2 H2, NxM C.M C.F0 C.H0 F2 H2 → C.H0 p = none → F2 p = none → H2 p = some (.lst xs) → DqAll F2 xs ds → D.rt (.ref p) H2) (A : At C B e s H) : tRet te D s H := by
  obtain ⟨F, n, b, E⟩ := A
  exact h s F H n.k E _ fun p xs F2 H2 n2 h1 h2 h3 h4 => k p xs F2 H2 (n.trans n2.toM) (base_free n h1) h2 h3 h4
theorem a_drop (h : EvD C te e d) (k : ∀ s H, At C B e s H → D.nx s H) (A : At C B e s H) : tDrop te D s H := by
  obtain ⟨F, n, b, E⟩ := A
  exact h s F H n.k E _ fun v F2 H2 n2 _ => k _ _ ⟨F2, n.trans n2.toM, b.trans n2.f, E.nx n2⟩
theorem a_dropX {P : PyData → En → Prop} (h : EvX C te e P) (k : ∀ d e2, P d e2 → ∀ s H, At C B e2 s H → D.nx s H) (A : At C B e s H) : tDrop te D s H := by
  obtain ⟨F, n, b, E⟩ := A
  exact h s F H n.k E _ fun v d e2 F2 H2 p n2 _ E2 _ => k d e2 p _ _ ⟨F2, nx_ow n E n2, b.trans n2.f, E2⟩
/-- xs.append(e), xs of one's own -/
theorem a_app {i : Nat} {a : Addr} {ds : List PyData} (q : e[i]? = some (.own a ds)) (h : EvD C te e d) (hz : ds.length < 100000) (k : ∀ s H, At C B (e.set i (.own a (ds ++ [d]))) s H → D.nx s H) (A : At C B e s H) :
    tDrop (tBM C.K "list" rAppend (tVar i) (tCons te tNil)) D s H := by
  obtain ⟨F, n, b, E⟩ := A
  obtain ⟨h1, _, _, xs, h4, _⟩ := E.ent i _ q
  refine ⟨_, h1, .inl ⟨rfl, xs, .inl (.inl h4)⟩, h s F H n.k E _ fun v F2 H2 n2 d2 => ?_⟩
  have E2 := E.nx n2
  obtain ⟨_, g2, g3, ys, g4, g5⟩ := E2.ent i _ q
  refine ⟨a, ys, v, rfl, rfl, g4, Evl.sz_lt (by rw [dpa_len g5]; exact hz), k _ _ ⟨F2, NxM.own (n.trans n2.toM) g3 g2, b.trans n2.f, E2.wr q (dpa_app g5 (.cons d2 .nil))⟩⟩
/-- xs[j] = e, xs of one's own -/
theorem a_setO {i j : Nat} {a : Addr} {ds : List PyData} (q : e[i]? = some (.own a ds)) (h : EvD C te e d) (hb : EvD C tb e (.int (j : Int))) (hj : j < ds.length) (k : ∀ s H, At C B (e.set i (.own a (ds.set j d))) s H → D.nx s H) (A : At C B e s H) :
    tAsg te (gSub (tVar i) tb rSetL) D s H := by
  obtain ⟨F, n, b, E⟩ := A
  refine h s F H n.k E _ fun v F2 H2 n2 d2 => ?_
  have E2 := E.nx n2
  obtain ⟨h1, _, _, _⟩ := E2.ent i _ q
  refine ⟨_, h1, hb s F2 H2 n2.k E2 _ fun w F3 H3 n3 d3 => ?_⟩
  cases d3
  have E3 := E2.nx n3
  obtain ⟨_, g2, g3, ys, g4, g5⟩ := E3.ent i _ q
  refine ⟨a, ys, (j : Int), j, rfl, rfl, g4, Evl.ixN_nat (by rw [dpa_len g5]; exact hj), k _ _ ⟨F3, NxM.own ((n.trans n2.toM).trans n3.toM) g3 g2, (b.trans n2.f).trans n3.f, E3.wr q (dpa_set (Dq.up d2 n3.f) j g5)⟩⟩
theorem At.wk {e' : En} (A : At C B e s H) (hl : e.length = e'.length) (h : ∀ (i : Nat) x, e'[i]? = some x → x ≠ .un → e[i]? = some x) : At C B e' s H := by
  obtain ⟨F, n, b, E⟩ := A
  refine ⟨F, n, b, E.len.trans hl, fun i x q => ?_, fun i j x y a nij q1 q2 ha hb => E.apart i j x y a nij (h i _ q1 (fun z => by subst z; cases ha)) (h j _ q2 (fun z => by subst z; cases hb)) ha hb⟩
  by_cases c : x = .un
  · subst c; trivial
  · exact E.ent i x (h i x q c)

/-! ### targets -/
def TgD (C : Fx) (g : TG) (d : PyData) (e e2 : En) : Prop := ∀ s F H v, Ex F H → Env C F H s e → Dq F v d → ∀ Q : L2.St → Hp → Prop, (∀ s', Env C F H s' e2 → Q s' H) → g v s H Q
theorem tg_name {i : Nat} (hi : Nat.ble (i + 1) e.length = true := by rfl) : TgD C (gName i) d e (e.set i (.dat d)) := fun s F H v k E h Q q => q _ (E.put (Nat.le_of_ble_eq_true hi) h)
def TgsD (C : Fx) (g : TGs) (ds : List PyData) (e e2 : En) : Prop := ∀ s F H vs, Ex F H → Env C F H s e → DqAll F vs ds → ∀ Q : L2.St → Hp → Prop, (∀ s', Env C F H s' e2 → Q s' H) → g vs s H Q
theorem tgs_nil : TgsD C gNil [] e e := fun s F H vs k E h Q q => by cases h; exact ⟨rfl, q s E⟩
theorem tgs_cons {g : TG} {gs : TGs} {ds : List PyData} {e1 e2 : En} (h1 : TgD C g d e e1) (h2 : TgsD C gs ds e1 e2) : TgsD C (gCons g gs) (d :: ds) e e2 := fun s F H vs k E h Q q => by
  cases h with
  | cons ha hb => exact ⟨_, _, rfl, h1 s F H _ k E ha _ fun s' E' => h2 s' F H _ k E' hb Q q⟩
theorem tg_tup {gs : TGs} {ds : List PyData} {e2 : En} {n : Nat} (h : TgsD C gs ds e e2) (hn : ds.length = n) : TgD C (gTup C.K n gs) (.tuple ds) e e2 := fun s F H v k E hd Q q => by
  obtain ⟨a, xs, rfl, h1, h2⟩ := dp_tup hd
  exact ⟨a, xs, rfl, .inl (.inl (k _ _ h1)), by rw [dpa_len h2]; exact hn, h s F H xs k E h2 Q q⟩
theorem a_asgG {g : TG} {e2 : En} (h : EvD C te e d) (hg : TgD C g d e e2) (k : ∀ s H, At C B e2 s H → D.nx s H) (A : At C B e s H) : tAsg te g D s H := by
  obtain ⟨F, n, b, E⟩ := A
  exact h s F H n.k E _ fun v F2 H2 n2 d2 => hg s F2 H2 v n2.k (E.nx n2) d2 _ fun s' E' => k s' H2 ⟨F2, n.trans n2.toM, b.trans n2.f, E'⟩

/-! ### loops -/
def NxI (C : Fx) (B : Hp) (I : Nat → En → Prop) (i : Nat) : L2.St → Hp → Prop := fun s H => ∃ e, I i e ∧ At C B e s H
/-- for g in xs, xs frozen -/
theorem a_for {tl : TE} {g : TG} {ds : List PyData} (I : Nat → En → Prop) (h : EvD C tl e (.list ds)) (I0 : I 0 e)
    (step : ∀ B' i d e', ds[i]? = some d → I i e' → ∃ e2, TgD C g d e' e2 ∧ ∀ s H, At C B' e2 s H → tu { D with nx := NxI C B' I (i + 1), ct := NxI C B' I (i + 1), bk := D.nx } s H)
    (done : ∀ e', I ds.length e' → ∀ s H, At C B e' s H → D.nx s H) (A : At C B e s H) : tFor (iList C.K tl) g tu D s H := by
  obtain ⟨F, n, b, E⟩ := A
  refine h s F H n.k E _ fun v F2 H2 n2 d2 => ?_
  obtain ⟨a, xs, rfl, h1, h2⟩ := dp_lst d2
  have hl := dpa_len h2
  have ba : Ex B F2 := b.trans n2.f
  refine ⟨a, rfl, ⟨xs, .inl (.inl (n2.k _ _ h1))⟩, for_list (xs := xs) (NxI C F2 I) ⟨e, I0, F2, n.trans n2.toM, Ex.refl F2, E.nx n2⟩ (fun i s' H' _ p => ?_) (fun i x s' H' hx p => ?_) (fun s' H' p => ?_)⟩
  · obtain ⟨e', _, F', n', b', _⟩ := p
    exact .inl (.inl (n'.k _ _ (b' _ _ h1)))
  · obtain ⟨e', hI, F', n', b', E'⟩ := p
    obtain ⟨d, hd, hdp⟩ := dpa_get2 h2 hx
    obtain ⟨e2, hg, hb⟩ := step F2 i d e' hd hI
    exact hg s' F' H' x n'.k E' (Dq.up hdp b') _ fun s'' E'' => hb s'' H' ⟨F', n', b', E''⟩
  · obtain ⟨e', hI, F', n', b', E'⟩ := p
    rw [hl] at hI
    exact done e' hI s' H' ⟨F', n', ba.trans b', E'⟩
/-- for i in range(n) -/
theorem a_forR1 {ta : TA} {j : Nat} {m : Int} (I : Nat → En → Prop) (h : EvA C ta e [.int m]) (hm : m ≤ 1000000) (I0 : I 0 e) (hj : ∀ i e', I i e' → j < e'.length)
    (step : ∀ (i : Nat) e', (i : Int) < m → I i e' → ∀ s H, At C B (e'.set j (.dat (.int (i : Int)))) s H → tu { D with nx := NxI C B I (i + 1), ct := NxI C B I (i + 1), bk := D.nx } s H)
    (done : ∀ e', I m.toNat e' → ∀ s H, At C B e' s H → D.nx s H) (hlo : -1000000 ≤ m) (A : At C B e s H) : tFor (iRng1 ta) (gName j) tu D s H := by
  obtain ⟨F, n, b, E⟩ := A
  refine h s F H n.k E _ fun vs F2 H2 n2 d2 => ?_
  have hv : vs = [.int m] := by
    cases d2 with
    | cons q1 q2 => cases q1; cases q2; rfl
  refine ⟨m, hv, by omega, by omega, for_range (lo := 0) (n := m.toNat) (NxI C B I) ⟨e, I0, F2, n.trans n2.toM, b.trans n2.f, E.nx n2⟩ (fun i s' H' hi p => ?_) (fun s' H' p => ?_)⟩
  · obtain ⟨e', hI, F', n', b', E'⟩ := p
    have e0 : (0 : Int) + (i : Int) = (i : Int) := Int.zero_add _
    show tu _ (s'.set j (some (.int ((0 : Int) + (i : Int))))) H'
    rw [e0]
    exact step i e' (by omega) hI _ _ ⟨F', n', b', E'.put (hj i e' hI) (.int _)⟩
  · obtain ⟨e', hI, A'⟩ := p
    exact done e' hI s' H' A'
theorem a_forR2 {ta : TA} {j : Nat} {lo m : Int} (I : Nat → En → Prop) (h : EvA C ta e [.int lo, .int m]) (hm : -1000000 ≤ lo ∧ lo ≤ 1000000 ∧ -1000000 ≤ m ∧ m ≤ 1000000) (I0 : I 0 e) (hj : ∀ i e', I i e' → j < e'.length)
    (step : ∀ (i : Nat) e', lo + (i : Int) < m → I i e' → ∀ s H, At C B (e'.set j (.dat (.int (lo + (i : Int))))) s H → tu { D with nx := NxI C B I (i + 1), ct := NxI C B I (i + 1), bk := D.nx } s H)
    (done : ∀ e', I (m - lo).toNat e' → ∀ s H, At C B e' s H → D.nx s H) (A : At C B e s H) : tFor (iRng2 ta) (gName j) tu D s H := by
  obtain ⟨F, n, b, E⟩ := A
  refine h s F H n.k E _ fun vs F2 H2 n2 d2 => ?_
  have hv : vs = [.int lo, .int m] := by
    cases d2 with
    | cons q1 q2 => cases q1; cases q2 with | cons q3 q4 => cases q3; cases q4; rfl
  refine ⟨lo, m, hv, ⟨by omega, by omega, by omega, by omega⟩, for_range (lo := lo) (n := (m - lo).toNat) (NxI C B I) ⟨e, I0, F2, n.trans n2.toM, b.trans n2.f, E.nx n2⟩ (fun i s' H' hi p => ?_) (fun s' H' p => ?_)⟩
  · obtain ⟨e', hI, F', n', b', E'⟩ := p
    exact step i e' (by omega) hI _ _ ⟨F', n', b', E'.put (hj i e' hI) (.int _)⟩
  · obtain ⟨e', hI, A'⟩ := p
    exact done e' hI s' H' A'
/-- while, by a word I of a number that falls -/
theorem a_whileX (I : Nat → En → Prop) (m0 : Nat) (I0 : I m0 e)
    (step : ∀ m e', I m e' → ∃ P : Bool → En → Prop, EvXT C t e' P ∧ (∀ e2, P true e2 → ∀ s H, At C B e2 s H → tu { D with nx := fun s H => ∃ m', m' < m ∧ NxI C B I m' s H, ct := fun s H => ∃ m', m' < m ∧ NxI C B I m' s H, bk := D.nx } s H) ∧ (∀ e2, P false e2 → ∀ s H, At C B e2 s H → D.nx s H))
    (A : At C B e s H) : tWhile t tu D s H := by
  refine ⟨NxI C B I, ⟨m0, e, I0, A⟩, fun m s' H' p => ?_⟩
  obtain ⟨e', hI, F', n', b', E'⟩ := p
  obtain ⟨P, ht, h1, h2⟩ := step m e' hI
  refine ht s' F' H' n'.k E' _ fun c e2 F2 H2 hP n2 _ E2 => ?_
  cases c with
  | true => exact ⟨_, fun σ2 H3 q => q, h1 e2 hP _ _ ⟨F2, nx_ow n' E' n2, b'.trans n2.f, E2⟩⟩
  | false => exact h2 e2 hP _ _ ⟨F2, nx_ow n' E' n2, b'.trans n2.f, E2⟩
theorem a_while (I : Nat → En → Prop) (m0 : Nat) (I0 : I m0 e)
    (step : ∀ m e', I m e' → ∃ b, EvT C t e' b ∧ (b = true → ∀ s H, At C B e' s H → tu { D with nx := fun s H => ∃ m', m' < m ∧ NxI C B I m' s H, ct := fun s H => ∃ m', m' < m ∧ NxI C B I m' s H, bk := D.nx } s H) ∧ (b = false → ∀ s H, At C B e' s H → D.nx s H))
    (A : At C B e s H) : tWhile t tu D s H := a_whileX I m0 I0 (fun m e' hI => by
  obtain ⟨b, ht, h1, h2⟩ := step m e' hI
  exact ⟨_, ht.tx, fun e2 p => by rw [p.2]; exact h1 p.1.symm, fun e2 p => by rw [p.2]; exact h2 p.1.symm⟩) A
end

/-! ### what defs promise -/
section
variable {C : Fx} {e : En}
/-- the entry of a def -/
inductive Ents (C : Fx) (F H : Hp) : List V → En → Prop
  | nil : Ents C F H [] []
  | cons {v : V} {vs : List V} {x : Ent} {xs : En} : EntOk C F H (some (some v)) x → Ents C F H vs xs → Ents C F H (v :: vs) (x :: xs)
theorem Ents.len {F H : Hp} : ∀ {vs : List V} {es : En}, Ents C F H vs es → vs.length = es.length
  | _, _, .nil => rfl
  | _, _, .cons _ r => congrArg (· + 1) (Ents.len r)
theorem Ents.get {F H : Hp} : ∀ {vs : List V} {es : En} {i : Nat} {x : Ent}, Ents C F H vs es → es[i]? = some x → ∃ v, vs[i]? = some v ∧ EntOk C F H (some (some v)) x
  | _, _, _, _, .nil, q => by simp at q
  | _, _, 0, _, .cons h _, q => by simp at q; subst q; exact ⟨_, rfl, h⟩
  | _, _, i + 1, x, .cons _ r, q => by
    obtain ⟨v, h1, h2⟩ := Ents.get (i := i) (x := x) r (by simpa using q)
    exact ⟨v, by simpa using h1, h2⟩
def Apart (e : En) : Prop := ∀ (i j : Nat) x y a, i ≠ j → e[i]? = some x → e[j]? = some y → adr x = some a → adr y ≠ some a
def noOwn : En → Bool
  | [] => true
  | x :: r => (adr x).isNone && noOwn r
theorem noOwn_get : ∀ {e : En} {i : Nat} {x : Ent}, noOwn e = true → e[i]? = some x → adr x = none
  | [], _, _, _, q => by simp at q
  | y :: r, 0, x, h, q => by
    simp at q
    subst q
    unfold noOwn at h
    rw [Bool.and_eq_true] at h
    exact Option.isNone_iff_eq_none.mp h.1
  | y :: r, i + 1, x, h, q => by
    unfold noOwn at h
    rw [Bool.and_eq_true] at h
    exact noOwn_get (i := i) (x := x) h.2 (by simpa using q)
theorem apart_no {e : En} (h : noOwn e = true) : Apart e := fun i j x y a _ q _ ha => by
  rw [noOwn_get h q] at ha
  cases ha
theorem apart_one {x : Ent} {e : En} (h : noOwn e = true) : Apart (x :: e) := fun i j y z a nij q1 q2 ha hb => by
  cases i with
  | succ i =>
    rw [noOwn_get (i := i) (x := y) h (by simpa using q1)] at ha
    cases ha
  | zero =>
    cases j with
    | succ j =>
      rw [noOwn_get (i := j) (x := z) h (by simpa using q2)] at hb
      cases hb
    | zero => exact absurd rfl nij
theorem at_start {F H : Hp} {M : Addr → Prop} {N : List Str} {vs : List V} {es : En} (k : Ex F H) (h : Ents ⟨K, M, F, H⟩ F H vs es) (hap : Apart es) (hl : vs.length ≤ N.length) :
    At ⟨K, M, F, H⟩ F (es ++ List.replicate (N.length - vs.length) .un) (L2.start N vs) H := by
  have hv := h.len
  have out : ∀ (i : Nat) x, (es ++ List.replicate (N.length - vs.length) Ent.un)[i]? = some x → x = .un ∨ es[i]? = some x := fun i x q => by
    by_cases c : i < es.length
    · rw [List.getElem?_append_left c] at q; exact .inr q
    · rw [List.getElem?_append_right (by omega), List.getElem?_replicate] at q
      split at q
      · cases q; exact .inl rfl
      · cases q
  refine ⟨F, NxM.refl k, Ex.refl F, ?_, fun i x q => ?_, fun i j x y a nij q1 q2 ha => ?_⟩
  · unfold L2.start
    simp
    omega
  · rcases out i x q with z | z
    · subst z; trivial
    · obtain ⟨v, h1, h2⟩ := h.get z
      have e0 : (L2.start N vs)[i]? = some (some v) := by
        unfold L2.start
        rw [List.getElem?_append_left (by rw [List.length_map]; exact (List.getElem?_eq_some_iff.mp h1).1), List.getElem?_map, h1]
        rfl
      rw [e0]
      exact h2
  · rcases out i _ q1 with z | z
    · subst z; cases ha
    · rcases out j _ q2 with z2 | z2
      · subst z2; exact fun w => nomatch w
      · exact hap i j x y a nij z z2 ha
theorem ent_d {C : Fx} {F H : Hp} {v : V} {d : PyData} (h : Dq F v d) : EntOk C F H (some (some v)) (.dat d) := ⟨v, rfl, h⟩
def sp1 (P : PyData → Prop) (m : PyData → PyData) : Sp := fun vs H Q E => ∃ F v1 d1, vs = [v1] ∧ Ex F H ∧ Dq F v1 d1 ∧ P d1 ∧ ∀ v F2 H2, Nx F H F2 H2 → Dq F2 v (m d1) → Q v H2
def sp2 (P : PyData → PyData → Prop) (m : PyData → PyData → PyData) : Sp := fun vs H Q E => ∃ F v1 v2 d1 d2, vs = [v1, v2] ∧ Ex F H ∧ Dq F v1 d1 ∧ Dq F v2 d2 ∧ P d1 d2 ∧ ∀ v F2 H2, Nx F H F2 H2 → Dq F2 v (m d1 d2) → Q v H2
def sp3 (P : PyData → PyData → PyData → Prop) (m : PyData → PyData → PyData → PyData) : Sp := fun vs H Q E => ∃ F v1 v2 v3 d1 d2 d3, vs = [v1, v2, v3] ∧ Ex F H ∧ Dq F v1 d1 ∧ Dq F v2 d2 ∧ Dq F v3 d3 ∧ P d1 d2 d3 ∧ ∀ v F2 H2, Nx F H F2 H2 → Dq F2 v (m d1 d2 d3) → Q v H2
variable {ta tb tc : TE} {x y z : PyData} {E : XK}
theorem ev_call1 {P : PyData → Prop} {m : PyData → PyData} (ha : EvD C ta e x) (hp : P x) : EvD C (tCall (sp1 P m) [] E (tCons ta tNil)) e (m x) := fun s F H k En Q q =>
  ha s F H k En _ fun v F1 H1 n1 d1 => ⟨F1, v, x, rfl, n1.k, d1, hp, fun w F2 H2 n2 d2 => q w F2 H2 (n1.trans n2) d2⟩
theorem ev_call2 {P : PyData → PyData → Prop} {m : PyData → PyData → PyData} (ha : EvD C ta e x) (hb : EvD C tb e y) (hp : P x y) : EvD C (tCall (sp2 P m) [] E (tCons ta (tCons tb tNil))) e (m x y) := fun s F H k En Q q =>
  ha s F H k En _ fun v F1 H1 n1 d1 => hb s F1 H1 n1.k (En.nx n1) _ fun w F2 H2 n2 d2 => ⟨F2, v, w, x, y, rfl, n2.k, Dq.up d1 n2.f, d2, hp, fun w F3 H3 n3 d3 => q w F3 H3 ((n1.trans n2).trans n3) d3⟩
theorem ev_call3 {P : PyData → PyData → PyData → Prop} {m : PyData → PyData → PyData → PyData} (ha : EvD C ta e x) (hb : EvD C tb e y) (hc : EvD C tc e z) (hp : P x y z) : EvD C (tCall (sp3 P m) [] E (tCons ta (tCons tb (tCons tc tNil)))) e (m x y z) := fun s F H k En Q q =>
  ha s F H k En _ fun v F1 H1 n1 d1 => hb s F1 H1 n1.k (En.nx n1) _ fun w F2 H2 n2 d2 => hc s F2 H2 n2.k ((En.nx n1).nx n2) _ fun u F3 H3 n3 d3 =>
    ⟨F3, v, w, u, x, y, z, rfl, n3.k, Dq.up d1 (n2.f.trans n3.f), Dq.up d2 n3.f, d3, hp, fun w F4 H4 n4 d4 => q w F4 H4 (((n1.trans n2).trans n3).trans n4) d4⟩
end
end Dd

namespace Dd
open PySem PySem.Spec PyProof.Rows L2
open Evl (Ex)
variable {K : PySem.W.Frag} {C : Fx} {e : En} {ta tb te : TE} {t u : TT} {x y z d : PyData} {r : R2}

/-! ### isinstance -/
def isInt : PyData → Bool
  | .int _ => true
  | .bool _ => true
  | _ => false
def isBool : PyData → Bool
  | .bool _ => true
  | _ => false
def isList : PyData → Bool
  | .list _ => true
  | _ => false
def isTup : PyData → Bool
  | .tuple _ => true
  | _ => false
def isStr : PyData → Bool
  | .str _ => true
  | _ => false
def tyN : PyData → String
  | .none => "NoneType"
  | .bool _ => "bool"
  | .int _ => "int"
  | .str _ => "str"
  | .list _ => "list"
  | .tuple _ => "tuple"
  | .dict _ => "dict"
theorem dq_ty {F : Hp} {v : V} (h : Dq F v d) : TyX K F v (.type (tyN d)) := by
  cases h with
  | non => exact .base .non
  | bl b => exact .base (.bl b)
  | int i => exact .base (.int i)
  | str x => exact .base (.str x)
  | lst h1 _ => exact .base (.lst h1)
  | tup h1 _ => exact .base (.tup h1)
theorem ev_isi {T : String} {b : Bool} (ha : EvB C ta e x) (hb : kitB (tyN x) T = some b) : EvD C (tCB (rIsi C.K) (tCons ta (tCons (tC (.ty T)) tNil))) e (.bool b) := fun s F H k E Q q =>
  ha s F H k E _ fun v F1 H1 n1 d1 => ⟨v, .ty T, .type (tyN x), .type T, b, rfl, .ty T, dq_ty d1, kit_ty hb, q _ F1 H1 n1 (.bl _)⟩
theorem kb_int (h : ∀ m, x ≠ .dict m) : kitB (tyN x) "int" = some (isInt x) := by
  cases x <;> first | (exact absurd rfl (h _)) | (simp only [tyN, isInt, isBool, isList, isTup, isStr]; decide +kernel)
theorem kb_bool (h : ∀ m, x ≠ .dict m) : kitB (tyN x) "bool" = some (isBool x) := by
  cases x <;> first | (exact absurd rfl (h _)) | (simp only [tyN, isInt, isBool, isList, isTup, isStr]; decide +kernel)
theorem kb_list (h : ∀ m, x ≠ .dict m) : kitB (tyN x) "list" = some (isList x) := by
  cases x <;> first | (exact absurd rfl (h _)) | (simp only [tyN, isInt, isBool, isList, isTup, isStr]; decide +kernel)
theorem kb_tup (h : ∀ m, x ≠ .dict m) : kitB (tyN x) "tuple" = some (isTup x) := by
  cases x <;> first | (exact absurd rfl (h _)) | (simp only [tyN, isInt, isBool, isList, isTup, isStr]; decide +kernel)
theorem kb_str (h : ∀ m, x ≠ .dict m) : kitB (tyN x) "str" = some (isStr x) := by
  cases x <;> first | (exact absurd rfl (h _)) | (simp only [tyN, isInt, isBool, isList, isTup, isStr]; decide +kernel)
theorem ev_isD {T : String} {f : PyData → Bool} (ha : EvB C ta e x) (hb : (∀ m, x ≠ .dict m) → kitB (tyN x) T = some (f x)) : EvD C (tCB (rIsi C.K) (tCons ta (tCons (tC (.ty T)) tNil))) e (.bool (f x)) := fun s F H k E Q q =>
  ha s F H k E _ fun v F1 H1 n1 d1 => ⟨v, .ty T, .type (tyN x), .type T, f x, rfl, .ty T, dq_ty d1, kit_ty (hb (fun m z => by subst z; cases d1)), q _ F1 H1 n1 (.bl _)⟩
theorem ev_isInt (ha : EvB C ta e x) : EvD C (tCB (rIsi C.K) (tCons ta (tCons (tC (.ty "int")) tNil))) e (.bool (isInt x)) := ev_isD ha kb_int
theorem ev_isBool (ha : EvB C ta e x) : EvD C (tCB (rIsi C.K) (tCons ta (tCons (tC (.ty "bool")) tNil))) e (.bool (isBool x)) := ev_isD ha kb_bool
theorem ev_isList (ha : EvB C ta e x) : EvD C (tCB (rIsi C.K) (tCons ta (tCons (tC (.ty "list")) tNil))) e (.bool (isList x)) := ev_isD ha kb_list
theorem ev_isTup (ha : EvB C ta e x) : EvD C (tCB (rIsi C.K) (tCons ta (tCons (tC (.ty "tuple")) tNil))) e (.bool (isTup x)) := ev_isD ha kb_tup
theorem ev_isStr (ha : EvB C ta e x) : EvD C (tCB (rIsi C.K) (tCons ta (tCons (tC (.ty "str")) tNil))) e (.bool (isStr x)) := ev_isD ha kb_str

/-! ### len, list(), tuple(), int(), max, min, sum, all, any -/
section
variable {X : Cx}
theorem call_lenS : CallR X (.builtin "len") (Evl.rLenS X.K) := call_len_seq
theorem call_listS : CallR X (.type "list") (Evl.rListS X.K) := call_list_of
def rTupS (K : PySem.W.Frag) : List V → Hp → VK → Prop := fun xs H Q => ∃ p ys, xs = [.ref p] ∧ ((SqL K H p ys ∧ ∀ l, H l = none → Q (.ref l) (upd H l (.tup ys))) ∨ (SqT K H p ys ∧ Q (.ref p) H))
theorem call_tupleS : CallR X (.type "tuple") (rTupS X.K) := call_tuple_of
def rMx2 : List V → Hp → VK → Prop := fun xs H Q => ∃ i j, xs = [.int i, .int j] ∧ Q (.int (if j > i then j else i)) H
def rMn2 : List V → Hp → VK → Prop := fun xs H Q => ∃ i j, xs = [.int i, .int j] ∧ Q (.int (if j < i then j else i)) H
theorem call_mx2 (hc : X.calm = true) : CallR X (.builtin "max") rMx2 := call_max2 hc
theorem call_mn2 (hc : X.calm = true) : CallR X (.builtin "min") rMn2 := call_min2 hc
def rInt1 : List V → Hp → VK → Prop := fun xs H Q => (∃ i, xs = [.int i] ∧ Q (.int i) H) ∨ ∃ k, xs = [.bl k] ∧ Q (.int (if k then 1 else 0)) H
theorem call_i1 : CallR X (.type "int") rInt1 := call_int1
end
/-- the length of a list or tuple -/
def lenD : PyData → Nat
  | .list ds => ds.length
  | .tuple ds => ds.length
  | _ => 0
theorem ev_len (ha : EvB C ta e x) (hx : isList x = true ∨ isTup x = true) : EvD C (tCB (Evl.rLenS C.K) (tCons ta tNil)) e (.int (lenD x)) := fun s F H k E Q q => ha s F H k E _ fun v F1 H1 n1 d1 => by
  cases d1 with
  | lst h1 h2 => exact ⟨_, _, rfl, .inl (.inl (.inl h1)), by rw [dpa_len h2]; exact q _ F1 H1 n1 (.int _)⟩
  | tup h1 h2 => exact ⟨_, _, rfl, .inr (.inl (.inl h1)), by rw [dpa_len h2]; exact q _ F1 H1 n1 (.int _)⟩
  | non => rcases hx with h | h <;> cases h
  | bl b => rcases hx with h | h <;> cases h
  | int i => rcases hx with h | h <;> cases h
  | str i => rcases hx with h | h <;> cases h
theorem ev_lenL {ds : List PyData} (ha : EvB C ta e (.list ds)) : EvD C (tCB (Evl.rLenS C.K) (tCons ta tNil)) e (.int (ds.length : Int)) := ev_len ha (.inl rfl)
theorem ev_lenT {ds : List PyData} (ha : EvB C ta e (.tuple ds)) : EvD C (tCB (Evl.rLenS C.K) (tCons ta tNil)) e (.int (ds.length : Int)) := ev_len ha (.inr rfl)
theorem en_list {ds : List PyData} (ha : EvD C ta e (.list ds)) : EvN C (tCB (Evl.rListS C.K) (tCons ta tNil)) e ds := fun s F H k E Q q => ha s F H k E _ fun v F1 H1 n1 d1 => by
  obtain ⟨a, xs, rfl, h1, h2⟩ := dp_lst d1
  exact ⟨a, xs, rfl, .inl (.inl (.inl (n1.k _ _ h1))), fun l hl => q l xs F1 _ (n1.trans (Nx.mut n1.k hl)) (ex_free (Nx.h0 n1) hl) (ex_free n1.k hl) upd_same h2⟩
theorem en_listT {ds : List PyData} (ha : EvD C ta e (.tuple ds)) : EvN C (tCB (Evl.rListS C.K) (tCons ta tNil)) e ds := fun s F H k E Q q => ha s F H k E _ fun v F1 H1 n1 d1 => by
  obtain ⟨a, xs, rfl, h1, h2⟩ := dp_tup d1
  exact ⟨a, xs, rfl, .inr (.inl (.inl (n1.k _ _ h1))), fun l hl => q l xs F1 _ (n1.trans (Nx.mut n1.k hl)) (ex_free (Nx.h0 n1) hl) (ex_free n1.k hl) upd_same h2⟩
theorem ev_tupL {ds : List PyData} (ha : EvD C ta e (.list ds)) : EvD C (tCB (rTupS C.K) (tCons ta tNil)) e (.tuple ds) := fun s F H k E Q q => ha s F H k E _ fun v F1 H1 n1 d1 => by
  obtain ⟨a, xs, rfl, h1, h2⟩ := dp_lst d1
  exact ⟨a, xs, rfl, .inl ⟨.inl (.inl (n1.k _ _ h1)), fun l hl => q _ _ _ (n1.trans (Nx.new n1.k hl)) (.tup upd_same (DqAll.up h2 (Nx.new (o := .tup xs) n1.k hl).f))⟩⟩
theorem ev_int1 {i : Int} (ha : EvB C ta e (.int i)) : EvD C (tCB rInt1 (tCons ta tNil)) e (.int i) := fun s F H k E Q q => ha s F H k E _ fun v F1 H1 n1 d1 => by
  cases d1; exact .inl ⟨i, rfl, q _ F1 H1 n1 (.int _)⟩
theorem ev_intB {b : Bool} (ha : EvB C ta e (.bool b)) : EvD C (tCB rInt1 (tCons ta tNil)) e (.int (if b then 1 else 0)) := fun s F H k E Q q => ha s F H k E _ fun v F1 H1 n1 d1 => by
  cases d1; exact .inr ⟨b, rfl, q _ F1 H1 n1 (.int _)⟩
theorem ev_max2 {i j : Int} (ha : EvB C ta e (.int i)) (hb : EvB C tb e (.int j)) : EvD C (tCB rMx2 (tCons ta (tCons tb tNil))) e (.int (max i j)) := fun s F H k E Q q => ha s F H k E _ fun v F1 H1 n1 d1 => hb s F1 H1 n1.k (E.nx n1) _ fun w F2 H2 n2 d2 => by
  cases d1; cases d2
  have h : (if j > i then j else i) = max i j := by rw [Int.max_def]; split <;> split <;> omega
  exact ⟨i, j, rfl, by rw [h]; exact q _ F2 H2 (n1.trans n2) (.int _)⟩
theorem ev_min2 {i j : Int} (ha : EvB C ta e (.int i)) (hb : EvB C tb e (.int j)) : EvD C (tCB rMn2 (tCons ta (tCons tb tNil))) e (.int (min i j)) := fun s F H k E Q q => ha s F H k E _ fun v F1 H1 n1 d1 => hb s F1 H1 n1.k (E.nx n1) _ fun w F2 H2 n2 d2 => by
  cases d1; cases d2
  have h : (if j < i then j else i) = min i j := by rw [Int.min_def]; split <;> split <;> omega
  exact ⟨i, j, rfl, by rw [h]; exact q _ F2 H2 (n1.trans n2) (.int _)⟩
theorem dqa_map {α : Type} {F : Hp} {f : α → PyData} {g : α → V} (hfg : ∀ a v, Dq F v (f a) → v = g a) : ∀ {vs : List V} {ns : List α}, DqAll F vs (ns.map f) → vs = ns.map g
  | _, [], h => by cases h; rfl
  | _, n :: ns, h => by
    cases h with
    | cons h1 h2 => rw [hfg n _ h1, dqa_map hfg h2]; rfl
theorem dqa_bls {F : Hp} {vs : List V} {bs : List Bool} (h : DqAll F vs (bs.map PyData.bool)) : vs = bs.map V.bl := dqa_map (fun a v h => by cases h; rfl) h
theorem ev_all {bs : List Bool} (ha : EvB C ta e (.list (bs.map .bool))) : EvD C (tCB (rAll C.K) (tCons ta tNil)) e (.bool (bs.all id)) := fun s F H k E Q q => ha s F H k E _ fun v F1 H1 n1 d1 => by
  obtain ⟨a, xs, rfl, h1, h2⟩ := dp_lst d1
  have hx := dqa_bls h2
  subst hx
  exact ⟨a, bs, rfl, .inl (.inl h1), q _ F1 H1 n1 (.bl _)⟩
theorem ev_any {bs : List Bool} (ha : EvB C ta e (.list (bs.map .bool))) : EvD C (tCB (rAny C.K) (tCons ta tNil)) e (.bool (bs.any id)) := fun s F H k E Q q => ha s F H k E _ fun v F1 H1 n1 d1 => by
  obtain ⟨a, xs, rfl, h1, h2⟩ := dp_lst d1
  have hx := dqa_bls h2
  subst hx
  exact ⟨a, bs, rfl, .inl (.inl h1), q _ F1 H1 n1 (.bl _)⟩
theorem ev_sum {ns : List Int} (ha : EvB C ta e (.list (ns.map .int))) : EvD C (tCB (rSum C.K) (tCons ta tNil)) e (.int ns.sum) := fun s F H k E Q q => ha s F H k E _ fun v F1 H1 n1 d1 => by
  obtain ⟨a, xs, rfl, h1, h2⟩ := dp_lst d1
  have hx := dpa_ints' h2
  subst hx
  exact ⟨a, ns, rfl, .inl (.inl h1), q _ F1 H1 n1 (.int _)⟩
theorem ev_maxL {ns : List Int} {m : Int} (ha : EvB C ta e (.list (ns.map .int))) (h1 : m ∈ ns) (h2 : ∀ y ∈ ns, y ≤ m) : EvD C (tCB (rMax C.K) (tCons ta tNil)) e (.int m) := fun s F H k E Q q => ha s F H k E _ fun v F1 H1 n1 d1 => by
  obtain ⟨a, xs, rfl, g1, g2⟩ := dp_lst d1
  have hx := dpa_ints' g2
  subst hx
  refine ⟨a, ns, rfl, .inl (.inl g1), List.length_pos_of_mem h1, fun m' hm hy => ?_⟩
  have : m' = m := Int.le_antisymm (h2 m' hm) (hy m h1)
  subst this
  exact q _ F1 H1 n1 (.int _)

/-! ### x in xs, scalars -/
def flatD : PyData → Bool
  | .none => true
  | .bool _ => true
  | .int _ => true
  | .str _ => true
  | _ => false
def toV : PyData → V
  | .bool b => .bl b
  | .int i => .int i
  | .str x => .str x
  | _ => .non
theorem dq_flat {F : Hp} {v : V} (h : Dq F v d) (hd : flatD d = true) : v = toV d := by
  cases h <;> first | rfl | cases hd
theorem dqa_flat {F : Hp} : ∀ {vs : List V} {ds : List PyData}, DqAll F vs ds → ds.all flatD = true → vs = ds.map toV
  | _, [], h, _ => by cases h; rfl
  | _, d :: ds, h, a => by
    cases h with
    | cons h1 h2 =>
      rw [List.all_cons, Bool.and_eq_true] at a
      rw [dq_flat h1 a.1, dqa_flat h2 a.2]
      rfl
theorem flat_toV (h : flatD d = true) : flatV (toV d) = true := by
  cases d <;> first | rfl | cases h
theorem flats_toV : ∀ {ds : List PyData}, ds.all flatD = true → (ds.map toV).all flatV = true
  | [], _ => rfl
  | d :: ds, a => by
    rw [List.all_cons, Bool.and_eq_true] at a
    rw [List.map_cons, List.all_cons, flat_toV a.1, flats_toV a.2]
    rfl
theorem inV_ints {i : Int} : ∀ {ns : List Int}, inV (.int i) (ns.map V.int) = decide (i ∈ ns)
  | [] => rfl
  | n :: ns => by
    have ih := inV_ints (i := i) (ns := ns)
    unfold inV at ih ⊢
    rw [List.map_cons, List.any_cons, ih]
    have h : eqV (V.int n) (V.int i) = decide (n = i) := by
      simp [eqV, Bool.beq_eq_decide_eq]
    rw [h]
    by_cases c : n = i
    · subst c; simp
    · have c' : i ≠ n := fun q => c q.symm
      simp [c, c']
theorem ev_inI {i : Int} {ns : List Int} (ha : EvB C ta e (.int i)) (hb : EvB C tb e (.list (ns.map .int))) : EvD C (tOp (rIn C.K false) ta tb) e (.bool (decide (i ∈ ns))) := ev_opB ha hb fun F H a b k ha hb Q q => by
  cases ha
  obtain ⟨p, xs, rfl, h1, h2⟩ := dp_lst hb
  have hx := dpa_ints' h2
  subst hx
  refine ⟨p, _, rfl, .inl (.inl (.inl h1)), rfl, by simp [flatV], ?_⟩
  show Q (.bl (inV (.int i) (ns.map V.int))) H
  rw [inV_ints]
  exact q _ F H (NxM.refl k) (.bl _)
theorem ev_niI {i : Int} {ns : List Int} (ha : EvB C ta e (.int i)) (hb : EvB C tb e (.list (ns.map .int))) : EvD C (tOp (rIn C.K true) ta tb) e (.bool (!decide (i ∈ ns))) := ev_opB ha hb fun F H a b k ha hb Q q => by
  cases ha
  obtain ⟨p, xs, rfl, h1, h2⟩ := dp_lst hb
  have hx := dpa_ints' h2
  subst hx
  refine ⟨p, _, rfl, .inl (.inl (.inl h1)), rfl, by simp [flatV], ?_⟩
  show Q (.bl (!inV (.int i) (ns.map V.int))) H
  rw [inV_ints]
  exact q _ F H (NxM.refl k) (.bl _)
/-- x in xs, data -/
theorem ev_inD {ds : List PyData} (ha : EvB C ta e x) (hb : EvB C tb e (.list ds)) (h1 : SeqAt.shaped x = true) (h2 : SeqAt.shaped (.list ds) = true) : EvD C (tOp (rInD C.K) ta tb) e (.bool (ds.any fun z => PyData.eqv z x)) := ev_opB ha hb fun F H a b k ha hb Q q =>
  ⟨x, ds, Dq.p _ _ ha, Dq.p _ _ hb, h1, h2, q _ F H (NxM.refl k) (.bl _)⟩
theorem ev_niD {ds : List PyData} (ha : EvB C ta e x) (hb : EvB C tb e (.list ds)) (h1 : SeqAt.shaped x = true) (h2 : SeqAt.shaped (.list ds) = true) : EvD C (tOp (rNotInD C.K) ta tb) e (.bool (!ds.any fun z => PyData.eqv z x)) := ev_opB ha hb fun F H a b k ha hb Q q =>
  ⟨x, ds, Dq.p _ _ ha, Dq.p _ _ hb, h1, h2, q _ F H (NxM.refl k) (.bl _)⟩

/-! ### slices, + of lists -/
def EvO (C : Fx) (t : TO) (e : En) (o : Option Int) : Prop := ∀ s F H, Ex F H → Env C F H s e → ∀ Q : Option Int → Hp → Prop, (∀ F2 H2, Nx F H F2 H2 → Q o H2) → t s H Q
theorem eo_none : EvO C tNoPart e none := fun s F H k E Q q => q F H (NxM.refl k)
theorem eo_some {i : Int} (h : EvB C te e (.int i)) : EvO C (tPart te) e (some i) := fun s F H k E Q q => h s F H k E _ fun v F1 H1 n1 d1 => by
  cases d1; exact ⟨i, rfl, q F1 H1 n1⟩
def cutD (xs : List PyData) (lo hi : Option Int) : List PyData := (xs.drop (HT.sIx xs.length 0 lo)).take (HT.sIx xs.length xs.length hi - HT.sIx xs.length 0 lo)
theorem dqa_cut {F : Hp} {vs : List V} {ds : List PyData} (h : DqAll F vs ds) (lo hi : Option Int) : DqAll F (cutV vs lo hi) (cutD ds lo hi) := by
  unfold cutV cutD
  rw [dpa_len h]
  exact dpa_take _ (dpa_drop _ h)
theorem en_sl {tl th : TO} {ds : List PyData} {lo hi : Option Int} (h : EvD C te e (.list ds)) (h1 : EvO C tl e lo) (h2 : EvO C th e hi) : EvN C (tSl (rSlL C.K) te tl th) e (cutD ds lo hi) := fun s F H k E Q q => h s F H k E _ fun v F1 H1 n1 d1 =>
  h1 s F1 H1 n1.k (E.nx n1) _ fun F2 H2 n2 => h2 s F2 H2 n2.k ((E.nx n1).nx n2) _ fun F3 H3 n3 => by
    obtain ⟨a, xs, rfl, g1, g2⟩ := dp_lst d1
    have n13 := (n1.trans n2).trans n3
    have g3 := DqAll.up g2 (n2.f.trans n3.f)
    exact ⟨a, xs, rfl, .inl (.inl (n3.k _ _ (n3.f _ _ (n2.f _ _ g1)))), fun l hl => q l _ F3 _ (n13.trans (Nx.mut n3.k hl)) (ex_free (Nx.h0 n13) hl) (ex_free n3.k hl) upd_same (dqa_cut g3 lo hi)⟩
theorem en_cat {ds es : List PyData} (ha : EvD C ta e (.list ds)) (hb : EvD C tb e (.list es)) (hl : ds.length + es.length ≤ 100000) : EvN C (tOp rCat ta tb) e (ds ++ es) := fun s F H k E Q q => ha s F H k E _ fun v F1 H1 n1 d1 => hb s F1 H1 n1.k (E.nx n1) _ fun w F2 H2 n2 d2 => by
  obtain ⟨a, xs, rfl, g1, g2⟩ := dp_lst d1
  obtain ⟨b, ys, rfl, g3, g4⟩ := dp_lst d2
  have n12 := n1.trans n2
  exact ⟨a, b, xs, ys, rfl, rfl, n2.k _ _ (n2.f _ _ g1), n2.k _ _ g3, Evl.sz_of (by rw [dpa_len g2, dpa_len g4]; exact hl), fun l h => q l _ F2 _ (n12.trans (Nx.mut n2.k h)) (ex_free (Nx.h0 n12) h) (ex_free n2.k h) upd_same (dpa_app (DqAll.up g2 n2.f) g4)⟩

/-! ### comprehensions over frozen data -/
def wipeE (e : En) : List Nat → En
  | [] => e
  | v :: vs => (wipeE e vs).set v .un
theorem env_forget {F H : Hp} {s : L2.St} {i : Nat} {o : Option V} (E : Env C F H s e) : Env C F H (s.set i o) (e.set i .un) := by
  have f : ∀ (j : Nat) x, (e.set i Ent.un)[j]? = some x → x ≠ .un → e[j]? = some x ∧ j ≠ i := fun j x q n => by
    by_cases c : i = j
    · subst c
      by_cases hi : i < e.length
      · rw [List.getElem?_set_self hi] at q; cases q; exact absurd rfl n
      · rw [List.getElem?_eq_none (by rw [List.length_set]; omega)] at q; cases q
    · rw [List.getElem?_set_ne c] at q; exact ⟨q, fun z => c z.symm⟩
  refine ⟨by rw [List.length_set, List.length_set, E.len], fun j x q => ?_, fun j k x y a njk q1 q2 ha hb => E.apart j k x y a njk (f j _ q1 (fun z => by subst z; cases ha)).1 (f k _ q2 (fun z => by subst z; cases hb)).1 ha hb⟩
  by_cases c : x = .un
  · subst c; trivial
  · obtain ⟨h1, h2⟩ := f j x q c
    rw [List.getElem?_set_ne (Ne.symm h2)]
    exact E.ent j x h1
theorem env_wipe {F H : Hp} {s : L2.St} : ∀ (vs : List Nat), Env C F H s e → Env C F H (wipe s vs) (wipeE e vs)
  | [], E => E
  | v :: vs, E => env_forget (env_wipe vs E)
/-- the block's slots are its own -/
def WipeOk (g : TG) (vs : List Nat) : Prop := ∀ (v : V) (s : L2.St) (H : Hp) (Q : L2.St → Hp → Prop), g v (wipe s vs) H Q → g v (wipe s vs) H fun s2 H2 => wipe s2 vs = wipe s vs ∧ Q s2 H2
theorem wipe_set {s : L2.St} {i : Nat} {o : Option V} : ∀ {vs : List Nat}, i ∈ vs → wipe (s.set i o) vs = wipe s vs
  | v :: vs, h => by
    unfold wipe
    by_cases c : i ∈ vs
    · rw [wipe_set c]
    · have hv : i = v := by simpa [c] using h
      subst hv
      have : ∀ (ws : List Nat), i ∉ ws → wipe (s.set i o) ws = (wipe s ws).set i o := fun ws => by
        induction ws with
        | nil => intro _; rfl
        | cons w ws ih =>
          intro hn
          have h1 : i ≠ w := fun z => hn (z ▸ List.mem_cons_self)
          have h2 : i ∉ ws := fun z => hn (List.mem_cons_of_mem _ z)
          unfold wipe
          rw [ih h2, List.set_comm _ _ h1]
      rw [this vs c, List.set_set]
theorem wipe_wipe {s : L2.St} : ∀ {vs : List Nat}, wipe (wipe s vs) vs = wipe s vs := by
  intro vs
  have key : ∀ (ws us : List Nat), (∀ w ∈ ws, w ∈ us) → wipe (wipe s ws) us = wipe s us := fun ws us => by
    induction ws with
    | nil => intro _; rfl
    | cons w ws ih =>
      intro h
      show wipe ((wipe s ws).set w none) us = _
      rw [wipe_set (h w List.mem_cons_self), ih fun z hz => h z (List.mem_cons_of_mem _ hz)]
  exact key vs vs fun _ h => h
theorem wok_name {i : Nat} {vs : List Nat} (h : i ∈ vs) : WipeOk (gName i) vs := fun v s H Q q => ⟨by rw [wipe_set h, wipe_wipe], q⟩
theorem wok_pair {K : PySem.W.Frag} {i j : Nat} {vs : List Nat} (h1 : i ∈ vs) (h2 : j ∈ vs) : WipeOk (gTup K 2 (gCons (gName i) (gCons (gName j) gNil))) vs := fun v s H Q q => by
  obtain ⟨a, xs, e1, h3, h4, w, r, e2, w2, r2, e3, e4, q⟩ := q
  exact ⟨a, xs, e1, h3, h4, w, r, e2, w2, r2, e3, e4, by rw [wipe_set h2, wipe_set h1, wipe_wipe], q⟩
theorem nx_acc {F H F4 H4 : Hp} {p : Addr} {o : HO} (n : Nx F H F4 H4) (hH : H p = none) (hF : F4 p = none) : Nx F H F4 (upd H4 p o) := by
  refine ⟨fun b u _ q => ?_, n.f, fun b u q => ?_, n.ap, fun b q => ?_⟩
  · rw [upd_ne (ne_of_none q hH)]; exact Nx.h0 n b u q
  · rw [upd_ne (ne_of_none q hF)]; exact n.k b u q
  · have c : b ≠ p := fun z => by subst z; exact q hH
    rw [upd_ne c]; exact n.th b q
/-- a callee that took the whole heap as frozen has left what is frozen here as it was -/
theorem nx_all {F H F2 H2 : Hp} (k : Ex F H) (n : Nx H H F2 H2) : Nx F H F H2 := ⟨n.h, Ex.refl F, k.trans (Nx.h0 n), fun _ h _ => h, n.th⟩
/-- [te for g in tl if tt]: each item d of the list gives test (p d) and item (f d) -/
theorem en_lc {tl : TE} {g : TG} {tt : TT} {vs : List Nat} {ds : List PyData} (p : PyData → Bool) (f : PyData → PyData) (hw : WipeOk g vs) (h : EvD C tl e (.list ds)) (hl : ds.length ≤ 50000)
    (step : ∀ d ∈ ds, ∃ e2, TgD C g d (wipeE e vs) e2 ∧ EvT C tt e2 (p d) ∧ (p d = true → EvD C te e2 (f d))) : EvN C (tLc (iList C.K tl) g tt te vs) e ((ds.filter p).map f) := fun s F H k E Q q => h s F H k E _ fun v F1 H1 n1 d1 => by
  obtain ⟨a, xs, rfl, h1, h2⟩ := dp_lst d1
  have E1 := E.nx n1
  have hlen := dpa_len h2
  refine ⟨a, rfl, ⟨xs, .inl (.inl (n1.k _ _ h1))⟩, fun Dl hD => ?_⟩
  have fl : ∀ i, ((ds.take i).filter p).length ≤ ds.length := fun i => Nat.le_trans (List.length_filter_le _ _) (by rw [List.length_take]; omega)
  refine lc_list (xs := xs) (fun i H' => ∃ F' ys, Nx F1 H1 F' H' ∧ F' Dl = none ∧ H' Dl = some (.lst ys) ∧ DqAll F' ys (((ds.take i).filter p).map f)) ⟨F1, [], Nx.mut n1.k hD, ex_free n1.k hD, upd_same, .nil⟩ (fun i H' _ hp => ?_) (fun i x H' hx hp => ?_) (fun H' hp => ?_)
  · obtain ⟨F', ys, n', _⟩ := hp
    exact .inl (.inl (n'.k _ _ (n'.f _ _ h1)))
  · obtain ⟨F', ys, n', g1, g2, g3⟩ := hp
    obtain ⟨d, hd, hdq⟩ := dpa_get2 h2 hx
    have hi : i < ds.length := (List.getElem?_eq_some_iff.mp hd).1
    obtain ⟨e2, hg, ht, he⟩ := step d (List.mem_of_getElem? hd)
    have E' : Env C F' H' (wipe s vs) (wipeE e vs) := env_wipe vs (E1.nx n')
    have etake : ds.take (i + 1) = ds.take i ++ [d] := by rw [List.take_add_one, hd]; rfl
    refine hw _ _ _ _ (hg _ F' H' x n'.k E' (Dq.up hdq n'.f) _ fun s2 E2 => ?_)
    refine ht s2 F' H' n'.k E2 _ fun F3 H3 n3 => ?_
    have gn : F3 Dl = none := n3.ap Dl g1 (ne_some g2)
    have gH : H3 Dl = some (.lst ys) := Nx.h0 n3 _ _ g2
    cases hpd : p d with
    | false =>
      show ∃ F' ys, _
      refine ⟨F3, ys, n'.trans n3, gn, gH, ?_⟩
      rw [etake, List.filter_append]
      simp only [List.filter, hpd, List.append_nil]
      exact DqAll.up g3 n3.f
    | true =>
      show te s2 H3 _
      refine he hpd s2 F3 H3 n3.k (E2.nx n3) _ fun y F4 H4 n4 d4 => ?_
      have gn4 : F4 Dl = none := n4.ap Dl gn (ne_some gH)
      have gH4 : H4 Dl = some (.lst ys) := Nx.h0 n4 _ _ gH
      have n14 := (n'.trans n3).trans n4
      have g4 := DqAll.up g3 (n3.f.trans n4.f)
      refine ⟨ys, gH4, ?_, F4, ys ++ [y], ?_, gn4, upd_same, ?_⟩
      · have := dpa_len g4
        rw [List.length_map] at this
        have := fl i
        exact Evl.sz_lt (by omega)
      · have hH1 : H1 Dl = none := hD
        refine ⟨fun b o _ q => ?_, n14.f, fun b o q => ?_, n14.ap, fun b q => ?_⟩
        · rw [upd_ne (ne_of_none q hH1)]; exact Nx.h0 n14 b o q
        · rw [upd_ne (ne_of_none q gn4)]; exact n14.k b o q
        · have c : b ≠ Dl := fun z => by subst z; exact q hH1
          rw [upd_ne c]; exact n14.th b q
      · rw [etake, List.filter_append, List.map_append]
        simp only [List.filter, hpd, List.map_cons, List.map_nil]
        exact dpa_app g4 (.cons d4 .nil)
  · obtain ⟨F', ys, n', g1, g2, g3⟩ := hp
    have et : ds.take xs.length = ds := by rw [hlen]; exact List.take_length
    rw [et] at g3
    exact q Dl ys F' H' (n1.trans n') (ex_free (Nx.h0 n1) hD) g1 g2 g3

/-! ### comprehensions over a tuple, a range; of a dict -/
theorem en_lcT {tl : TE} {g : TG} {tt : TT} {vs : List Nat} {ds : List PyData} (p : PyData → Bool) (f : PyData → PyData) (hw : WipeOk g vs) (h : EvD C tl e (.tuple ds)) (hl : ds.length ≤ 50000)
    (step : ∀ d ∈ ds, ∃ e2, TgD C g d (wipeE e vs) e2 ∧ EvT C tt e2 (p d) ∧ (p d = true → EvD C te e2 (f d))) : EvN C (tLc (iTup C.K tl) g tt te vs) e ((ds.filter p).map f) := fun s F H k E Q q => h s F H k E _ fun v F1 H1 n1 d1 => by
  obtain ⟨a, xs, rfl, h1, h2⟩ := dp_tup d1
  have E1 := E.nx n1
  have hlen := dpa_len h2
  refine ⟨a, rfl, ⟨xs, .inl (.inl (n1.k _ _ h1))⟩, fun Dl hD => ?_⟩
  have fl : ∀ i, ((ds.take i).filter p).length ≤ ds.length := fun i => Nat.le_trans (List.length_filter_le _ _) (by rw [List.length_take]; omega)
  refine lc_tup (xs := xs) (fun i H' => ∃ F' ys, Nx F1 H1 F' H' ∧ F' Dl = none ∧ H' Dl = some (.lst ys) ∧ DqAll F' ys (((ds.take i).filter p).map f)) ⟨F1, [], Nx.mut n1.k hD, ex_free n1.k hD, upd_same, .nil⟩ (fun i H' _ hp => ?_) (fun i x H' hx hp => ?_) (fun H' hp => ?_)
  · obtain ⟨F', ys, n', _⟩ := hp
    exact .inl (.inl (n'.k _ _ (n'.f _ _ h1)))
  · obtain ⟨F', ys, n', g1, g2, g3⟩ := hp
    obtain ⟨d, hd, hdq⟩ := dpa_get2 h2 hx
    have hi : i < ds.length := (List.getElem?_eq_some_iff.mp hd).1
    obtain ⟨e2, hg, ht, he⟩ := step d (List.mem_of_getElem? hd)
    have E' : Env C F' H' (wipe s vs) (wipeE e vs) := env_wipe vs (E1.nx n')
    have etake : ds.take (i + 1) = ds.take i ++ [d] := by rw [List.take_add_one, hd]; rfl
    refine hw _ _ _ _ (hg _ F' H' x n'.k E' (Dq.up hdq n'.f) _ fun s2 E2 => ?_)
    refine ht s2 F' H' n'.k E2 _ fun F3 H3 n3 => ?_
    have gn : F3 Dl = none := n3.ap Dl g1 (ne_some g2)
    have gH : H3 Dl = some (.lst ys) := Nx.h0 n3 _ _ g2
    cases hpd : p d with
    | false =>
      show ∃ F' ys, _
      refine ⟨F3, ys, n'.trans n3, gn, gH, ?_⟩
      rw [etake, List.filter_append]
      simp only [List.filter, hpd, List.append_nil]
      exact DqAll.up g3 n3.f
    | true =>
      show te s2 H3 _
      refine he hpd s2 F3 H3 n3.k (E2.nx n3) _ fun y F4 H4 n4 d4 => ?_
      have gn4 : F4 Dl = none := n4.ap Dl gn (ne_some gH)
      have gH4 : H4 Dl = some (.lst ys) := Nx.h0 n4 _ _ gH
      have n14 := (n'.trans n3).trans n4
      have g4 := DqAll.up g3 (n3.f.trans n4.f)
      refine ⟨ys, gH4, ?_, F4, ys ++ [y], nx_acc n14 hD gn4, gn4, upd_same, ?_⟩
      · have := dpa_len g4
        rw [List.length_map] at this
        have := fl i
        exact Evl.sz_lt (by omega)
      · rw [etake, List.filter_append, List.map_append]
        simp only [List.filter, hpd, List.map_cons, List.map_nil]
        exact dpa_app g4 (.cons d4 .nil)
  · obtain ⟨F', ys, n', g1, g2, g3⟩ := hp
    have et : ds.take xs.length = ds := by rw [hlen]; exact List.take_length
    rw [et] at g3
    exact q Dl ys F' H' (n1.trans n') (ex_free (Nx.h0 n1) hD) g1 g2 g3
/-- a new dict -/
def EvM (C : Fx) (t : TE) (e : En) (kvs : List (Key × V)) : Prop := ∀ s F H, Ex F H → Env C F H s e → ∀ Q : VK, (∀ p F2 H2, Nx F H F2 H2 → H p = none → F2 p = none → H2 p = some (.dK kvs) → Q (.ref p) H2) → t s H Q
theorem dc_list {a : Addr} {xs : List V} {g : TG} {tt : TT} {tk tv : TE} {vs : List Nat} {s : L2.St} {H1 : Hp} {Dl : Addr} {Qd : Hp → Prop} (Pv : Nat → Hp → Prop) (h0 : Pv 0 (upd H1 Dl (.dK []))) (hl : ∀ i H, i ≤ xs.length → Pv i H → SqL K H a xs)
    (hs : ∀ i x H, xs[i]? = some x → Pv i H → g x (wipe s vs) H fun s2 H2 => wipe s2 vs = wipe s vs ∧ tt s2 H2 fun b H3 =>
      if b = true then tk s2 H3 fun y H4 => tv s2 H4 fun z H5 => ∃ kvs k, y = kV k ∧ H5 Dl = some (.dK kvs) ∧ kvs.length < sizeLine ∧ Pv (i + 1) (upd H5 Dl (.dK (putK kvs k z))) else Pv (i + 1) H3) (hd : ∀ H, Pv xs.length H → Qd H) :
    ∃ W : Nat → Nat → Hp → Prop, (∃ m, W 0 m (upd H1 Dl (.dK []))) ∧ ∀ i m H, W i m H →
      ((Itl K a).stop i H ∧ Qd H) ∨ ((Itl K a).go i H ∧ ∃ Nx : Hp → Prop, (∀ H', Nx H' → ∃ m', m' < m ∧ W (i + 1) m' H') ∧ ∀ x H', (Itl K a).yld i H x H' → g x (wipe s vs) H' fun s2 H2 => wipe s2 vs = wipe s vs ∧ tt s2 H2 fun b H3 =>
        if b = true then tk s2 H3 fun y H4 => tv s2 H4 fun z H5 => ∃ kvs k, y = kV k ∧ H5 Dl = some (.dK kvs) ∧ kvs.length < sizeLine ∧ Nx (upd H5 Dl (.dK (putK kvs k z))) else Nx H3) := by
  refine ⟨fun i m H => m + i = xs.length ∧ Pv i H, ⟨xs.length, by omega, h0⟩, fun i m H hw => ?_⟩
  obtain ⟨em, p⟩ := hw
  have sq := hl i H (by omega) p
  cases m with
  | zero => exact .inl ⟨⟨xs, sq, by omega⟩, hd H (by have : i = xs.length := by omega
                                                     rw [← this]; exact p)⟩
  | succ m =>
    have hi : i < xs.length := by omega
    refine .inr ⟨⟨xs, xs[i], sq, List.getElem?_eq_getElem hi⟩, Pv (i + 1), fun H' p' => ⟨m, by omega, by omega, p'⟩, fun x H' y => ?_⟩
    obtain ⟨rfl, y⟩ := y
    exact hs i x _ (y xs sq) p
/-- {kx: vx for g in tl}: keys ints, values scalars -/
theorem em_dc {tl tk tv : TE} {g : TG} {vs : List Nat} {ds : List PyData} (kf : PyData → Int) (vf : PyData → PyData) (hw : WipeOk g vs) (h : EvD C tl e (.list ds)) (hl : ds.length ≤ 50000) (hf : ∀ d ∈ ds, flatD (vf d) = true)
    (step : ∀ d ∈ ds, ∃ e2, TgD C g d (wipeE e vs) e2 ∧ EvD C tk e2 (.int (kf d)) ∧ EvD C tv e2 (vf d)) : EvM C (tDc (iList C.K tl) g tYes tk tv vs) e (ds.foldl (fun acc d => putK acc (.inl (kf d)) (toV (vf d))) []) := fun s F H k E Q q => h s F H k E _ fun v F1 H1 n1 d1 => by
  obtain ⟨a, xs, rfl, h1, h2⟩ := dp_lst d1
  have E1 := E.nx n1
  have hlen := dpa_len h2
  refine ⟨a, rfl, ⟨xs, .inl (.inl (n1.k _ _ h1))⟩, fun Dl hD => ?_⟩
  have fl : ∀ (l : List PyData) (acc : List (Key × V)), (l.foldl (fun acc d => putK acc (.inl (kf d)) (toV (vf d))) acc).length ≤ acc.length + l.length := fun l => by
    induction l with
    | nil => intro acc; exact Nat.le_refl _
    | cons x l ih =>
      intro acc
      have h1 := ih (putK acc (.inl (kf x)) (toV (vf x)))
      have h2 := length_putK acc (Sum.inl (kf x)) (toV (vf x))
      rw [List.foldl_cons, List.length_cons]
      omega
  refine dc_list (xs := xs) (fun i H' => ∃ F', Nx F1 H1 F' H' ∧ F' Dl = none ∧ H' Dl = some (.dK ((ds.take i).foldl (fun acc d => putK acc (.inl (kf d)) (toV (vf d))) []))) ⟨F1, Nx.mut n1.k hD, ex_free n1.k hD, upd_same⟩ (fun i H' _ hp => ?_) (fun i x H' hx hp => ?_) (fun H' hp => ?_)
  · obtain ⟨F', n', _⟩ := hp
    exact .inl (.inl (n'.k _ _ (n'.f _ _ h1)))
  · obtain ⟨F', n', g1, g2⟩ := hp
    obtain ⟨d, hd, hdq⟩ := dpa_get2 h2 hx
    have hi : i < ds.length := (List.getElem?_eq_some_iff.mp hd).1
    obtain ⟨e2, hg, hk, hv⟩ := step d (List.mem_of_getElem? hd)
    have E' : Env C F' H' (wipe s vs) (wipeE e vs) := env_wipe vs (E1.nx n')
    have etake : ds.take (i + 1) = ds.take i ++ [d] := by rw [List.take_add_one, hd]; rfl
    refine hw _ _ _ _ (hg _ F' H' x n'.k E' (Dq.up hdq n'.f) _ fun s2 E2 => ?_)
    show tk s2 H' _
    refine hk s2 F' H' n'.k E2 _ fun y F3 H3 n3 d3 => ?_
    refine hv s2 F3 H3 n3.k (E2.nx n3) _ fun z F4 H4 n4 d4 => ?_
    have n34 := n3.trans n4
    have gn4 : F4 Dl = none := n34.ap Dl g1 (ne_some g2)
    have gH4 := Nx.h0 n34 _ _ g2
    have hz := dq_flat d4 (hf d (List.mem_of_getElem? hd))
    cases d3
    refine ⟨_, .inl (kf d), rfl, gH4, Evl.sz_lt ?_, F4, nx_acc (n'.trans n34) hD gn4, gn4, ?_⟩
    · have := fl (ds.take i) []
      rw [List.length_take, List.length_nil] at this
      omega
    · rw [etake, List.foldl_append, upd_same, hz]
      rfl
  · obtain ⟨F', n', g1, g2⟩ := hp
    have et : ds.take xs.length = ds := by rw [hlen]; exact List.take_length
    rw [et] at g2
    exact q Dl F' H' (n1.trans n') (ex_free (Nx.h0 n1) hD) g1 g2
theorem env_putM {F H : Hp} {s : L2.St} {i : Nat} {p : Addr} {kvs : List (Key × V)} (E : Env C F H s e) (hi : i < e.length) (h1 : F p = none) (h2 : C.M p ∨ C.H0 p = none) (h3 : H p = some (.dK kvs)) (hn : ¬ Ow e p) : Env C F H (s.set i (some (.ref p))) (e.set i (.dic p kvs)) := E.putE hi ⟨rfl, h1, h2, h3⟩ fun j x a _ q w z => by
  cases w
  exact hn ⟨j, x, q, z⟩
theorem a_asgM {D : Ends} {s : L2.St} {H B : Hp} {i : Nat} {kvs : List (Key × V)} (h : EvM C te e kvs) (k : ∀ p s H, At C B (e.set i (.dic p kvs)) s H → D.nx s H) (A : At C B e s H) (hi : Nat.ble (i + 1) e.length = true := by rfl) : tAsg te (gName i) D s H := by
  obtain ⟨F, n, b, E⟩ := A
  exact h s F H n.k E _ fun p F2 H2 n2 h1 h2 h3 => k p _ _ ⟨F2, n.trans n2.toM, b.trans n2.f, env_putM (E.nx n2) (Nat.le_of_ble_eq_true hi) h2 (.inr (base_free n h1)) h3 fun w => (ow_some E w).2.2 h1⟩
theorem ev_din {i : Nat} {a : Addr} {kvs : List (Key × V)} {n : Int} (ha : EvB C ta e (.int n)) (hi : e[i]? = some (.dic a kvs)) : EvD C (tDIn ta (tVar i)) e (.bool (valV kvs (.inl n)).isSome) := fun s F H k E Q q => ha s F H k E _ fun v F1 H1 n1 d1 => by
  cases d1
  obtain ⟨h1, _, _, h4⟩ := (E.nx n1).ent i _ hi
  exact ⟨_, h1, a, _, rfl, DGet.k (k := .inl n) h4, q _ F1 H1 n1 (.bl _)⟩

/-! ### comprehensions without a test -/
theorem et_yes : EvT C tYes e true := fun s F H k E Q q => q F H (NxM.refl k)
theorem filter_tt {α : Type} (l : List α) : l.filter (fun _ => true) = l := by
  induction l with
  | nil => rfl
  | cons a l ih => rw [List.filter_cons, if_pos rfl, ih]
theorem en_lc0 {tl : TE} {g : TG} {vs : List Nat} {ds : List PyData} (f : PyData → PyData) (hw : WipeOk g vs) (h : EvD C tl e (.list ds)) (hl : ds.length ≤ 50000)
    (step : ∀ d ∈ ds, ∃ e2, TgD C g d (wipeE e vs) e2 ∧ EvD C te e2 (f d)) : EvN C (tLc (iList C.K tl) g tYes te vs) e (ds.map f) := by
  have h2 := en_lc (te := te) (tt := tYes) (fun _ => true) f hw h hl (fun d hd => let ⟨e2, a, b⟩ := step d hd; ⟨e2, a, et_yes, fun _ => b⟩)
  rw [filter_tt] at h2
  exact h2
theorem en_lcT0 {tl : TE} {g : TG} {vs : List Nat} {ds : List PyData} (f : PyData → PyData) (hw : WipeOk g vs) (h : EvD C tl e (.tuple ds)) (hl : ds.length ≤ 50000)
    (step : ∀ d ∈ ds, ∃ e2, TgD C g d (wipeE e vs) e2 ∧ EvD C te e2 (f d)) : EvN C (tLc (iTup C.K tl) g tYes te vs) e (ds.map f) := by
  have h2 := en_lcT (te := te) (tt := tYes) (fun _ => true) f hw h hl (fun d hd => let ⟨e2, a, b⟩ := step d hd; ⟨e2, a, et_yes, fun _ => b⟩)
  rw [filter_tt] at h2
  exact h2
theorem ev_allC {ds : List PyData} {g : PyData → Bool} (h : EvN C te e (ds.map fun d => .bool (g d))) : EvD C (tCB (rAll C.K) (tCons te tNil)) e (.bool (ds.all g)) := by
  have h1 : EvB C te e (.list ((ds.map g).map .bool)) := by rw [List.map_map]; exact h.dat.b
  have h2 := ev_all h1
  have e3 : (ds.map g).all id = ds.all g := by rw [List.all_map]; rfl
  rw [e3] at h2
  exact h2
theorem ev_anyC {ds : List PyData} {g : PyData → Bool} (h : EvN C te e (ds.map fun d => .bool (g d))) : EvD C (tCB (rAny C.K) (tCons te tNil)) e (.bool (ds.any g)) := by
  have h1 : EvB C te e (.list ((ds.map g).map .bool)) := by rw [List.map_map]; exact h.dat.b
  have h2 := ev_any h1
  have e3 : (ds.map g).any id = ds.any g := by rw [List.any_map]; rfl
  rw [e3] at h2
  exact h2
theorem et_or2 {a b c : Bool} (h1 : EvT C t e a) (h2 : a = false → EvT C u e b) (hc : (a || b) = c) : EvT C (tOr t u) e c := hc ▸ et_or h1 h2
theorem et_and2 {a b c : Bool} (h1 : EvT C t e a) (h2 : a = true → EvT C u e b) (hc : (a && b) = c) : EvT C (tAnd t u) e c := hc ▸ et_and h1 h2
theorem ev_and2 {a b c : Bool} (h1 : EvB C ta e (.bool a)) (h2 : a = true → EvD C tb e (.bool b)) (hc : (a && b) = c) : EvD C (tAndV ta tb) e (.bool c) := hc ▸ ev_andV h1 h2
theorem ev_or2 {a b c : Bool} (h1 : EvB C ta e (.bool a)) (h2 : a = false → EvD C tb e (.bool b)) (hc : (a || b) = c) : EvD C (tOrV ta tb) e (.bool c) := hc ▸ ev_orV h1 h2

theorem at0 {α : Type} {a : α} {l : List α} : atI (a :: l) 0 = some a := by
  unfold atI ixN
  rw [if_pos (Int.le_refl 0), if_pos (by rw [List.length_cons]; omega)]
  rfl
theorem at1 {α : Type} {a b : α} {l : List α} : atI (a :: b :: l) 1 = some b := by
  unfold atI ixN
  rw [if_pos (by decide), if_pos (by rw [List.length_cons, List.length_cons]; omega)]
  rfl
theorem at2 {α : Type} {a b c : α} {l : List α} : atI (a :: b :: c :: l) 2 = some c := by
  unfold atI ixN
  rw [if_pos (by decide), if_pos (by rw [List.length_cons, List.length_cons, List.length_cons]; omega)]
  rfl
theorem at3 {α : Type} {a b c d : α} {l : List α} : atI (a :: b :: c :: d :: l) 3 = some d := by
  unfold atI ixN
  rw [if_pos (by decide), if_pos (by rw [List.length_cons, List.length_cons, List.length_cons, List.length_cons]; omega)]
  rfl
theorem at_n {α : Type} {l : List α} {i : Int} {j : Nat} {a : α} (h : l[j]? = some a) (hi : i = (j : Int)) : atI l i = some a := by
  subst hi
  exact atI_nat h
/-- the items of a written tuple, a job's parts -/
theorem ev_t0 {ds : List PyData} (h : EvD C ta e (.tuple (d :: ds))) : EvD C (tOp (rIxT C.K) ta (tC (.int 0))) e d := ev_ixT h ev_int at0
theorem ev_t1 {ds : List PyData} (h : EvD C ta e (.tuple (x :: d :: ds))) : EvD C (tOp (rIxT C.K) ta (tC (.int 1))) e d := ev_ixT h ev_int at1
theorem ev_t2 {ds : List PyData} (h : EvD C ta e (.tuple (x :: y :: d :: ds))) : EvD C (tOp (rIxT C.K) ta (tC (.int 2))) e d := ev_ixT h ev_int at2
theorem ev_t3 {ds : List PyData} (h : EvD C ta e (.tuple (x :: y :: z :: d :: ds))) : EvD C (tOp (rIxT C.K) ta (tC (.int 3))) e d := ev_ixT h ev_int at3

/-! ### the same, something behind -/
section
variable {D : Ends} {tu tw tz : TS} {s : L2.St} {H B : Hp}
theorem q_asg {i : Nat} (h : EvD C te e d) (k : ∀ s H, At C B (e.set i (.dat d)) s H → tz D s H) (A : At C B e s H) (hi : Nat.ble (i + 1) e.length = true := by rfl) : tSeq (tAsg te (gName i)) tz D s H := a_asg (D := { D with nx := tz D }) h k A hi
theorem q_asgX {i : Nat} {P : PyData → En → Prop} (h : EvX C te e P) (hi : ∀ d e2, P d e2 → i < e2.length) (k : ∀ d e2, P d e2 → ∀ s H, At C B (e2.set i (.dat d)) s H → tz D s H) (A : At C B e s H) : tSeq (tAsg te (gName i)) tz D s H := a_asgX (D := { D with nx := tz D }) h hi k A
theorem q_asgN {i : Nat} {ds : List PyData} (h : EvN C te e ds) (k : ∀ p s H, At C B (e.set i (.own p ds)) s H → tz D s H) (A : At C B e s H) (hi : Nat.ble (i + 1) e.length = true := by rfl) : tSeq (tAsg te (gName i)) tz D s H := a_asgN (D := { D with nx := tz D }) h k A hi
theorem q_asgXN {i : Nat} {P : List PyData → En → Prop} (h : EvXN C te e P) (hi : ∀ d e2, P d e2 → i < e2.length) (k : ∀ ds e2, P ds e2 → ∀ p s H, At C B (e2.set i (.own p ds)) s H → tz D s H) (A : At C B e s H) : tSeq (tAsg te (gName i)) tz D s H := a_asgXN (D := { D with nx := tz D }) h hi k A
theorem q_asgM {i : Nat} {kvs : List (Key × V)} (h : EvM C te e kvs) (k : ∀ p s H, At C B (e.set i (.dic p kvs)) s H → tz D s H) (A : At C B e s H) (hi : Nat.ble (i + 1) e.length = true := by rfl) : tSeq (tAsg te (gName i)) tz D s H := a_asgM (D := { D with nx := tz D }) h k A hi
theorem q_asgG {g : TG} {e2 : En} (h : EvD C te e d) (hg : TgD C g d e e2) (k : ∀ s H, At C B e2 s H → tz D s H) (A : At C B e s H) : tSeq (tAsg te g) tz D s H := a_asgG (D := { D with nx := tz D }) h hg k A
theorem q_if {b : Bool} (h : EvT C t e b) (h1 : b = true → ∀ s H, At C B e s H → tu { D with nx := tz D } s H) (h2 : b = false → ∀ s H, At C B e s H → tw { D with nx := tz D } s H) (A : At C B e s H) : tSeq (tIfS t tu tw) tz D s H := a_if (D := { D with nx := tz D }) h h1 h2 A
theorem q_ifX {P : Bool → En → Prop} (h : EvXT C t e P) (h1 : ∀ e2, P true e2 → ∀ s H, At C B e2 s H → tu { D with nx := tz D } s H) (h2 : ∀ e2, P false e2 → ∀ s H, At C B e2 s H → tw { D with nx := tz D } s H) (A : At C B e s H) : tSeq (tIfS t tu tw) tz D s H := a_ifX (D := { D with nx := tz D }) h h1 h2 A
/-- an if without else -/
theorem q_when {b : Bool} (h : EvT C t e b) (h1 : b = true → ∀ s H, At C B e s H → tu { D with nx := tz D } s H) (h2 : b = false → ∀ s H, At C B e s H → tz D s H) (A : At C B e s H) : tSeq (tIfS t tu tNext) tz D s H := a_if (D := { D with nx := tz D }) (tw := tNext) h h1 h2 A
theorem a_when {b : Bool} (h : EvT C t e b) (h1 : b = true → ∀ s H, At C B e s H → tu D s H) (h2 : b = false → ∀ s H, At C B e s H → D.nx s H) (A : At C B e s H) : tIfS t tu tNext D s H := a_if (tw := tNext) h h1 h2 A
theorem q_drop (h : EvD C te e d) (k : ∀ s H, At C B e s H → tz D s H) (A : At C B e s H) : tSeq (tDrop te) tz D s H := a_drop (D := { D with nx := tz D }) h k A
theorem q_dropX {P : PyData → En → Prop} (h : EvX C te e P) (k : ∀ d e2, P d e2 → ∀ s H, At C B e2 s H → tz D s H) (A : At C B e s H) : tSeq (tDrop te) tz D s H := a_dropX (D := { D with nx := tz D }) h k A
theorem q_app {i : Nat} {a : Addr} {ds : List PyData} (q : e[i]? = some (.own a ds)) (h : EvD C te e d) (hz : ds.length < 100000) (k : ∀ s H, At C B (e.set i (.own a (ds ++ [d]))) s H → tz D s H) (A : At C B e s H) :
    tSeq (tDrop (tBM C.K "list" rAppend (tVar i) (tCons te tNil))) tz D s H := a_app (D := { D with nx := tz D }) q h hz k A
theorem q_setO {i j : Nat} {a : Addr} {ds : List PyData} (q : e[i]? = some (.own a ds)) (h : EvD C te e d) (hb : EvD C tb e (.int (j : Int))) (hj : j < ds.length) (k : ∀ s H, At C B (e.set i (.own a (ds.set j d))) s H → tz D s H) (A : At C B e s H) :
    tSeq (tAsg te (gSub (tVar i) tb rSetL)) tz D s H := a_setO (D := { D with nx := tz D }) q h hb hj k A
theorem q_for {tl : TE} {g : TG} {ds : List PyData} (I : Nat → En → Prop) (h : EvD C tl e (.list ds)) (I0 : I 0 e)
    (step : ∀ B' i d e', ds[i]? = some d → I i e' → ∃ e2, TgD C g d e' e2 ∧ ∀ s H, At C B' e2 s H → tu { D with nx := NxI C B' I (i + 1), ct := NxI C B' I (i + 1), bk := tz D } s H)
    (done : ∀ e', I ds.length e' → ∀ s H, At C B e' s H → tz D s H) (A : At C B e s H) : tSeq (tFor (iList C.K tl) g tu) tz D s H := a_for (D := { D with nx := tz D }) I h I0 step done A
theorem q_forR1 {ta : TA} {j : Nat} {m : Int} (I : Nat → En → Prop) (h : EvA C ta e [.int m]) (hm : -1000000 ≤ m ∧ m ≤ 1000000) (I0 : I 0 e) (hj : ∀ i e', I i e' → j < e'.length)
    (step : ∀ (i : Nat) e', (i : Int) < m → I i e' → ∀ s H, At C B (e'.set j (.dat (.int (i : Int)))) s H → tu { D with nx := NxI C B I (i + 1), ct := NxI C B I (i + 1), bk := tz D } s H)
    (done : ∀ e', I m.toNat e' → ∀ s H, At C B e' s H → tz D s H) (A : At C B e s H) : tSeq (tFor (iRng1 ta) (gName j) tu) tz D s H := a_forR1 (D := { D with nx := tz D }) I h hm.2 I0 hj step done hm.1 A
theorem q_forR2 {ta : TA} {j : Nat} {lo m : Int} (I : Nat → En → Prop) (h : EvA C ta e [.int lo, .int m]) (hm : -1000000 ≤ lo ∧ lo ≤ 1000000 ∧ -1000000 ≤ m ∧ m ≤ 1000000) (I0 : I 0 e) (hj : ∀ i e', I i e' → j < e'.length)
    (step : ∀ (i : Nat) e', lo + (i : Int) < m → I i e' → ∀ s H, At C B (e'.set j (.dat (.int (lo + (i : Int))))) s H → tu { D with nx := NxI C B I (i + 1), ct := NxI C B I (i + 1), bk := tz D } s H)
    (done : ∀ e', I (m - lo).toNat e' → ∀ s H, At C B e' s H → tz D s H) (A : At C B e s H) : tSeq (tFor (iRng2 ta) (gName j) tu) tz D s H := a_forR2 (D := { D with nx := tz D }) I h hm I0 hj step done A
theorem q_while (I : Nat → En → Prop) (m0 : Nat) (I0 : I m0 e)
    (step : ∀ m e', I m e' → ∃ b, EvT C t e' b ∧ (b = true → ∀ s H, At C B e' s H → tu { D with nx := fun s H => ∃ m', m' < m ∧ NxI C B I m' s H, ct := fun s H => ∃ m', m' < m ∧ NxI C B I m' s H, bk := tz D } s H) ∧ (b = false → ∀ s H, At C B e' s H → tz D s H))
    (A : At C B e s H) : tSeq (tWhile t tu) tz D s H := a_while (D := { D with nx := tz D }) I m0 I0 step A
theorem q_whileX (I : Nat → En → Prop) (m0 : Nat) (I0 : I m0 e)
    (step : ∀ m e', I m e' → ∃ P : Bool → En → Prop, EvXT C t e' P ∧ (∀ e2, P true e2 → ∀ s H, At C B e2 s H → tu { D with nx := fun s H => ∃ m', m' < m ∧ NxI C B I m' s H, ct := fun s H => ∃ m', m' < m ∧ NxI C B I m' s H, bk := tz D } s H) ∧ (∀ e2, P false e2 → ∀ s H, At C B e2 s H → tz D s H))
    (A : At C B e s H) : tSeq (tWhile t tu) tz D s H := a_whileX (D := { D with nx := tz D }) I m0 I0 step A
end

/-! ### the rules with the written part named -/
section
variable {X : Cx}
theorem ixL (hK : X.K = K) : IxR X (rIxL K) := hK ▸ ix_list
theorem ixT (hK : X.K = K) : IxR X (rIxT K) := hK ▸ ix_tup
theorem cLen (hK : X.K = K) : CallR X (.builtin "len") (Evl.rLenS K) := hK ▸ call_lenS
theorem cList (hK : X.K = K) : CallR X (.type "list") (Evl.rListS K) := hK ▸ call_listS
theorem cTup (hK : X.K = K) : CallR X (.type "tuple") (rTupS K) := hK ▸ call_tupleS
theorem cIsi (hK : X.K = K) : CallR X (.builtin "isinstance") (rIsi K) := hK ▸ call_isi
theorem cAll (hK : X.K = K) (hc : X.calm = true) : CallR X (.builtin "all") (rAll K) := hK ▸ cr_all hc
theorem cAny (hK : X.K = K) (hc : X.calm = true) : CallR X (.builtin "any") (rAny K) := hK ▸ cr_any hc
theorem cSum (hK : X.K = K) (hc : X.calm = true) : CallR X (.builtin "sum") (rSum K) := hK ▸ cr_sum hc
theorem cMax (hK : X.K = K) (hc : X.calm = true) : CallR X (.builtin "max") (rMax K) := hK ▸ cr_max hc
theorem cMin (hK : X.K = K) (hc : X.calm = true) : CallR X (.builtin "min") (rMin K) := hK ▸ cr_min hc
theorem cSortI (hK : X.K = K) : CallR X (.builtin "sorted") (rSortedI K) := hK ▸ cr_sortedI
theorem oIn (hK : X.K = K) : OpR X (compareOp .In) (rIn K false) := hK ▸ op_in_seq
theorem oNi (hK : X.K = K) : OpR X (compareOp .NotIn) (rIn K true) := hK ▸ op_notIn_seq
theorem oInD (hK : X.K = K) (hu : X.A.units + 65 < cLine) : OpR X (compareOp .In) (rInD K) := hK ▸ op_inD hu
theorem oNiD (hK : X.K = K) (hu : X.A.units + 65 < cLine) : OpR X (compareOp .NotIn) (rNotInD K) := hK ▸ op_notInD hu
theorem oEqD (hK : X.K = K) (hu : X.A.units + 64 < cLine) : OpR X (compareOp .Eq) (rEqD K) := hK ▸ op_eqD hu
theorem oNeD (hK : X.K = K) (hu : X.A.units + 64 < cLine) : OpR X (compareOp .NotEq) (rNeD K) := hK ▸ op_neD hu
theorem slL (hK : X.K = K) : SlR X (rSlL K) := hK ▸ sl_list
theorem slT (hK : X.K = K) : SlR X (rSlA K) := hK ▸ sl_tupA
theorem piL (hK : X.K = K) {tg l : Expr} {tl : TE} (hl : PE X l tl) : PI X tg l (iList K tl) := hK ▸ pi_list hl
theorem piT (hK : X.K = K) {tg l : Expr} {tl : TE} (hl : PE X l tl) : PI X tg l (iTup K tl) := hK ▸ pi_tup hl
theorem piE (hK : X.K = K) {ex : Expr} {ta : TA} {p pos tpos : Pos} {elts : List Expr} {kk : Nat} (hg : Gl X "enumerate") (hm : X.mg "enumerate" = none) (ha : PA X [ex] ta) (hs : starEach [ex] X.env = [(false, eval ex X.env)] := by rfl) :
    PI X (.Tuple elts kk tpos) (.Call (.Name "enumerate" p) [ex] [] pos) (iEnum K ta) := hK ▸ pi_enum hg hm ha hs
theorem pgT (hK : X.K = K) {pos : Pos} {es : List Expr} {k : Nat} {t : TGs} {n : Nat} (hc : X.calm = true) (h : PGs X es t)
    (hn : (assignEach es X.env).length = n := by rfl) (hst : (assignEach es X.env).findIdx? (·.1) = none := by rfl) : PG X (.Tuple es k pos) (gTup K n t) := hK ▸ pg_tup hc h hn hst
theorem mCnt (hK : X.K = K) : MtR X "list.count" (rCntI K) := hK ▸ mt_lcount
def rIns : V → List V → Hp → VK → Prop := fun x vs H Q => ∃ (l : Addr) (xs : List V) (i : Int) (y : V), x = .ref l ∧ vs = [.int i, y] ∧ H l = some (.lst xs) ∧ xs.length < sizeLine ∧ 0 ≤ i ∧ i < 2 ^ 63 ∧
    Q .non (upd H l (.lst (xs.take i.toNat ++ [y] ++ xs.drop i.toNat)))
theorem mIns : MtR X "list.insert" rIns := mt_insert
variable {o ex : Expr} {es : List Expr} {to : TE} {t : TA} {name : Str} {apos cpos : Pos} {T id : String} {r : V → List V → Hp → VK → Prop}
theorem pe_bm0K (hK : X.K = K) (pa : PlainAttrs T) (slot : Slot T name id) (hty : typeOf (.builtin id) = pure (.type "method_descriptor")) (hm : MtR X id r) (ho : PE X o to)
    (hbase : attributeBase o name X.env (eval o X.env) = eval o X.env := by rfl) (hline : (apos.endLine == cpos.line) = true := by rfl) : PE X (.Call (.Attribute o name apos) [] [] cpos) (tBM0 K T r to) := hK ▸ pe_bm0 pa slot hty hm ho hbase hline
theorem pe_bmK (hK : X.K = K) (pa : PlainAttrs T) (slot : Slot T name id) (hty : typeOf (.builtin id) = pure (.type "method_descriptor")) (hm : MtR X id r) (ho : PE X o to) (ha : PA X (ex :: es) t)
    (hbase : attributeBase o name X.env (eval o X.env) = eval o X.env := by rfl)
    (hfew : ((backTo cpos (starEach (ex :: es) X.env)).all (fun x => !x.1) && (backToKw cpos (keywordEach [] X.env)).all (fun x => x.1.isSome)
      && decide ((ex :: es).length + ([] : List Keyword).length + (if ([] : List Keyword).isEmpty then 0 else 1) < 30)) = true := by rfl)
    (hline : (apos.endLine == cpos.line) = true := by rfl) (hs : starEach (ex :: es) X.env = (false, eval ex X.env) :: starEach es X.env := by rfl) (hplain : (backTo cpos (starEach es X.env)).any (·.1) = false := by rfl) :
    PE X (.Call (.Attribute o name apos) (ex :: es) [] cpos) (tBM K T r to t) := hK ▸ pe_bm pa slot hty hm ho ha hbase hfew hline hs hplain
end

/-! ### len(set(xs)), xs a list of tuples of ints -/
section
variable {X : Cx} {P : Program} {w : World}
def rLenT (P : Program) (w : World) : List V → Hp → VK → Prop := fun xs H Q => ∃ (a : Addr) (L : List (Addr × List Int)), xs = [.ref a] ∧ H a = some (SetTO P w a L) ∧ ((L.map (·.2)).Nodup → Q (.int (L.length : Nat)) H)
theorem lenT_fits {L : List (Addr × List Int)} {es : Array (Int × Value)} {t : SetTable} (h3 : TabOk t (L.map fun p => thash P w p.2)) (h5 : t.plain = true) (h7 : L.length * 5 < t.mask * 3) (hs : es.size = L.length) : t.fits es.size = true := by
  have h1 := h3.sz
  rw [List.length_map] at h1
  unfold SetTable.fits SetTable.fill
  rw [h3.dm, Bool.and_eq_true, beq_iff_eq, decide_eq_true_eq]
  show t.place.size = es.size ∧ t.place.size + 0 ≤ t.mask
  omega
theorem cLenT (hP : X.prog = P) (hw : X.w = w) : CallR X (.builtin "len") (rLenT P w) := by
  subst hP hw
  intro pins s σ H xs us Q I r h
  obtain ⟨a, L, rfl, hH, q⟩ := h
  cases r with
  | cons r1 r2 =>
    cases r2
    cases (show _ = Value.ref a from r1)
    obtain ⟨R, _, _⟩ := I.hok a _ hH
    obtain ⟨es, ep, t, ⟨o, ho, hex, hd⟩, h2, h3, h4, h5, h6, h7, h8⟩ := SetT0.ex R
    have hs : es.size = L.length := by
      have h := congrArg List.length h2
      unfold rowsOf at h
      rw [Array.length_toList, List.length_map] at h
      exact h
    have hf : t.fits es.size = true := lenT_fits h3 h5 h7 hs
    refine call_len_set ho hex hd hf (by rw [hs]; omega) ⟨.int (L.length : Nat), H, I.tok _, ⟨_, by rw [hs]⟩, q h4⟩
theorem cSetT (hK : X.K = K) (hP : X.prog = P) (hw : X.w = w) (hc : X.calm = true) (hu : X.A.units + 64 < cLine) : CallR X (.type "set") (rSetOfT K P w) := by
  subst hK hP hw
  exact cr_setOfT hc hu
end
theorem len_le {α : Type} [BEq α] [LawfulBEq α] : ∀ {B A : List α}, A.Nodup → (∀ x ∈ A, x ∈ B) → A.length ≤ B.length
  | [], A, _, h => by
    cases A with
    | nil => exact Nat.le_refl _
    | cons a A => exact absurd (h a List.mem_cons_self) List.not_mem_nil
  | b :: B, A, n, h => by
    have h1 : ∀ x ∈ A.erase b, x ∈ B := fun x hx => by
      have h2 := (List.Nodup.mem_erase_iff n).mp hx
      rcases List.mem_cons.mp (h x h2.2) with c | c
      · exact absurd c h2.1
      · exact c
    have h3 := len_le (n.erase b) h1
    have h4 : A.length ≤ (A.erase b).length + 1 := by
      rw [List.length_erase]
      split <;> omega
    rw [List.length_cons]
    omega
theorem len_lt {α : Type} [BEq α] [LawfulBEq α] : ∀ {B A : List α}, ¬ B.Nodup → A.Nodup → (∀ x ∈ A, x ∈ B) → A.length < B.length
  | [], _, nb, _, _ => absurd List.nodup_nil nb
  | b :: B, A, nb, n, h => by
    rw [List.length_cons]
    by_cases c : b ∈ B
    · have : A.length ≤ B.length := len_le n fun x hx => by
        rcases List.mem_cons.mp (h x hx) with z | z
        · rw [z]; exact c
        · exact z
      omega
    · have nB : ¬ B.Nodup := fun z => nb (List.nodup_cons.mpr ⟨c, z⟩)
      have h1 : ∀ x ∈ A.erase b, x ∈ B := fun x hx => by
        have h2 := (List.Nodup.mem_erase_iff n).mp hx
        rcases List.mem_cons.mp (h x h2.2) with z | z
        · exact absurd z h2.1
        · exact z
      have h3 := len_lt nB (n.erase b) h1
      have h4 : A.length ≤ (A.erase b).length + 1 := by
        rw [List.length_erase]
        split <;> omega
      omega
def ints2 (p : Int × Int) : List Int := [p.1, p.2]
theorem ints2_inj {p q : Int × Int} (h : ints2 p = ints2 q) : p = q := by
  obtain ⟨a, b⟩ := p
  obtain ⟨c, d⟩ := q
  simp [ints2] at h
  obtain ⟨rfl, rfl⟩ := h
  rfl
theorem nodup_map2 {l : List (Int × Int)} : (l.map ints2).Nodup ↔ l.Nodup := by
  constructor
  · intro h
    exact (List.pairwise_map.mp h).imp fun {a b} q z => q (by rw [z])
  · intro h
    exact List.pairwise_map.mpr (h.imp fun {a b} q z => q (ints2_inj z))
theorem dqa_pairs {F : Hp} {f : Int × Int → PyData} (hf : ∀ p, f p = .tuple [.int p.1, .int p.2]) : ∀ {l : List (Int × Int)} {vs : List V}, DqAll F vs (l.map f) → ∃ ks : List (Addr × List Int), vs = ks.map (fun p => V.ref p.1) ∧ ks.map (·.2) = l.map ints2 ∧ ∀ p ∈ ks, F p.1 = some (.tup (p.2.map V.int))
  | [], _, h => by cases h; exact ⟨[], rfl, rfl, fun _ z => nomatch z⟩
  | p :: l, _, h => by
    cases h with
    | cons h1 h2 =>
      obtain ⟨ks, e1, e2, e3⟩ := dqa_pairs hf h2
      rw [hf p] at h1
      obtain ⟨a, xs, rfl, g1, g2⟩ := dp_tup h1
      have hx : xs = [.int p.1, .int p.2] := by
        cases g2 with
        | cons q1 q2 => cases q1; cases q2 with | cons q3 q4 => cases q3; cases q4; rfl
      subst hx
      refine ⟨(a, ints2 p) :: ks, by rw [e1]; rfl, by rw [List.map_cons, e2]; rfl, fun z hz => ?_⟩
      rcases List.mem_cons.mp hz with c | c
      · subst c; exact g1
      · exact e3 z c
theorem ev_lenset {P : Program} {w : World} {f : Int × Int → PyData} {l : List (Int × Int)} (hf : ∀ p, f p = .tuple [.int p.1, .int p.2]) (ha : EvB C ta e (.list (l.map f))) (hb : EvB C tb e (.int (l.length : Int))) (hl : l.length < 64) :
    EvD C (tOp (rI0 fun i j => .bl (decide (i < j))) (tCB (rLenT P w) (tCons (tCB (rSetOfT C.K P w) (tCons ta tNil)) tNil)) tb) e (.bool (!decide l.Nodup)) := fun s F H k E Q q => ha s F H k E _ fun v F1 H1 n1 d1 => by
  obtain ⟨a, xs, rfl, g1, g2⟩ := dp_lst d1
  obtain ⟨ks, rfl, e2, e3⟩ := dqa_pairs hf g2
  have hk : ks.length = l.length := by
    have := congrArg List.length e2
    simpa using this
  refine ⟨a, ks, rfl, .inl (.inl g1), fun p hp => .inl (.inl (e3 p hp)), by omega, fun b L hb0 h1 h2 => ?_⟩
  refine ⟨b, L, rfl, upd_same, fun nd => ?_⟩
  have n2 : Nx F1 H1 F1 (upd H1 b (SetTO P w b L)) := Nx.mut n1.k hb0
  refine hb s F1 _ n2.k ((E.nx n1).nx n2) _ fun u F3 H3 n3 d3 => ?_
  cases d3
  refine ⟨(L.length : Nat), (l.length : Int), rfl, rfl, ?_⟩
  have sub1 : ∀ x ∈ L.map (·.2), x ∈ l.map ints2 := fun x hx => by
    obtain ⟨p, hp, rfl⟩ := List.mem_map.mp hx
    rw [← e2]
    exact List.mem_map.mpr ⟨p, h1 p hp, rfl⟩
  have sub2 : ∀ x ∈ l.map ints2, x ∈ L.map (·.2) := fun x hx => by
    rw [← e2] at hx
    obtain ⟨p, hp, rfl⟩ := List.mem_map.mp hx
    exact h2 p hp
  have el : (L.map (·.2)).length = L.length := List.length_map ..
  have em : (l.map ints2).length = l.length := List.length_map ..
  have fin : decide (((L.length : Nat) : Int) < (l.length : Int)) = !decide l.Nodup := by
    by_cases c : l.Nodup
    · have h3 := len_le (nodup_map2.mpr c) sub2
      rw [decide_eq_true c, decide_eq_false (by omega)]
      rfl
    · have h3 := len_lt (fun z => c (nodup_map2.mp z)) nd sub1
      rw [decide_eq_false c, decide_eq_true (by omega)]
      rfl
  show Q (.bl (decide (((L.length : Nat) : Int) < (l.length : Int)))) H3
  rw [fin]
  exact q _ F3 H3 ((n1.trans n2).trans n3) (.bl _)
end Dd

namespace Dd
open PySem PySem.Spec PyProof.Rows L2
open Evl (Ex)
variable {K : PySem.W.Frag} {C : Fx} {e : En} {ta tb te : TE} {t u : TT} {x y z d : PyData} {r : R2}

/-! ### expressions that draw from a pile: some value of which Post is true; the slots hold what they held -/
def EvP (C : Fx) (t : TE) (e : En) (Post : PyData → Prop) : Prop := ∀ s F H, Ex F H → Env C F H s e → ∀ Q : VK,
  (∀ v d F2 H2, Post d → NxM (Ow e) F H F2 H2 → Env C F2 H2 s e → Dq F2 v d → Q v H2) → t s H Q
def EvPN (C : Fx) (t : TE) (e : En) (Post : List PyData → Prop) : Prop := ∀ s F H, Ex F H → Env C F H s e → ∀ Q : VK,
  (∀ p xs ds F2 H2, Post ds → NxM (Ow e) F H F2 H2 → Env C F2 H2 s e → H p = none → F2 p = none → H2 p = some (.lst xs) → DqAll F2 xs ds → Q (.ref p) H2) → t s H Q
def EvPT (C : Fx) (t : TT) (e : En) (Post : Bool → Prop) : Prop := ∀ s F H, Ex F H → Env C F H s e → ∀ Q : Bool → Hp → Prop,
  (∀ b F2 H2, Post b → NxM (Ow e) F H F2 H2 → Env C F2 H2 s e → Q b H2) → t s H Q
def EvPA (C : Fx) (t : TA) (e : En) (Post : List PyData → Prop) : Prop := ∀ s F H, Ex F H → Env C F H s e → ∀ Q : List V → Hp → Prop,
  (∀ vs ds F2 H2, Post ds → NxM (Ow e) F H F2 H2 → Env C F2 H2 s e → DqAll F2 vs ds → Q vs H2) → t s H Q
theorem EvP.tx {P : PyData → Prop} (h : EvP C te e P) : EvX C te e (fun d e2 => P d ∧ e2 = e) := fun s F H k E Q q => h s F H k E Q fun v d F2 H2 p n E2 d2 => q v d e F2 H2 ⟨p, rfl⟩ n (fun _ z => z) E2 d2
theorem EvPT.tx {P : Bool → Prop} (h : EvPT C t e P) : EvXT C t e (fun b e2 => P b ∧ e2 = e) := fun s F H k E Q q => h s F H k E Q fun b F2 H2 p n E2 => q b e F2 H2 ⟨p, rfl⟩ n (fun _ z => z) E2
theorem EvPN.tx {P : List PyData → Prop} (h : EvPN C te e P) : EvXN C te e (fun d e2 => P d ∧ e2 = e) := fun s F H k E Q q => h s F H k E Q fun p xs ds F2 H2 z n E2 h1 h2 h3 h4 => q p xs ds e F2 H2 ⟨z, rfl⟩ n (fun _ z => z) E2 h1 h2 h3 h4
theorem EvD.tp (h : EvD C te e d) : EvP C te e (· = d) := fun s F H k E Q q => h s F H k E Q fun v F2 H2 n d2 => q v d F2 H2 rfl n.toM (E.nx n) d2
theorem EvT.tp {b : Bool} (h : EvT C t e b) : EvPT C t e (· = b) := fun s F H k E Q q => h s F H k E Q fun F2 H2 n => q b F2 H2 rfl n.toM (E.nx n)
theorem EvN.tp {ds : List PyData} (h : EvN C te e ds) : EvPN C te e (· = ds) := fun s F H k E Q q => h s F H k E Q fun p xs F2 H2 n h1 h2 h3 h4 => q p xs ds F2 H2 rfl n.toM (E.nx n) h1 h2 h3 h4
theorem EvA.tp {t : TA} {ds : List PyData} (h : EvA C t e ds) : EvPA C t e (· = ds) := fun s F H k E Q q => h s F H k E Q fun vs F2 H2 n d2 => q vs ds F2 H2 rfl n.toM (E.nx n) d2
theorem EvP.imp {P P' : PyData → Prop} (h : EvP C te e P) (i : ∀ d, P d → P' d) : EvP C te e P' := fun s F H k E Q q => h s F H k E Q fun v d F2 H2 p => q v d F2 H2 (i d p)
theorem EvPT.imp {P P' : Bool → Prop} (h : EvPT C t e P) (i : ∀ d, P d → P' d) : EvPT C t e P' := fun s F H k E Q q => h s F H k E Q fun b F2 H2 p => q b F2 H2 (i b p)
theorem EvPN.imp {P P' : List PyData → Prop} (h : EvPN C te e P) (i : ∀ d, P d → P' d) : EvPN C te e P' := fun s F H k E Q q => h s F H k E Q fun p xs ds F2 H2 z => q p xs ds F2 H2 (i ds z)
theorem EvPN.dat {P : List PyData → Prop} (h : EvPN C te e P) : EvP C te e (fun d => ∃ ds, d = .list ds ∧ P ds) := fun s F H k E Q q => h s F H k E Q fun p xs ds F2 H2 z n E2 h1 h2 h3 h4 => by
  obtain ⟨a, b⟩ := Nx.frz n.k h3 h2
  have np : ¬ Ow e p := fun w => (ow_some E w).2.2 h1
  have n2 : NxM (Ow e) F H (upd F2 p (.lst xs)) H2 := ⟨n.h, n.f.trans a, b, fun c h5 h6 => by
    have hc : c ≠ p := fun z => by subst z; exact h6 h1
    rw [upd_ne hc]
    exact n.ap c h5 h6, n.th⟩
  refine q (.ref p) (.list ds) (upd F2 p (.lst xs)) H2 ⟨ds, rfl, z⟩ n2 ⟨E2.len, fun i x qx => ?_, E2.apart⟩ (.lst upd_same (DqAll.up h4 a))
  have w := E2.ent i x qx
  have nf : ∀ a, adr x = some a → (upd F2 p (.lst xs)) a = F2 a := fun a ha => upd_ne fun z => np (z ▸ ⟨i, x, qx, ha⟩)
  cases x with
  | un => trivial
  | dat d => obtain ⟨v, w1, w2⟩ := w; exact ⟨v, w1, Dq.up w2 a⟩
  | val v => exact w
  | own b ds => obtain ⟨w1, w2, w3, ys, w4, w5⟩ := w; exact ⟨w1, (nf b rfl).trans w2, w3, ys, w4, DqAll.up w5 a⟩
  | dic b kvs => obtain ⟨w1, w2, w3, w4⟩ := w; exact ⟨w1, (nf b rfl).trans w2, w3, w4⟩
  | pil b => obtain ⟨w1, w2, w3, w4⟩ := w; exact ⟨w1, (nf b rfl).trans w2, w3, w4⟩
theorem ep_op {P1 P2 Post : PyData → Prop} (ha : EvP C ta e P1) (hb : EvP C tb e P2) (hr : ∀ d1 d2, P1 d1 → P2 d2 → ∃ d, RvD C r d1 d2 d ∧ Post d) : EvP C (tOp r ta tb) e Post := fun s F H k E Q q =>
  ha s F H k E _ fun va d1 F1 H1 p1 n1 E1 q1 => hb s F1 H1 n1.k E1 _ fun vb d2 F2 H2 p2 n2 E2 q2 => by
    obtain ⟨d, hd, hp⟩ := hr d1 d2 p1 p2
    exact hd F2 H2 va vb n2.k (Dq.up q1 n2.f) q2 Q fun v F3 H3 n3 q3 => q v d F3 H3 hp ((n1.trans n2).trans n3.toM) (E2.nx n3) q3
theorem RvB.rd (h : RvB C r x y z) : RvD C r x y z := fun F H a b k ha hb Q q => h F H a b k (Dq.up ha k) (Dq.up hb k) Q q
theorem rd_add {i j : Int} : RvD C (rI0 fun i j => .int (i + j)) (.int i) (.int j) (.int (i + j)) := RvB.rd (rv_i0 fun _ => .int _)
theorem rd_sub {i j : Int} : RvD C (rI0 fun i j => .int (i - j)) (.int i) (.int j) (.int (i - j)) := RvB.rd (rv_i0 fun _ => .int _)
theorem rd_mul {i j : Int} (hc : CMul i j) : RvD C (rI CMul fun i j => .int (i * j)) (.int i) (.int j) (.int (i * j)) := RvB.rd (rv_ic hc fun _ => .int _)
theorem rd_lt {i j : Int} : RvD C (rI0 fun i j => .bl (decide (i < j))) (.int i) (.int j) (.bool (decide (i < j))) := RvB.rd (rv_i0 fun _ => .bl _)
theorem rd_eqI {i j : Int} : RvD C rEq (.int i) (.int j) (.bool (decide (i = j))) := fun F H a b k ha hb Q q => by
  cases ha; cases hb
  have h1 : decide (V.int i = V.int j) = decide (i = j) := by simp
  exact ⟨rfl, by rw [h1]; exact q _ F H (NxM.refl k) (.bl _)⟩
theorem rd_ixL {ds : List PyData} {i : Int} (hd : atI ds i = some z) : RvD C (rIxL C.K) (.list ds) (.int i) z := fun F H a b k ha hb Q q => by
  obtain ⟨p, xs, rfl, h1, h2⟩ := dp_lst ha
  cases hb
  obtain ⟨v, h3, h4⟩ := dpa_at h2 hd
  exact ⟨p, xs, i, v, rfl, rfl, .inl (.inl (k _ _ h1)), h3, q v F H (NxM.refl k) h4⟩
theorem epa_nil : EvPA C tNil e (· = []) := ea_nil.tp
theorem epa_cons {tr : TA} {P1 : PyData → Prop} {P2 : List PyData → Prop} (ha : EvP C ta e P1) (hb : EvPA C tr e P2) : EvPA C (tCons ta tr) e (fun ds => ∃ d r, ds = d :: r ∧ P1 d ∧ P2 r) := fun s F H k E Q q =>
  ha s F H k E _ fun v d1 F1 H1 p1 n1 E1 q1 => hb s F1 H1 n1.k E1 _ fun vs ds F2 H2 p2 n2 E2 q2 => q _ _ F2 H2 ⟨d1, ds, rfl, p1, p2⟩ (n1.trans n2) E2 (.cons (Dq.up q1 n2.f) q2)
theorem EvPA.imp {t : TA} {P P' : List PyData → Prop} (h : EvPA C t e P) (i : ∀ d, P d → P' d) : EvPA C t e P' := fun s F H k E Q q => h s F H k E Q fun v d F2 H2 p => q v d F2 H2 (i d p)
def RcD (C : Fx) (r : List V → Hp → VK → Prop) (ds : List PyData) (z : PyData) : Prop := ∀ F H vs, Ex F H → DqAll F vs ds → ∀ Q : VK, (∀ v F2 H2, Nx F H F2 H2 → Dq F2 v z → Q v H2) → r vs H Q
theorem ep_cb {rr : List V → Hp → VK → Prop} {t : TA} {P : List PyData → Prop} {Post : PyData → Prop} (h : EvPA C t e P) (hr : ∀ ds, P ds → ∃ d, RcD C rr ds d ∧ Post d) : EvP C (tCB rr t) e Post := fun s F H k E Q q => h s F H k E _ fun vs ds F1 H1 p1 n1 E1 q1 => by
  obtain ⟨d, hd, hp⟩ := hr ds p1
  exact hd F1 H1 vs n1.k q1 Q fun v F2 H2 n2 q2 => q v d F2 H2 hp (n1.trans n2.toM) (E1.nx n2) q2
theorem rc_max2 {i j : Int} : RcD C rMx2 [.int i, .int j] (.int (max i j)) := fun F H vs k h Q q => by
  have hv : vs = [.int i, .int j] := by
    cases h with
    | cons a b => cases a; cases b with | cons c d => cases c; cases d; rfl
  have h : (if j > i then j else i) = max i j := by rw [Int.max_def]; split <;> split <;> omega
  exact ⟨i, j, hv, by rw [h]; exact q _ F H (NxM.refl k) (.int _)⟩
theorem ept_test {P : PyData → Prop} (h : EvP C te e P) (hb : ∀ d, P d → ∃ b, d = .bool b) : EvPT C (tTest te) e (fun b => P (.bool b)) := fun s F H k E Q q => h s F H k E _ fun v d F1 H1 p1 n1 E1 q1 => by
  obtain ⟨b, rfl⟩ := hb d p1
  cases q1
  exact ⟨b, rfl, q b F1 H1 p1 n1 E1⟩
theorem ept_and {P1 P2 : Bool → Prop} (h1 : EvPT C t e P1) (h2 : EvPT C u e P2) : EvPT C (tAnd t u) e (fun b => (b = false ∧ P1 false) ∨ (P1 true ∧ P2 b)) := fun s F H k E Q q => h1 s F H k E _ fun c F1 H1 p1 n1 E1 => by
  cases c with
  | true => exact h2 s F1 H1 n1.k E1 Q fun b F2 H2 p2 n2 E2 => q b F2 H2 (.inr ⟨p1, p2⟩) (n1.trans n2) E2
  | false => exact q false F1 H1 (.inl ⟨rfl, p1⟩) n1 E1
theorem ept_or {P1 P2 : Bool → Prop} (h1 : EvPT C t e P1) (h2 : EvPT C u e P2) : EvPT C (tOr t u) e (fun b => (b = true ∧ P1 true) ∨ (P1 false ∧ P2 b)) := fun s F H k E Q q => h1 s F H k E _ fun c F1 H1 p1 n1 E1 => by
  cases c with
  | true => exact q true F1 H1 (.inl ⟨rfl, p1⟩) n1 E1
  | false => exact h2 s F1 H1 n1.k E1 Q fun b F2 H2 p2 n2 E2 => q b F2 H2 (.inr ⟨p1, p2⟩) (n1.trans n2) E2
/-- the second operand is asked only then -/
theorem ept_andW {P1 P2 : Bool → Prop} (h1 : EvPT C t e P1) (h2 : P1 true → EvPT C u e P2) : EvPT C (tAnd t u) e (fun b => (b = false ∧ P1 false) ∨ (P1 true ∧ P2 b)) := fun s F H k E Q q => h1 s F H k E _ fun c F1 H1 p1 n1 E1 => by
  cases c with
  | true => exact h2 p1 s F1 H1 n1.k E1 Q fun b F2 H2 p2 n2 E2 => q b F2 H2 (.inr ⟨p1, p2⟩) (n1.trans n2) E2
  | false => exact q false F1 H1 (.inl ⟨rfl, p1⟩) n1 E1
theorem ep_andV {P1 P2 : Bool → Prop} (h1 : EvP C ta e (fun d => ∃ b, d = .bool b ∧ P1 b)) (h2 : P1 true → EvP C tb e (fun d => ∃ b, d = .bool b ∧ P2 b)) : EvP C (tAndV ta tb) e (fun d => ∃ b, d = .bool b ∧ ((b = false ∧ P1 false) ∨ (P1 true ∧ P2 b))) := fun s F H k E Q q => h1 s F H k E _ fun v d F1 H1 p1 n1 E1 q1 => by
  obtain ⟨b, rfl, p1⟩ := p1
  cases q1
  refine ⟨b, rfl, ?_⟩
  cases b with
  | true =>
    refine h2 p1 s F1 H1 n1.k E1 Q fun v d F2 H2 p2 n2 E2 q2 => ?_
    obtain ⟨b, rfl, p2⟩ := p2
    exact q v _ F2 H2 ⟨b, rfl, .inr ⟨p1, p2⟩⟩ (n1.trans n2) E2 q2
  | false => exact q _ _ F1 H1 ⟨false, rfl, .inl ⟨rfl, p1⟩⟩ n1 E1 (.bl _)

/-! ### a def that draws from a pile (its first argument), and hands back data -/
def spP (pre : List PyData → Prop) (post : List PyData → PyData → Prop) : Sp := fun vs H Q E => ∃ F p vs' ds, vs = .ref p :: vs' ∧ Ex F H ∧ F p = none ∧ (∃ n, 0 ≤ n ∧ H p = some (.lst [.int n])) ∧ DqAll F vs' ds ∧ pre ds ∧
  ∀ v d F2 H2, post ds d → NxM (· = p) F H F2 H2 → (∃ n, 0 ≤ n ∧ H2 p = some (.lst [.int n])) → Dq F2 v d → Q v H2
theorem ep_pile {pre : List PyData → Prop} {post : List PyData → PyData → Prop} {i : Nat} {p : Addr} {tr : TA} {P : List PyData → Prop} {XE : XK} (hi : e[i]? = some (.pil p)) (ha : EvPA C tr e P) (hp : ∀ ds, P ds → pre ds) : EvP C (tCall (spP pre post) [] XE (tCons (tVar i) tr)) e (fun d => ∃ ds, P ds ∧ post ds d) := fun s F H k E Q q => by
  obtain ⟨h1, _⟩ := E.ent i _ hi
  refine ⟨_, h1, ha s F H k E _ fun vs ds F1 H1 p1 n1 E1 q1 => ?_⟩
  obtain ⟨_, g2, g3, g4⟩ := E1.ent i _ hi
  refine ⟨F1, p, vs, ds, by simp, n1.k, g2, g4, q1, hp ds p1, fun v d F2 H2 hq n2 hn q2 => ?_⟩
  have hne := ow_some E1 ⟨i, _, hi, rfl⟩
  refine q v d F2 H2 ⟨ds, p1, hq⟩ (n1.trans (n2.to fun a z => by subst z; exact ⟨i, _, hi, rfl⟩)) ⟨E1.len, fun j x qx => ?_, E1.apart⟩ q2
  by_cases c : j = i
  · subst c
    rw [hi] at qx
    cases qx
    exact ⟨h1, n2.ap p g2 hne.2.2, g3, hn⟩
  · refine (E1.ent j x qx).nxm n2 fun a hadr z => ?_
    subst z
    exact E1.apart j i x _ a c qx hi hadr rfl

/-! ### statements -/
section
variable {D : Ends} {tu tw tz : TS} {s : L2.St} {H B : Hp}
theorem a_asgP {i : Nat} {P : PyData → Prop} (h : EvP C te e P) (k : ∀ d, P d → ∀ s H, At C B (e.set i (.dat d)) s H → D.nx s H) (A : At C B e s H) (hi : Nat.ble (i + 1) e.length = true := by rfl) : tAsg te (gName i) D s H :=
  a_asgX h.tx (fun d e2 p => by rw [p.2]; exact Nat.le_of_ble_eq_true hi) (fun d e2 p => by rw [p.2]; exact k d p.1) A
theorem q_asgP {i : Nat} {P : PyData → Prop} (h : EvP C te e P) (k : ∀ d, P d → ∀ s H, At C B (e.set i (.dat d)) s H → tz D s H) (A : At C B e s H) (hi : Nat.ble (i + 1) e.length = true := by rfl) : tSeq (tAsg te (gName i)) tz D s H := a_asgP (D := { D with nx := tz D }) h k A hi
theorem a_asgPN {i : Nat} {P : List PyData → Prop} (h : EvPN C te e P) (k : ∀ ds, P ds → ∀ p s H, At C B (e.set i (.own p ds)) s H → D.nx s H) (A : At C B e s H) (hi : Nat.ble (i + 1) e.length = true := by rfl) : tAsg te (gName i) D s H :=
  a_asgXN h.tx (fun d e2 p => by rw [p.2]; exact Nat.le_of_ble_eq_true hi) (fun d e2 p => by rw [p.2]; exact k d p.1) A
theorem q_asgPN {i : Nat} {P : List PyData → Prop} (h : EvPN C te e P) (k : ∀ ds, P ds → ∀ p s H, At C B (e.set i (.own p ds)) s H → tz D s H) (A : At C B e s H) (hi : Nat.ble (i + 1) e.length = true := by rfl) : tSeq (tAsg te (gName i)) tz D s H := a_asgPN (D := { D with nx := tz D }) h k A hi
theorem a_ifP {P : Bool → Prop} (h : EvPT C t e P) (h1 : P true → ∀ s H, At C B e s H → tu D s H) (h2 : P false → ∀ s H, At C B e s H → tw D s H) (A : At C B e s H) : tIfS t tu tw D s H :=
  a_ifX h.tx (fun e2 p => by rw [p.2]; exact h1 p.1) (fun e2 p => by rw [p.2]; exact h2 p.1) A
theorem a_whenP {P : Bool → Prop} (h : EvPT C t e P) (h1 : P true → ∀ s H, At C B e s H → tu D s H) (h2 : P false → ∀ s H, At C B e s H → D.nx s H) (A : At C B e s H) : tIfS t tu tNext D s H := a_ifP (tw := tNext) h h1 h2 A
theorem q_whenP {P : Bool → Prop} (h : EvPT C t e P) (h1 : P true → ∀ s H, At C B e s H → tu { D with nx := tz D } s H) (h2 : P false → ∀ s H, At C B e s H → tz D s H) (A : At C B e s H) : tSeq (tIfS t tu tNext) tz D s H := a_ifP (D := { D with nx := tz D }) (tw := tNext) h h1 h2 A
theorem a_dropP {P : PyData → Prop} (h : EvP C te e P) (k : ∀ d, P d → ∀ s H, At C B e s H → D.nx s H) (A : At C B e s H) : tDrop te D s H := a_dropX h.tx (fun d e2 p => by rw [p.2]; exact k d p.1) A
theorem a_whileP (I : Nat → En → Prop) (m0 : Nat) (I0 : I m0 e)
    (step : ∀ m e', I m e' → ∃ P : Bool → Prop, EvPT C t e' P ∧ (P true → ∀ s H, At C B e' s H → tu { D with nx := fun s H => ∃ m', m' < m ∧ NxI C B I m' s H, ct := fun s H => ∃ m', m' < m ∧ NxI C B I m' s H, bk := D.nx } s H) ∧ (P false → ∀ s H, At C B e' s H → D.nx s H))
    (A : At C B e s H) : tWhile t tu D s H := a_whileX I m0 I0 (fun m e' hI => by
  obtain ⟨P, ht, h1, h2⟩ := step m e' hI
  exact ⟨_, ht.tx, fun e2 p => by rw [p.2]; exact h1 p.1, fun e2 p => by rw [p.2]; exact h2 p.1⟩) A
theorem q_whileP (I : Nat → En → Prop) (m0 : Nat) (I0 : I m0 e)
    (step : ∀ m e', I m e' → ∃ P : Bool → Prop, EvPT C t e' P ∧ (P true → ∀ s H, At C B e' s H → tu { D with nx := fun s H => ∃ m', m' < m ∧ NxI C B I m' s H, ct := fun s H => ∃ m', m' < m ∧ NxI C B I m' s H, bk := tz D } s H) ∧ (P false → ∀ s H, At C B e' s H → tz D s H))
    (A : At C B e s H) : tSeq (tWhile t tu) tz D s H := a_whileP (D := { D with nx := tz D }) I m0 I0 step A
/-- return, with what the slots hold told -/
theorem a_retP {P : PyData → Prop} (h : EvP C te e P) (k : ∀ v d s F2 H2, P d → NxM C.M C.F0 C.H0 F2 H2 → Env C F2 H2 s e → Dq F2 v d → D.rt v H2) (A : At C B e s H) : tRet te D s H := by
  obtain ⟨F, n, b, E⟩ := A
  exact h s F H n.k E _ fun v d F2 H2 p n2 E2 d2 => k v d s F2 H2 p (nx_ow n E n2) E2 d2
/-- return a list of one's own, frozen -/
theorem a_retF {i : Nat} {a : Addr} {ds : List PyData} (q : e[i]? = some (.own a ds)) (hm : ∀ F H s, Env C F H s e → ¬ C.M a) (k : ∀ v s F2 H2, NxM C.M C.F0 C.H0 F2 H2 → Env C F2 H2 s (e.set i .un) → Dq F2 v (.list ds) → D.rt v H2) (A : At C B e s H) : tRet (tVar i) D s H := by
  obtain ⟨F, n, b, E⟩ := A
  obtain ⟨h1, h2, h3, xs, h4, h5⟩ := E.ent i _ q
  rcases h3 with w | w
  · exact absurd w (hm F H s E)
  · obtain ⟨f1, f2⟩ := Nx.frz n.k h4 h2
    have hi : i < e.length := (List.getElem?_eq_some_iff.mp q).1
    refine ⟨_, h1, k (.ref a) (s.set i none) (upd F a (.lst xs)) H ⟨n.h, n.f.trans f1, f2, fun c h6 h7 => ?_, n.th⟩ ⟨by rw [List.length_set, List.length_set, E.len], fun j x qx => ?_, fun j l x y c njl q1 q2 ha hb => ?_⟩ (.lst upd_same (DqAll.up h5 f1))⟩
    · have hc : c ≠ a := fun z => by subst z; exact h7 w
      rw [upd_ne hc]
      exact n.ap c h6 h7
    · rcases set_cases hi qx with ⟨rfl, rfl⟩ | ⟨c, rx⟩
      · trivial
      · rw [List.getElem?_set_ne (Ne.symm c)]
        have wz := E.ent j x rx
        have nf : ∀ b, adr x = some b → (upd F a (.lst xs)) b = F b := fun b hb => upd_ne fun z => E.apart j i x _ b c rx q hb (by rw [z]; rfl)
        cases x with
        | un => trivial
        | dat d => obtain ⟨v, w1, w2⟩ := wz; exact ⟨v, w1, Dq.up w2 f1⟩
        | val v => exact wz
        | own b ds => obtain ⟨w1, w2, w3, ys, w4, w5⟩ := wz; exact ⟨w1, (nf b rfl).trans w2, w3, ys, w4, DqAll.up w5 f1⟩
        | dic b kvs => obtain ⟨w1, w2, w3, w4⟩ := wz; exact ⟨w1, (nf b rfl).trans w2, w3, w4⟩
        | pil b => obtain ⟨w1, w2, w3, w4⟩ := wz; exact ⟨w1, (nf b rfl).trans w2, w3, w4⟩
    · rcases set_cases hi q1 with ⟨_, rfl⟩ | ⟨c1, r1⟩
      · cases ha
      · rcases set_cases hi q2 with ⟨_, rfl⟩ | ⟨c2, r2⟩
        · cases hb
        · exact E.apart j l x y c njl r1 r2 ha hb
/-- xs.append(e), e drawn -/
theorem a_appP {i : Nat} {a : Addr} {ds : List PyData} {P : PyData → Prop} (q : e[i]? = some (.own a ds)) (h : EvP C te e P) (hz : ds.length < 100000) (k : ∀ d, P d → ∀ s H, At C B (e.set i (.own a (ds ++ [d]))) s H → D.nx s H) (A : At C B e s H) :
    tDrop (tBM C.K "list" rAppend (tVar i) (tCons te tNil)) D s H := by
  obtain ⟨F, n, b, E⟩ := A
  obtain ⟨h1, _, _, xs, h4, _⟩ := E.ent i _ q
  refine ⟨_, h1, .inl ⟨rfl, xs, .inl (.inl h4)⟩, h s F H n.k E _ fun v d F2 H2 p n2 E2 d2 => ?_⟩
  obtain ⟨_, g2, g3, ys, g4, g5⟩ := E2.ent i _ q
  exact ⟨a, ys, v, rfl, rfl, g4, Evl.sz_lt (by rw [dpa_len g5]; exact hz), k d p _ _ ⟨F2, NxM.own (nx_ow n E n2) g3 g2, b.trans n2.f, E2.wr q (dpa_app g5 (.cons d2 .nil))⟩⟩
/-- xs.insert(i, e), both drawn -/
theorem a_insP {i : Nat} {a : Addr} {ds : List PyData} {P : List PyData → Prop} {t : TA} (q : e[i]? = some (.own a ds)) (h : EvPA C t e P) (hz : ds.length < 100000) (hP : ∀ l, P l → ∃ (r : Nat) (d : PyData), l = [.int (r : Int), d] ∧ r ≤ 100000)
    (k : ∀ (r : Nat) (d : PyData), P [.int (r : Int), d] → ∀ s H, At C B (e.set i (.own a (ds.take r ++ [d] ++ ds.drop r))) s H → D.nx s H) (A : At C B e s H) :
    tDrop (tBM C.K "list" rIns (tVar i) t) D s H := by
  obtain ⟨F, n, b, E⟩ := A
  obtain ⟨h1, _, _, xs, h4, _⟩ := E.ent i _ q
  refine ⟨_, h1, .inl ⟨rfl, xs, .inl (.inl h4)⟩, h s F H n.k E _ fun vs l F2 H2 p n2 E2 d2 => ?_⟩
  obtain ⟨r, d, rfl, hr⟩ := hP l p
  obtain ⟨_, g2, g3, ys, g4, g5⟩ := E2.ent i _ q
  cases d2 with
  | cons e1 e2 =>
    cases e1
    cases e2 with
    | cons e3 e4 =>
      cases e4
      refine ⟨a, ys, (r : Int), _, rfl, rfl, g4, Evl.sz_lt (by rw [dpa_len g5]; exact hz), by omega, by omega, ?_⟩
      rw [Int.toNat_natCast]
      exact k r d p _ _ ⟨F2, NxM.own (nx_ow n E n2) g3 g2, b.trans n2.f, E2.wr q (dpa_app (dpa_app (dpa_take r g5) (.cons e3 .nil)) (dpa_drop r g5))⟩
end
/-! ### the entry of a def that draws -/
theorem ent_pil {F H : Hp} {p : Addr} (h1 : F p = none) (h2 : C.M p ∨ C.H0 p = none) (h3 : ∃ n, 0 ≤ n ∧ H p = some (.lst [.int n])) : EntOk C F H (some (some (.ref p))) (.pil p) := ⟨rfl, h1, h2, h3⟩
theorem env_pil {F H : Hp} {s : L2.St} {i : Nat} {p : Addr} (E : Env C F H s e) (q : e[i]? = some (.pil p)) : ∃ n, 0 ≤ n ∧ H p = some (.lst [.int n]) := (E.ent i _ q).2.2.2

/-! ### comprehensions that draw -/
theorem wipe_get {s : L2.St} {i : Nat} : ∀ {vs : List Nat}, i ∉ vs → (wipe s vs)[i]? = s[i]?
  | [], _ => rfl
  | v :: vs, h => by
    unfold wipe
    rw [List.getElem?_set_ne (fun z => h (by rw [z]; exact List.mem_cons_self)), wipe_get fun z => h (List.mem_cons_of_mem _ z)]
theorem env_unwipe {F H : Hp} {s s2 : L2.St} {vs : List Nat} {j : Nat} {w : Ent} (E2 : Env C F H s2 (e.set j w)) (hs : ∀ i, i ∉ vs → s2[i]? = s[i]?) (hl : s.length = e.length) (hun : ∀ i ∈ vs, ∀ x, e[i]? = some x → x = .un) (hj : j ∈ vs) : Env C F H s e := by
  have f : ∀ (i : Nat) x, e[i]? = some x → x ≠ .un → (e.set j w)[i]? = some x ∧ i ∉ vs := fun i x q n => by
    have hi : i ∉ vs := fun z => n (hun i z x q)
    refine ⟨?_, hi⟩
    rw [List.getElem?_set_ne (fun z => hi (by rw [← z]; exact hj))]
    exact q
  refine ⟨hl, fun i x q => ?_, fun i k x y a nik q1 q2 ha hb => ?_⟩
  · by_cases c : x = .un
    · subst c; trivial
    · obtain ⟨h1, h2⟩ := f i x q c
      rw [← hs i h2]
      exact E2.ent i x h1
  · exact E2.apart i k x y a nik (f i x q1 fun z => by subst z; cases ha).1 (f k y q2 fun z => by subst z; cases hb).1 ha hb
theorem env_side {F H : Hp} {s : L2.St} {p : Addr} {o : HO} (E : Env C F H s e) (hn : ¬ Ow e p) : Env C F (upd H p o) s e := ⟨E.len, fun i x q => by
  have w := E.ent i x q
  have nf : ∀ a, adr x = some a → (upd H p o) a = H a := fun a ha => upd_ne fun z => hn (z ▸ ⟨i, x, q, ha⟩)
  cases x with
  | un => trivial
  | dat d => exact w
  | val v => exact w
  | own b ds => obtain ⟨w1, w2, w3, ys, w4, w5⟩ := w; exact ⟨w1, w2, w3, ys, (nf b rfl).trans w4, w5⟩
  | dic b kvs => obtain ⟨w1, w2, w3, w4⟩ := w; exact ⟨w1, w2, w3, (nf b rfl).trans w4⟩
  | pil b => obtain ⟨w1, w2, w3, m, w4, w5⟩ := w; exact ⟨w1, w2, w3, m, w4, (nf b rfl).trans w5⟩, E.apart⟩
theorem ow_set {j : Nat} {w : PyData} {a : Addr} (h : Ow (e.set j (.dat w)) a) : Ow e a := by
  obtain ⟨i, x, q, ha⟩ := h
  by_cases c : j = i
  · subst c
    by_cases hi : j < e.length
    · rw [List.getElem?_set_self hi] at q; cases q; cases ha
    · rw [List.getElem?_eq_none (by rw [List.length_set]; omega)] at q; cases q
  · rw [List.getElem?_set_ne c] at q
    exact ⟨i, x, q, ha⟩
/-- one turn of such a comprehension: the new list stands at Dl -/
theorem lcP_turn {s : L2.St} {vs : List Nat} {j : Nat} {F1 H1 F' H' : Hp} {Dl : Addr} {ys : List V} {ds' : List PyData} {v : V} {w : PyData} {P : PyData → Prop} {Nx' : Hp → Prop} (hD : H1 Dl = none) (E1 : Env C F1 H1 s e) (n' : NxM (Ow e) F1 H1 F' H') (E' : Env C F' H' s e) (g1 : F' Dl = none) (g2 : H' Dl = some (.lst ys)) (g3 : DqAll F' ys ds') (hz : ds'.length < 100000)
    (hj : j ∈ vs) (hje : j < e.length) (hun : ∀ i ∈ vs, ∀ x, e[i]? = some x → x = .un) (hw : wipeE e vs = e) (hv : Dq F' v w) (he : EvP C te (e.set j (.dat w)) P)
    (k : ∀ d F4 H4, P d → NxM (Ow e) F1 H1 F4 H4 → Env C F4 H4 s e → F4 Dl = none → (∃ ys', H4 Dl = some (.lst ys') ∧ DqAll F4 ys' (ds' ++ [d])) → Nx' H4) :
    te ((wipe s vs).set j (some v)) H' fun y H4 => ∃ acc, H4 Dl = some (.lst acc) ∧ acc.length < sizeLine ∧ Nx' (upd H4 Dl (.lst (acc ++ [y]))) := by
  have nD : ¬ Ow e Dl := fun z => (ow_some E1 z).2.2 hD
  have Ew : Env C F' H' (wipe s vs) e := by have := env_wipe vs E'; rw [hw] at this; exact this
  have E2 : Env C F' H' ((wipe s vs).set j (some v)) (e.set j (.dat w)) := Ew.put hje hv
  refine he _ F' H' n'.k E2 _ fun y d F4 H4 p n4 E4 d4 => ?_
  have n4' : NxM (Ow e) F' H' F4 H4 := n4.to fun a z => ow_set z
  have gn : F4 Dl = none := n4.ap Dl g1 (ne_some g2)
  have gH : H4 Dl = some (.lst ys) := n4'.h Dl _ nD g2
  have g4 := DqAll.up g3 n4.f
  have Es : Env C F4 H4 s e := env_unwipe E4 (fun i hi => by rw [List.getElem?_set_ne (fun z => hi (by rw [← z]; exact hj)), wipe_get hi]) E'.len hun hj
  have n14 := n'.trans n4'
  refine ⟨ys, gH, Evl.sz_lt (by rw [dpa_len g4]; exact hz), k d F4 _ p ⟨fun b o hb q => ?_, n14.f, fun b o q => ?_, n14.ap, fun b q => ?_⟩ (env_side Es nD) gn ⟨_, upd_same, dpa_app g4 (.cons d4 .nil)⟩⟩
  · rw [upd_ne (ne_of_none q hD)]; exact n14.h b o hb q
  · rw [upd_ne (ne_of_none q gn)]; exact n14.k b o q
  · have c : b ≠ Dl := fun z => by subst z; exact q hD
    rw [upd_ne c]; exact n14.th b q
/-- [te for x in range(m)], m and the items drawn -/
theorem epn_lcR {tar : TA} {j : Nat} {vs : List Nat} {Pm : Int → Prop} {P : PyData → Prop} (ha : EvPA C tar e (fun ds => ∃ m, ds = [.int m] ∧ Pm m)) (hm : ∀ m, Pm m → 0 ≤ m ∧ m ≤ 50000) (hj : j ∈ vs) (hje : j < e.length) (hun : ∀ i ∈ vs, ∀ x, e[i]? = some x → x = .un) (hw : wipeE e vs = e)
    (he : ∀ i : Int, EvP C te (e.set j (.dat (.int i))) P) : EvPN C (tLc (iRng1 tar) (gName j) tYes te vs) e (fun ds => ∃ m, Pm m ∧ ds.length = m.toNat ∧ ∀ d ∈ ds, P d) := fun s F H k E Q q => ha s F H k E _ fun as ds F1 H1 p1 n1 E1 q1 => by
  obtain ⟨m, rfl, hPm⟩ := p1
  obtain ⟨m0, m1⟩ := hm m hPm
  have hv : as = [.int m] := by
    cases q1 with
    | cons a b => cases a; cases b; rfl
  refine ⟨m, hv, by omega, by omega, fun Dl hD => ?_⟩
  refine lc_range (lo := 0) (n := m.toNat) (fun i H' => ∃ F' ys ds', NxM (Ow e) F1 H1 F' H' ∧ Env C F' H' s e ∧ F' Dl = none ∧ H' Dl = some (.lst ys) ∧ DqAll F' ys ds' ∧ ds'.length = i ∧ ∀ d ∈ ds', P d)
    ⟨F1, [], [], (Nx.mut n1.k hD).toM, env_side E1 (fun z => (ow_some E1 z).2.2 hD), ex_free n1.k hD, upd_same, .nil, rfl, fun _ z => nomatch z⟩ (fun i H' hi hp => ?_) (fun H' hp => ?_)
  · obtain ⟨F', ys, ds', n', E', g1, g2, g3, g4, g5⟩ := hp
    have hset : wipe ((wipe s vs).set j (some (.int ((0 : Int) + (i : Int))))) vs = wipe s vs := by rw [wipe_set hj, wipe_wipe]
    refine ⟨hset, ?_⟩
    show te _ H' _
    refine lcP_turn (Nx' := fun H' => ∃ F' ys ds', NxM (Ow e) F1 H1 F' H' ∧ Env C F' H' s e ∧ F' Dl = none ∧ H' Dl = some (.lst ys) ∧ DqAll F' ys ds' ∧ ds'.length = i + 1 ∧ ∀ d ∈ ds', P d) hD E1 n' E' g1 g2 g3 (by omega) hj hje hun hw (.int _) (he _) fun d F4 H4 p n4 E4 gn hh => ?_
    obtain ⟨ys', w1, w2⟩ := hh
    refine ⟨F4, ys', ds' ++ [d], n4, E4, gn, w1, w2, by rw [List.length_append, g4]; rfl, fun z hz => ?_⟩
    rcases List.mem_append.mp hz with c | c
    · exact g5 z c
    · rw [List.mem_singleton.mp c]; exact p
  · obtain ⟨F', ys, ds', n', E', g1, g2, g3, g4, g5⟩ := hp
    exact q Dl ys ds' F' H' ⟨m, hPm, g4, g5⟩ (n1.trans n') E' (by
      cases c : H Dl with
      | none => rfl
      | some o => exact absurd hD (n1.th Dl (ne_some c))) g1 g2 g3
/-- [te for x in xs], xs frozen, the items drawn -/
theorem epn_lcL {tl : TE} {j : Nat} {vs : List Nat} {xs : List PyData} {P : PyData → PyData → Prop} (ha : EvD C tl e (.list xs)) (hz : xs.length ≤ 50000) (hj : j ∈ vs) (hje : j < e.length) (hun : ∀ i ∈ vs, ∀ x, e[i]? = some x → x = .un) (hw : wipeE e vs = e)
    (he : ∀ x ∈ xs, EvP C te (e.set j (.dat x)) (P x)) : EvPN C (tLc (iList C.K tl) (gName j) tYes te vs) e (fun ds => ds.length = xs.length ∧ ∀ (i : Nat) x d, xs[i]? = some x → ds[i]? = some d → P x d) := fun s F H k E Q q => ha s F H k E _ fun v F1 H1 n1 d1 => by
  obtain ⟨a, us, rfl, h1, h2⟩ := dp_lst d1
  have E1 := E.nx n1
  have hlen := dpa_len h2
  refine ⟨a, rfl, ⟨us, .inl (.inl (n1.k _ _ h1))⟩, fun Dl hD => ?_⟩
  refine lc_list (xs := us) (fun i H' => ∃ F' ys ds', NxM (Ow e) F1 H1 F' H' ∧ Env C F' H' s e ∧ F' Dl = none ∧ H' Dl = some (.lst ys) ∧ DqAll F' ys ds' ∧ ds'.length = i ∧ ∀ (i : Nat) x d, xs[i]? = some x → ds'[i]? = some d → P x d)
    ⟨F1, [], [], (Nx.mut n1.k hD).toM, env_side E1 (fun z => (ow_some E1 z).2.2 hD), ex_free n1.k hD, upd_same, .nil, rfl, fun _ _ _ _ z => by simp at z⟩ (fun i H' _ hp => ?_) (fun i x H' hx hp => ?_) (fun H' hp => ?_)
  · obtain ⟨F', ys, ds', n', _⟩ := hp
    exact .inl (.inl (n'.k _ _ (n'.f _ _ h1)))
  · obtain ⟨F', ys, ds', n', E', g1, g2, g3, g4, g5⟩ := hp
    obtain ⟨d0, hd0, hq0⟩ := dpa_get2 h2 hx
    have hi : i < xs.length := (List.getElem?_eq_some_iff.mp hd0).1
    have hset : wipe ((wipe s vs).set j (some x)) vs = wipe s vs := by rw [wipe_set hj, wipe_wipe]
    refine ⟨hset, ?_⟩
    show te _ H' _
    refine lcP_turn (Nx' := fun H' => ∃ F' ys ds', NxM (Ow e) F1 H1 F' H' ∧ Env C F' H' s e ∧ F' Dl = none ∧ H' Dl = some (.lst ys) ∧ DqAll F' ys ds' ∧ ds'.length = i + 1 ∧ ∀ (i : Nat) x d, xs[i]? = some x → ds'[i]? = some d → P x d) hD E1 n' E' g1 g2 g3 (by omega) hj hje hun hw (Dq.up hq0 n'.f) (he d0 (List.mem_of_getElem? hd0)) fun d F4 H4 p n4 E4 gn hh => ?_
    obtain ⟨ys', w1, w2⟩ := hh
    refine ⟨F4, ys', ds' ++ [d], n4, E4, gn, w1, w2, by rw [List.length_append, g4]; rfl, fun l x' d' hl hd' => ?_⟩
    by_cases c : l < ds'.length
    · rw [List.getElem?_append_left c] at hd'
      exact g5 l x' d' hl hd'
    · rw [List.getElem?_append_right (by omega)] at hd'
      have : l = i := by
        have h3 := (List.getElem?_eq_some_iff.mp hd').1
        simp at h3
        omega
      subst this
      rw [hd0] at hl
      cases hl
      rw [g4, Nat.sub_self] at hd'
      simp at hd'
      subst hd'
      exact p
  · obtain ⟨F', ys, ds', n', E', g1, g2, g3, g4, g5⟩ := hp
    have n1' : NxM (Ow e) F H F1 H1 := n1.toM
    exact q Dl ys ds' F' H' ⟨by omega, g5⟩ (n1'.trans n') E' (ex_free (Nx.h0 n1) hD) g1 g2 g3

theorem nm_pil {F H : Hp} {s : L2.St} {i j : Nat} {a p : Addr} {ds : List PyData} (E : Env C F H s e) (h1 : e[i]? = some (.own a ds)) (h2 : e[j]? = some (.pil p)) (hij : i ≠ j) : ¬ a = p := fun z => E.apart i j _ _ a hij h1 h2 rfl (by rw [z]; rfl)
theorem ent_v {F H : Hp} {v : V} : EntOk C F H (some (some v)) (.val v) := rfl
/-- a, b = e1, e2 -/
theorem a_par {D : Ends} {s : L2.St} {H B : Hp} {i j : Nat} {d1 d2 : PyData} (ha : EvD C ta e d1) (hb : EvD C tb e d2) (k : ∀ s H, At C B ((e.set i (.dat d1)).set j (.dat d2)) s H → D.nx s H) (A : At C B e s H) (hi : Nat.ble (i + 1) e.length = true := by rfl) (hj : Nat.ble (j + 1) e.length = true := by rfl) : tPar i j (tCons ta (tCons tb tNil)) D s H := by
  obtain ⟨F, n, b, E⟩ := A
  refine ha s F H n.k E _ fun v F1 H1 n1 q1 => hb s F1 H1 n1.k (E.nx n1) _ fun w F2 H2 n2 q2 => ?_
  have E2 := (E.nx n1).nx n2
  refine ⟨v, w, rfl, k _ _ ⟨F2, (n.trans n1.toM).trans n2.toM, (b.trans n1.f).trans n2.f, ?_⟩⟩
  exact (E2.put (Nat.le_of_ble_eq_true hi) (Dq.up q1 n2.f)).put (by rw [List.length_set]; exact Nat.le_of_ble_eq_true hj) q2
theorem q_par {D : Ends} {tz : TS} {s : L2.St} {H B : Hp} {i j : Nat} {d1 d2 : PyData} (ha : EvD C ta e d1) (hb : EvD C tb e d2) (k : ∀ s H, At C B ((e.set i (.dat d1)).set j (.dat d2)) s H → tz D s H) (A : At C B e s H) (hi : Nat.ble (i + 1) e.length = true := by rfl) (hj : Nat.ble (j + 1) e.length = true := by rfl) : tSeq (tPar i j (tCons ta (tCons tb tNil))) tz D s H :=
  a_par (D := { D with nx := tz D }) ha hb k A hi hj
theorem q_dropP {D : Ends} {tz : TS} {s : L2.St} {H B : Hp} {P : PyData → Prop} (h : EvP C te e P) (k : ∀ d, P d → ∀ s H, At C B e s H → tz D s H) (A : At C B e s H) : tSeq (tDrop te) tz D s H := a_dropP (D := { D with nx := tz D }) h k A
theorem ept_B {P : PyData → Prop} (h : EvP C te e P) (hb : ∀ d, P d → ∃ b, d = .bool b) : EvPT C (tB te) e (fun b => P (.bool b)) := fun s F H k E Q q => h s F H k E _ fun v d F1 H1 p1 n1 E1 q1 => by
  obtain ⟨b, rfl⟩ := hb d p1
  cases q1
  exact ⟨b, rfl, q b F1 H1 p1 n1 E1⟩

/-- if c: x = e, told by the value that x has behind it -/
theorem set_same {i : Nat} {x : Ent} (h : e[i]? = some x) : e.set i x = e := by
  refine List.ext_getElem? fun j => ?_
  by_cases c : i = j
  · subst c
    rw [List.getElem?_set_self (List.getElem?_eq_some_iff.mp h).1, h]
  · rw [List.getElem?_set_ne c]
theorem q_ifA {D : Ends} {tz : TS} {s : L2.St} {H B : Hp} {i : Nat} {b : Bool} {d0 d1 : PyData} (h : EvT C t e b) (h1 : b = true → EvD C te e d1) (hd : e[i]? = some (.dat d0)) (k : ∀ s H, At C B (e.set i (.dat (if b then d1 else d0))) s H → tz D s H) (A : At C B e s H) (hi : Nat.ble (i + 1) e.length = true := by rfl) : tSeq (tIfS t (tAsg te (gName i)) tNext) tz D s H := by
  cases b with
  | true => exact q_when h (fun hb s H A => a_asg (D := { D with nx := tz D }) (h1 rfl) k A hi) (fun hb => by cases hb) A
  | false =>
    refine q_when h (fun hb => by cases hb) (fun _ s H A => k s H ?_) A
    show At C B (e.set i (.dat d0)) s H
    rw [set_same hd]
    exact A
theorem at_mem {α : Type} {l : List α} {r : Int} (h0 : 0 ≤ r) (h1 : r < (l.length : Int)) : ∃ z, atI l r = some z ∧ z ∈ l := by
  have hl : r.toNat < l.length := by omega
  exact ⟨l[r.toNat], at_n (j := r.toNat) (List.getElem?_eq_getElem hl) (by omega), List.getElem_mem hl⟩
theorem ints_of {P : Int → Prop} : ∀ {ds : List PyData}, (∀ d ∈ ds, ∃ r, d = .int r ∧ P r) → ∃ rs : List Int, ds = rs.map .int ∧ ∀ r ∈ rs, P r
  | [], _ => ⟨[], rfl, fun _ h => nomatch h⟩
  | d :: ds, h => by
    obtain ⟨r, rfl, hr⟩ := h d List.mem_cons_self
    obtain ⟨rs, rfl, hrs⟩ := ints_of (P := P) (ds := ds) fun x hx => h x (List.mem_cons_of_mem _ hx)
    refine ⟨r :: rs, rfl, fun x hx => ?_⟩
    rcases List.mem_cons.mp hx with z | z
    · rw [z]; exact hr
    · exact hrs x z

/-- a list of one's own is frozen from here on -/
theorem at_frz {s : L2.St} {H B : Hp} {i : Nat} {a : Addr} {ds : List PyData} (q : e[i]? = some (.own a ds)) (hm : ∀ F H s, Env C F H s e → ¬ C.M a) (A : At C B e s H) : At C B (e.set i (.dat (.list ds))) s H := by
  obtain ⟨F, n, b, E⟩ := A
  obtain ⟨h1, h2, h3, xs, h4, h5⟩ := E.ent i _ q
  have hi : i < e.length := (List.getElem?_eq_some_iff.mp q).1
  rcases h3 with w | w
  · exact absurd w (hm F H s E)
  · obtain ⟨f1, f2⟩ := Nx.frz n.k h4 h2
    refine ⟨upd F a (.lst xs), ⟨n.h, n.f.trans f1, f2, fun c h6 h7 => ?_, n.th⟩, b.trans f1, by rw [List.length_set]; exact E.len, fun j x qx => ?_, fun j l x y c njl q1 q2 ha hb => ?_⟩
    · have hc : c ≠ a := fun z => by subst z; exact h7 w
      rw [upd_ne hc]
      exact n.ap c h6 h7
    · rcases set_cases hi qx with ⟨rfl, rfl⟩ | ⟨c, rx⟩
      · exact ⟨_, h1, .lst upd_same (DqAll.up h5 f1)⟩
      · have wz := E.ent j x rx
        have nf : ∀ b, adr x = some b → (upd F a (.lst xs)) b = F b := fun b hb => upd_ne fun z => E.apart j i x _ b c rx q hb (by rw [z]; rfl)
        cases x with
        | un => trivial
        | dat d => obtain ⟨v, w1, w2⟩ := wz; exact ⟨v, w1, Dq.up w2 f1⟩
        | val v => exact wz
        | own b ds => obtain ⟨w1, w2, w3, ys, w4, w5⟩ := wz; exact ⟨w1, (nf b rfl).trans w2, w3, ys, w4, DqAll.up w5 f1⟩
        | dic b kvs => obtain ⟨w1, w2, w3, w4⟩ := wz; exact ⟨w1, (nf b rfl).trans w2, w3, w4⟩
        | pil b => obtain ⟨w1, w2, w3, w4⟩ := wz; exact ⟨w1, (nf b rfl).trans w2, w3, w4⟩
    · rcases set_cases hi q1 with ⟨_, rfl⟩ | ⟨c1, r1⟩
      · cases ha
      · rcases set_cases hi q2 with ⟨_, rfl⟩ | ⟨c2, r2⟩
        · cases hb
        · exact E.apart j l x y c njl r1 r2 ha hb
end Dd

namespace Dd
open PySem PySem.Spec PyProof.Rows L2
open Evl (Ex)
variable {K : PySem.W.Frag} {C : Fx} {e : En} {ta tb te : TE} {t u : TT} {x y z d : PyData} {r : R2}

/-! ### data that can be compared and shown: no texts, at most so deep -/
mutual
def plainD : PyData → Bool
  | .none => true
  | .bool _ => true
  | .int i => decide (i.natAbs < 2 ^ 100)
  | .str _ => false
  | .list xs => plainAll xs
  | .tuple xs => plainAll xs
  | .dict _ => false
def plainAll : List PyData → Bool
  | [] => true
  | x :: xs => plainD x && plainAll xs
end
mutual
theorem plain_lay : ∀ d : PyData, plainD d = true → d.canLay0 = true
  | .none, _ => by simp only [PyData.canLay0]
  | .bool _, _ => by simp only [PyData.canLay0]
  | .int _, _ => by simp only [PyData.canLay0]
  | .str _, h => by cases h
  | .list xs, h => by simp only [PyData.canLay0]; exact plain_layAll xs h
  | .tuple xs, h => by simp only [PyData.canLay0]; exact plain_layAll xs h
  | .dict _, h => by cases h
theorem plain_layAll : ∀ xs : List PyData, plainAll xs = true → PyData.canLayAll0 xs = true
  | [], _ => by simp only [PyData.canLayAll0]
  | x :: xs, h => by
    have h' : plainD x = true ∧ plainAll xs = true := by simpa [plainAll] using h
    simp only [PyData.canLayAll0, plain_lay x h'.1, plain_layAll xs h'.2, Bool.and_self]
end
mutual
theorem plain_show : ∀ d : PyData, plainD d = true → d.showable = true
  | .none, _ => by simp only [PyData.showable]
  | .bool _, _ => by simp only [PyData.showable]
  | .int i, h => by
    have h' : i.natAbs < 2 ^ 100 := of_decide_eq_true h
    have : i.natAbs.log2 < 100 := PySem.Flt.log2_lt_of (by decide) h'
    simp only [PyData.showable, decide_eq_true_eq]
    omega
  | .str _, h => by cases h
  | .list xs, h => by simp only [PyData.showable]; exact plain_showAll xs h
  | .tuple xs, h => by simp only [PyData.showable]; exact plain_showAll xs h
  | .dict _, h => by cases h
theorem plain_showAll : ∀ xs : List PyData, plainAll xs = true → PyData.showableAll xs = true
  | [], _ => by simp only [PyData.showableAll]
  | x :: xs, h => by
    have h' : plainD x = true ∧ plainAll xs = true := by simpa [plainAll] using h
    simp only [PyData.showableAll, plain_show x h'.1, plain_showAll xs h'.2, Bool.and_self]
end
/- how many places -/
mutual
def sizeD : PyData → Nat
  | .list xs => sizeAll xs + 1
  | .tuple xs => sizeAll xs + 1
  | _ => 1
def sizeAll : List PyData → Nat
  | [] => 0
  | x :: xs => sizeD x + sizeAll xs
end
theorem int_len {i : Int} (h : i.natAbs < 2 ^ 100) : (PyData.shown (.int i)).length ≤ 41 := by
  have h2 : i.natAbs < 10 ^ 40 := Nat.lt_of_lt_of_le h (by decide)
  have h3 := int_text_length_le10 (k := 40) (by decide) h2
  have e : (PyData.shown (.int i)).length = (toString i).length := by
    show (Str.ofString (toString i)).length = _
    exact PySem.ofString_length _
  omega
theorem shownAll_len : ∀ xs : List PyData, (PyData.shownAll xs).length = xs.length
  | [] => rfl
  | x :: xs => by simp only [PyData.shownAll, List.length_cons, shownAll_len xs]
mutual
theorem shown_len : ∀ d : PyData, plainD d = true → d.shown.length + 2 ≤ 50 * sizeD d
  | .none, _ => by decide
  | .bool b, _ => by cases b <;> decide
  | .int i, h => by have := int_len (of_decide_eq_true h); simp only [sizeD]; omega
  | .str _, h => by cases h
  | .list xs, h => by
    have h1 := shown_lenAll xs h
    have h2 := listText_len_le (PyData.shownAll xs)
    rw [shownAll_len] at h2
    simp only [PyData.shown, sizeD]
    omega
  | .tuple xs, h => by
    have h1 := shown_lenAll xs h
    have h2 := tupleText_len_le (PyData.shownAll xs)
    rw [shownAll_len] at h2
    simp only [PyData.shown, sizeD]
    omega
  | .dict _, h => by cases h
theorem shown_lenAll : ∀ xs : List PyData, plainAll xs = true → ((PyData.shownAll xs).map (·.length)).sum + 2 * xs.length ≤ 50 * sizeAll xs
  | [], _ => by decide
  | x :: xs, h => by
    have h' : plainD x = true ∧ plainAll xs = true := by simpa [plainAll] using h
    have h1 := shown_len x h'.1
    have h2 := shown_lenAll xs h'.2
    simp only [PyData.shownAll, List.map_cons, List.sum_cons, List.length_cons, sizeAll]
    omega
end
theorem sizeAll_flat {xs : List PyData} {k : Nat} (h : ∀ d ∈ xs, sizeD d ≤ k) : sizeAll xs ≤ k * xs.length := by
  induction xs with
  | nil => exact Nat.zero_le _
  | cons x xs ih =>
    have h1 := h x List.mem_cons_self
    have h2 := ih fun d hd => h d (List.mem_cons_of_mem _ hd)
    show sizeD x + sizeAll xs ≤ k * (xs.length + 1)
    rw [Nat.mul_add, Nat.mul_one]
    omega
theorem plainAll_mem : ∀ {xs : List PyData}, (∀ d ∈ xs, plainD d = true) → plainAll xs = true
  | [], _ => rfl
  | x :: xs, h => by
    show (plainD x && plainAll xs) = true
    rw [h x List.mem_cons_self, plainAll_mem fun d hd => h d (List.mem_cons_of_mem _ hd)]
    rfl
theorem eqvAll_ints : ∀ (l m : List Int), PyData.eqvAll (l.map .int) (m.map .int) = decide (l = m)
  | [], [] => rfl
  | [], _ :: _ => rfl
  | _ :: _, [] => rfl
  | a :: l, b :: m => by
    show (PyData.eqv (.int a) (.int b) && PyData.eqvAll (l.map .int) (m.map .int)) = _
    rw [eqvAll_ints l m]
    by_cases c : a = b
    · subst c
      by_cases c2 : l = m <;> simp [PyData.eqv, c2]
    · simp [PyData.eqv, c]
theorem eqvAll_bls : ∀ (l m : List Bool), PyData.eqvAll (l.map .bool) (m.map .bool) = decide (l = m)
  | [], [] => rfl
  | [], _ :: _ => rfl
  | _ :: _, [] => rfl
  | a :: l, b :: m => by
    show (PyData.eqv (.bool a) (.bool b) && PyData.eqvAll (l.map .bool) (m.map .bool)) = _
    rw [eqvAll_bls l m]
    by_cases c : a = b
    · subst c
      by_cases c2 : l = m <;> simp [PyData.eqv, c2]
    · simp [PyData.eqv, c]
theorem eqvAll_nil : ∀ (l : List PyData), PyData.eqvAll l [] = l.isEmpty
  | [] => rfl
  | _ :: _ => rfl
theorem shaped_of (h : plainD d = true) (hd : d.depth ≤ 64) : SeqAt.shaped d = true := by
  unfold SeqAt.shaped
  rw [plain_lay d h, decide_eq_true hd]
  rfl
theorem depthAll_flat : ∀ {xs : List PyData}, (∀ d ∈ xs, d.depth = 0) → PyData.depthAll xs = 0
  | [], _ => rfl
  | x :: xs, h => by
    show max (PyData.depth x) (PyData.depthAll xs) = 0
    rw [h x List.mem_cons_self, depthAll_flat fun d hd => h d (List.mem_cons_of_mem _ hd)]
    rfl
theorem depthAll_le {n : Nat} : ∀ {xs : List PyData}, (∀ d ∈ xs, d.depth ≤ n) → PyData.depthAll xs ≤ n
  | [], _ => Nat.zero_le _
  | x :: xs, h => by
    show max (PyData.depth x) (PyData.depthAll xs) ≤ n
    have h1 := h x List.mem_cons_self
    have h2 := depthAll_le (xs := xs) fun d hd => h d (List.mem_cons_of_mem _ hd)
    omega
theorem shaped_ints {l : List Int} : SeqAt.shaped (.list (l.map .int)) = true := by
  unfold SeqAt.shaped
  have h1 : ∀ l : List Int, PyData.canLayAll0 (l.map .int) = true := fun l => by
    induction l with
    | nil => simp only [List.map_nil, PyData.canLayAll0]
    | cons a l ih => simp only [List.map_cons, PyData.canLayAll0, PyData.canLay0, ih, Bool.and_self]
  have h2 : PyData.depthAll (l.map .int) = 0 := depthAll_flat fun d hd => by obtain ⟨_, _, rfl⟩ := List.mem_map.mp hd; rfl
  show (PyData.canLay0 (.list (l.map .int)) && decide (PyData.depthAll (l.map .int) + 1 ≤ 64)) = true
  rw [h2]
  simp only [PyData.canLay0, h1]
  rfl
theorem shaped_bls {l : List Bool} : SeqAt.shaped (.list (l.map .bool)) = true := by
  unfold SeqAt.shaped
  have h1 : ∀ l : List Bool, PyData.canLayAll0 (l.map .bool) = true := fun l => by
    induction l with
    | nil => simp only [List.map_nil, PyData.canLayAll0]
    | cons a l ih => simp only [List.map_cons, PyData.canLayAll0, PyData.canLay0, ih, Bool.and_self]
  have h2 : PyData.depthAll (l.map .bool) = 0 := depthAll_flat fun d hd => by obtain ⟨_, _, rfl⟩ := List.mem_map.mp hd; rfl
  show (PyData.canLay0 (.list (l.map .bool)) && decide (PyData.depthAll (l.map .bool) + 1 ≤ 64)) = true
  rw [h2]
  simp only [PyData.canLay0, h1]
  rfl
theorem ev_neInts {l m : List Int} (ha : EvB C ta e (.list (l.map .int))) (hb : EvB C tb e (.list (m.map .int))) : EvD C (tOp (rNeD C.K) ta tb) e (.bool (!decide (l = m))) :=
  EvD.is (ev_neD ha hb shaped_ints shaped_ints) (by show PyData.bool (!PyData.eqvAll _ _) = _; rw [eqvAll_ints])
theorem ev_eqInts {l m : List Int} (ha : EvB C ta e (.list (l.map .int))) (hb : EvB C tb e (.list (m.map .int))) : EvD C (tOp (rEqD C.K) ta tb) e (.bool (decide (l = m))) :=
  EvD.is (ev_eqD ha hb shaped_ints shaped_ints) (by show PyData.bool (PyData.eqvAll _ _) = _; rw [eqvAll_ints])
theorem ev_neBls {l m : List Bool} (ha : EvB C ta e (.list (l.map .bool))) (hb : EvB C tb e (.list (m.map .bool))) : EvD C (tOp (rNeD C.K) ta tb) e (.bool (!decide (l = m))) :=
  EvD.is (ev_neD ha hb shaped_bls shaped_bls) (by show PyData.bool (!PyData.eqvAll _ _) = _; rw [eqvAll_bls])

/-! ### str(d), repr(d) -/
def rShow (K : PySem.W.Frag) : List V → Hp → VK → Prop := fun xs H Q => ∃ a d, xs = [.ref a] ∧ Dp K H (.ref a) d ∧ d.showable = true ∧ d.hasDict = false ∧ d.depth ≤ 30 ∧ d.shown.length ≤ sizeLine ∧ Q (.str d.shown) H
section
variable {X : Cx}
theorem cStrD (hK : X.K = K) (hg : X.A.guards = some []) (hu : X.A.units + 64 < cLine) : CallR X (.type "str") (rShow K) := by
  subst hK
  intro pins s σ H xs us Q I r h
  obtain ⟨a, d, rfl, hd, h1, h2, h3, h4, q⟩ := h
  cases r with
  | cons r1 r2 =>
    cases r2
    cases (show _ = Value.ref a from r1)
    obtain ⟨as, rd⟩ := Dp.reads I d (.ref a) (.ref a) hd rfl
    exact str_of_reads rd h1 (PyData.noDict_hsm h2) hg (by omega) (fun _ _ e => e) (fun h' u tk hk => ⟨.str d.shown, H, I.kept hk, ⟨_, rfl⟩, q⟩) h4
theorem cReprD (hK : X.K = K) (hg : X.A.guards = some []) (hu : X.A.units + 64 < cLine) : CallR X (.builtin "repr") (rShow K) := by
  subst hK
  intro pins s σ H xs us Q I r h
  obtain ⟨a, d, rfl, hd, h1, h2, h3, h4, q⟩ := h
  cases r with
  | cons r1 r2 =>
    cases r2
    cases (show _ = Value.ref a from r1)
    obtain ⟨as, rd⟩ := Dp.reads I d (.ref a) (.ref a) hd rfl
    exact repr_of_reads' rd h1 (PyData.noDict_hsm h2) hg (by omega) (fun _ _ e => e) (fun h' u tk hk => ⟨.str d.shown, H, I.kept hk, ⟨_, rfl⟩, q⟩) h4
end
structure Showy (d : PyData) : Prop where
  pl : plainD d = true
  dp : d.depth ≤ 30
  sz : d.shown.length ≤ sizeLine
theorem Showy.of (h1 : plainD d = true) (h2 : d.depth ≤ 30) (h3 : sizeD d ≤ 300000) : Showy d := ⟨h1, h2, by
  have := shown_len d h1
  show d.shown.length ≤ 2 ^ 24
  omega⟩
theorem depth_list {xs : List PyData} {k : Nat} (h : ∀ d ∈ xs, d.depth ≤ k) : (PyData.list xs).depth ≤ k + 1 := by
  show PyData.depthAll xs + 1 ≤ k + 1
  have := depthAll_le h
  omega
theorem depth_tup {xs : List PyData} {k : Nat} (h : ∀ d ∈ xs, d.depth ≤ k) : (PyData.tuple xs).depth ≤ k + 1 := by
  show PyData.depthAll xs + 1 ≤ k + 1
  have := depthAll_le h
  omega
theorem ev_show (ha : EvB C ta e x) (hx : isList x = true ∨ isTup x = true) (h : Showy x) : EvD C (tCB (rShow C.K) (tCons ta tNil)) e (.str x.shown) := fun s F H k E Q q => ha s F H k E _ fun v F1 H1 n1 d1 => by
  obtain ⟨a, rfl⟩ : ∃ a, v = .ref a := by
    cases d1 with
    | lst _ _ => exact ⟨_, rfl⟩
    | tup _ _ => exact ⟨_, rfl⟩
    | non => rcases hx with h | h <;> cases h
    | bl b => rcases hx with h | h <;> cases h
    | int i => rcases hx with h | h <;> cases h
    | str i => rcases hx with h | h <;> cases h
  exact ⟨a, x, rfl, Dq.p _ _ d1, plain_show x h.pl, PyData.hasDict_of_canLay x (plain_lay x h.pl), h.dp, h.sz, q _ F1 H1 n1 (.str _)⟩

/-! ### xs.pop() -/
theorem a_popO {D : Ends} {s : L2.St} {H B : Hp} {i j : Nat} {a : Addr} {ds : List PyData} (q : e[i]? = some (.own a (ds ++ [d]))) (k : ∀ s H, At C B ((e.set i (.own a ds)).set j (.dat d)) s H → D.nx s H) (A : At C B e s H) (hj : Nat.ble (j + 1) e.length = true := by rfl) : tAsg (tBM0 C.K "list" rPop (tVar i)) (gName j) D s H := by
  obtain ⟨F, n, b, E⟩ := A
  obtain ⟨h1, h2, h3, xs, h4, h5⟩ := E.ent i _ q
  have hl := dpa_len h5
  have hx : xs.length = ds.length + 1 := by rw [hl, List.length_append]; rfl
  have g1 := dpa_take ds.length h5
  rw [List.take_left] at g1
  obtain ⟨v, g2, g3⟩ := dpa_get h5 (show (ds ++ [d])[ds.length]? = some d by rw [List.getElem?_append_right (Nat.le_refl _), Nat.sub_self]; rfl)
  have e1 : xs.dropLast = xs.take ds.length := by rw [List.dropLast_eq_take, hx]; rfl
  have g4 : xs[xs.length - 1]? = some v := by rw [hx]; exact g2
  refine ⟨_, h1, .inl ⟨rfl, xs, .inl (.inl h4)⟩, a, xs, v, rfl, rfl, h4, g4, ?_⟩
  rw [e1]
  refine k _ _ ⟨F, NxM.own n h3 h2, b, ?_⟩
  exact (E.wr q g1).put (by rw [List.length_set]; exact Nat.le_of_ble_eq_true hj) g3
theorem q_popO {D : Ends} {tz : TS} {s : L2.St} {H B : Hp} {i j : Nat} {a : Addr} {ds : List PyData} (q : e[i]? = some (.own a (ds ++ [d]))) (k : ∀ s H, At C B ((e.set i (.own a ds)).set j (.dat d)) s H → tz D s H) (A : At C B e s H) (hj : Nat.ble (j + 1) e.length = true := by rfl) : tSeq (tAsg (tBM0 C.K "list" rPop (tVar i)) (gName j)) tz D s H := a_popO (D := { D with nx := tz D }) q k A hj

/-! ### defs that are called where nothing is being shown -/
structure FnG (P : Program) (w : World) (K : PySem.W.Frag) (mg : Str → Option Value) (base : Heap) (CX : CXT) (k : Nat) (f : Addr) (fd : FuncData) (ps : List Str) (sp : Sp) : Prop where
  len : ∀ vs H Q E, sp vs H Q E → vs.length = ps.length
  run : ∀ (A : Around) (outer : List PySem.Env) (s : Shared) (H : Hp) (args : Args) (us : List Value) (vs : List V) (Q : VK) (E : XK), A.guards = some [] → Room k A → Env0 P w K mg base A outer s H → BindsTo s fd args (ps.zip us) → Vals vs us → sp vs H Q E →
    codeAny (model P w) A (.call (.ref f) args) (CR CX outer P w H s Q E) s
theorem guards_deeper {A : Around} {env : PySem.Env} (h : A.guards = some []) : (A.deeper env).guards = some [] := by
  first | exact h | (simpa [Around.deeper] using h)
section
variable {P : Program} {w : World} {mg : Str → Option Value} {base : Heap}
/-- a def with no defaults, as the head tells of it -/
abbrev FnP (K : PySem.W.Frag) (x : Str) (st : Stmt) (f : Addr) (fd : FuncData) : Prop := FunD K x x (defArgs st) (defBody st) (defScope st) [] [] f fd
theorem fnp_ok {x : Str} {st : Stmt} {f : Addr} {fd : FuncData} {N ps : List Str} {k : Nat} {sp : Sp} (FF : FnP K x st f fd) (S : FnScope N ps (defScope st)) (len : ∀ vs H Q E, sp vs H Q E → vs.length = ps.length)
    (hbody : ∀ (cdv : Value) (A : Around) (outer : List PySem.Env) (s : Shared) (H : Hp) (vs : List V) (Q : VK) (E : XK), Room k (A.deeper (envOfC x (defScope st) s.heap.objs.size f cdv)) → sp vs H Q E →
      ∃ t, PSs (cxOf CX0 P w K mg base N x (defScope st) f cdv A outer s H E).nox (defBody st) t ∧ t { nx := fun _ H' => Q .non H', rt := Q } (L2.start N vs) H) : FnOk P w K mg base CX0 (k + 1) f fd ps sp :=
  FunD.ok FF S len fun cdv A outer s H vs Q E hr h => let ⟨t, h1, h2⟩ := hbody cdv A outer s H vs Q E hr h; ⟨t, h1.nox, h2⟩
theorem fun_okG {x : Str} {st : Stmt} {f : Addr} {fd : FuncData} {N ps : List Str} {k : Nat} {sp : Sp} (FF : FnP K x st f fd) (S : FnScope N ps (defScope st)) (len : ∀ vs H Q E, sp vs H Q E → vs.length = ps.length)
    (hbody : ∀ (cdv : Value) (A : Around) (outer : List PySem.Env) (s : Shared) (H : Hp) (vs : List V) (Q : VK) (E : XK), (A.deeper (envOfC x (defScope st) s.heap.objs.size f cdv)).guards = some [] → Room k (A.deeper (envOfC x (defScope st) s.heap.objs.size f cdv)) → sp vs H Q E →
      ∃ t, PSs (cxOf CX0 P w K mg base N x (defScope st) f cdv A outer s H E).nox (defBody st) t ∧ t { nx := fun _ H' => Q .non H', rt := Q } (L2.start N vs) H) : FnG P w K mg base CX0 (k + 1) f fd ps sp := by
  obtain ⟨oc, od, dV, kV, doc, pm, an, cdv, ct, osl, rfl, lk, hcd, _, _⟩ := FF.ex
  refine ⟨len, fun A outer s H args us vs Q E hg hr e0 hb rv hsp => ?_⟩
  have stay := fun b o e => (e0.bs b o e).1
  have KX : K.In s.heap := e0.mod.kin.keeps stay
  have lim := e0.mod.nolimit.keeps stay
  have kinds : ∀ y ∈ ps.zip us, (defScope st).names.lookup y.1 = some .local ∨ ((defScope st).names.lookup y.1 = some .cell ∧ ((cellsFrom (s.heap.objs.size + 1) (defScope st).names []).lookup y.1).isSome = true) := by
    rintro ⟨n, v⟩ hy
    exact (S.par n (List.of_mem_zip hy).1).imp id fun q => ⟨q, PySem.W.cellsFrom_some _ _ _ (.inl q)⟩
  refine codeAny_call_function hr.depth (KX _ _ lk) rfl S.co S.gen rfl (PySem.W.codeRec_of KX hcd) (hb _ _ _ _ (wpAny_newFunctionEnv_cells S.kind kinds fun env he s1 x => ?_))
  subst he
  obtain ⟨t, ht, hq⟩ := hbody cdv A outer s H vs Q E (guards_deeper hg) (hr.deeper _) hsp
  have I := inv_start (CX := CX0) (E := E) (cd := cdv) (f := f) S hr.hd e0 (len _ _ _ _ hsp) rv x
  refine ⟨lim.keeps x.toInCall.keep, codeAny_func (wpAny_mono (ht.nox.run [] s1 _ H _ I hq) (fun fl s' hs => ?_) fun e s' hs => hs)⟩
  cases fl with
  | ret u => obtain ⟨v, s2, H', J, r2, q⟩ := hs; exact ⟨v, H', J.os, J.bare, J.base, J.hok, r2, q⟩
  | next => obtain ⟨s2, H', J, q⟩ := hs; exact ⟨.non, H', J.os, J.bare, J.base, J.hok, rfl, q⟩
  | brk => obtain ⟨_, _, _, q⟩ := hs; exact q.elim
  | cont => obtain ⟨_, _, _, q⟩ := hs; exact q.elim
end
/-- a call of such a def -/
theorem pe_callG {X : Cx} {CX : CXT} {k : Nat} {f : Addr} {fd : FuncData} {ps : List Str} {sp : Sp} {E : XK} {n : Str} {p pos : Pos} {ex : Expr} {es : List Expr} {t : TA} (G : FnG X.prog X.w X.K X.mg X.base CX k f fd ps sp) (hgd : X.A.guards = some []) (hr : Room k X.A) (hg : Gl X n) (hm : X.mg n = some (.ref f)) (hk : PySem.W.keepIn X.K (.ref f) = true) (hb : Binds X.K fd ps []) (hx : Passes CX X E)
    (ha : PA X (ex :: es) t) (hdb : (n == ("__debug__" : Str)) = false := by decide) (he : starEach (ex :: es) X.env = (false, eval ex X.env) :: starEach es X.env := by rfl) (hpl : (backTo pos (starEach es X.env)).any (·.1) = false := by rfl) :
    PE X (.Call (.Name n p) (ex :: es) [] pos) (tCall sp [] E t) := by
  refine ⟨fun pins s σ H Q I h => wpAny_Call_Name_kw (ld_glob I hg hm ?_ hdb)⟩
  refine PySem.W.callWith_K (h₀ := X.base) I.ok.mod.kin hk (thn (ha.run pos pins s σ H _ I h) fun us s1 hh => ?_) he hpl
  obtain ⟨vs, H1, I1, r, q⟩ := hh
  refine ⟨I1.kIn, ?_⟩
  rw [List.append_nil] at q
  have hl : us.length = ps.length := by rw [← r.length]; exact G.len _ _ _ _ q
  have bd := hb s1 us I1.kIn (by rw [List.append_nil]; exact hl)
  rw [List.append_nil] at bd
  refine wpAny_call (codeAny_mono (G.run X.A X.stack s1 H1 ⟨us, []⟩ us vs Q E hgd hr I1.env0 bd r q) fun rr s' hq => ?_)
  cases rr with
  | error e => exact hx pins σ H1 s1 e s' I1 hq
  | ok fl =>
    cases fl with
    | ret u => exact I1.after hq
    | next => exact hq.elim
    | brk => exact hq.elim
    | cont => exact hq.elim
/-! ### list(range(n)) -/
theorem dpa_rg {F : Hp} (a b : Int) : DqAll F (rgV a b) ((List.range (b - a).toNat).map fun i => PyData.int (a + (i : Nat))) := by
  have h := dpa_ints (F := F) ((List.range (b - a).toNat).map fun i => a + ((i : Nat) : Int))
  rw [List.map_map, List.map_map] at h
  exact h
theorem en_listRg {n : Nat} (ha : EvD C ta e (.int (n : Int))) (hn : n ≤ 1000000) : EvN C (tLstRg (tRg1 ta)) e ((List.range n).map fun i => PyData.int (i : Nat)) := fun s F H k E Q q => ha s F H k E _ fun v F1 H1 n1 d1 => by
  cases d1
  refine ⟨_, rfl, RgOk.of_le (by decide) (by omega) (by decide) (by omega), fun l hl => ?_⟩
  have h := dpa_rg (F := F1) 0 (n : Int)
  rw [show ((n : Int) - 0).toNat = n by omega] at h
  have e1 : ((List.range n).map fun i => PyData.int (0 + ((i : Nat) : Int))) = ((List.range n).map fun i => PyData.int (i : Nat)) := List.map_congr_left fun i _ => by rw [Int.zero_add]
  rw [e1] at h
  exact q l _ F1 _ (n1.trans (Nx.mut n1.k hl)) (ex_free (Nx.h0 n1) hl) (ex_free n1.k hl) upd_same h
/-! ### the law's own call, with nothing being shown -/
section
variable {P : Program} {w : World} {mg mb : Str → Option Value}
theorem law_callG {k : Nat} {fa a : Addr} {fd : FuncData} {v0 : Str} {sp : Sp} {s1 : Shared} {us : List Value} {ns : List Int}
    (hK : K.In s1.heap) (hm : s1.heap.Ns mainGlobals mg) (hb : s1.heap.Ns builtinsNs mb) (hb2 : ∀ y : Str, y ≠ "__name__" → mb y = bootBuiltins y) (hli : s1.heap.NoLimit) (hge : s1.gens = #[])
    (hob : s1.heap.get? a = some { cls := .type "list", data := .seq us.toArray }) (hin : IntsAre us ns) (hz : ns.length ≤ sizeLine) (hr : Room k callerA)
    (G : ∀ base : Heap, K.In base → base.Ns mainGlobals mg → FnG P w K mg base CX0 k fa fd [v0] sp) (hbd : ∀ (s : Shared) (u : Value), BindsTo s fd ⟨[u], []⟩ [(v0, u)])
    (hsp : ∀ H : Hp, SqL K H a (ns.map V.int) → sp [.ref a] H (fun v _ => v = .bl true) fun _ _ _ => False) :
    codeAny (model P w) callerA (.call (.ref fa) ⟨[.ref a], []⟩) (fun r s' => r = .ok (.ret (.bool true)) ∧ OldK s1.heap s'.heap ∧ s'.os = s1.os ∧ AllBare s'.gens) s1 := by
  let ob : Obj := { cls := .type "list", data := .seq us.toArray }
  let H : Hp := fun b => if b = a ∧ K.lookup a = none then some (.frz ob (.lst (ns.map V.int))) else none
  have vals : Vals (ns.map V.int) us := vals_ints hin
  have len : us.length = ns.length := hin.length
  have inv : ∀ b u, H b = some u → b = a ∧ K.lookup a = none ∧ u = .frz ob (.lst (ns.map V.int)) := fun b u z => by
    by_cases c : b = a ∧ K.lookup a = none
    · have z2 : some (HO.frz ob (.lst (ns.map V.int))) = some u := by rw [← z]; exact (if_pos c).symm
      exact ⟨c.1, c.2, (Option.some.inj z2).symm⟩
    · have z2 : (none : Option HO) = some u := by rw [← z]; exact (if_neg c).symm
      cases z2
  have hok : HOk P w H s1.heap := fun b u z => by
    obtain ⟨rfl, _, rfl⟩ := inv b u z
    exact ⟨hob, by rw [List.length_map]; exact hz, us, _, vals, hob⟩
  have hS : SqL K H a (ns.map V.int) := by
    cases lk : K.lookup a with
    | none => exact .inl (.inr ⟨ob, if_pos ⟨rfl, lk⟩⟩)
    | some o =>
      have e := hK a o lk
      rw [hob] at e
      cases e
      exact .inr ⟨_, us.toArray, _, lk, rfl, rfl, rfl, by rw [List.size_toArray, len]; exact hz, by simpa using vals⟩
  have dn : ∀ {b : Addr} {o : Obj} {es : Array DictEntry} {n : Nat}, s1.heap.get? b = some o → o.data = .dict es n → H b = none := fun {b o es n} e d => by
    cases q : H b with
    | none => rfl
    | some u =>
      obtain ⟨rfl, _, _⟩ := inv b u q
      rw [hob] at e
      cases e
      cases (show Data.seq us.toArray _ = Data.dict es n from d)
  have tr : ∀ {b : Addr} {m : Str → Option Value}, s1.heap.Ns b m → (hidT s1.heap H).Ns b m := fun ⟨o, es, n, e, d, r⟩ => ⟨o, es, n, hidT_get e (dn e d), d, r⟩
  have hKb : K.In (hidT s1.heap H) := fun b o e => hidT_get (hK b o e) (by
    cases q : H b with
    | none => rfl
    | some u =>
      obtain ⟨rfl, lk, _⟩ := inv b u q
      rw [lk] at e
      cases e)
  have e0 : Env0 P w K mg (hidT s1.heap H) callerA [] s1 H :=
    { frames := rfl, mod := ⟨hKb, tr hm, ⟨mb, tr hb, hb2⟩, let ⟨mc, x1, x2⟩ := hli; ⟨mc, tr x1, x2⟩⟩, bs := fun b o e => of_hidT e, bsz := Nat.le_of_eq (hidT_size _ _), funs := trivial, frf := (fun b z => nomatch (show b ∈ ([] : List Addr) from z)), hok := hok, bare := .of_eq hge }
  have run := (G _ hKb (tr hm)).run callerA [] s1 H ⟨[.ref a], []⟩ [.ref a] [.ref a] _ _ rfl hr e0 (hbd s1 (.ref a)) (.cons rfl .nil) (hsp H hS)
  refine codeAny_mono run fun r s' z => ?_
  match r, z with
  | .error _, z => exact (show False from z).elim
  | .ok .next, z => exact (show False from z).elim
  | .ok .brk, z => exact (show False from z).elim
  | .ok .cont, z => exact (show False from z).elim
  | .ok (.ret u), z =>
    obtain ⟨v, H2, x1, x2, un, hok2, rel, x3⟩ := z
    cases (show v = .bl true from x3)
    cases (show u = Value.bool true from rel)
    refine ⟨rfl, OldK.of_keep fun b o e => ?_, x1, x2⟩
    cases q : H b with
    | none => exact un.keep b o e q (fun z => nomatch (show b ∈ ([] : List Addr) from z)) (by simp)
    | some u =>
      obtain ⟨rfl, _, rfl⟩ := inv b u q
      have y1 := (hok b _ q).1
      have y2 := (hok2 b _ (un.frzs b ob _ q)).1
      rw [e] at y1
      cases y1
      exact y2
end
theorem walk_ofG {l : PySem.W.OpenLaw} {n k : Nat} {q : Program} {loose : List Str} {XP : (Str → Option Value) → Heap → Prop} {YP : World → Heap → Prop} {df : DefRec} {v0 : Str}
    (hn : l.most = some n) (hn2 : n ≤ sizeLine) (hdf : df.params.defaults = []) (hr : Room k callerA)
    (F : ∀ (w : World) (mg : Str → Option Value) (fa : Addr) (h : Heap), YP w h → h.Ns mainGlobals mg → mg df.name = some (.ref fa) →
      ∃ (K : PySem.W.Frag) (fd : FuncData) (sp : Sp), K.In h ∧ (∀ (s : Shared) (u : Value), BindsTo s fd ⟨[u], []⟩ [(v0, u)]) ∧
        (∀ (H : Hp) (a : Addr) (ns : List Int), ns.length ≤ n → SqL K H a (ns.map V.int) → sp [.ref a] H (fun v _ => v = .bl true) fun _ _ _ => False) ∧
        ∀ base : Heap, K.In base → base.Ns mainGlobals mg → FnG l.prog w K mg base CX0 k fa fd [v0] sp) :
    PySem.W.WalkO q loose XP YP l.row.toRowW df [] (fun f vs => PySem.call f vs) :=
  Att.attach_call hn hdf fun w s0 s1 mg mb fa o pm cd doc a vs ns G Y ho hd hcd hmg hobj hints hlen hg => by
    obtain ⟨K, fd, sp, KX, hb, hsp, hF⟩ := F w mg fa _ Y G.T.g hmg
    exact law_callG KX G.T.g G.T.b G.T.builtins G.T.nolimit hg hobj hints (Nat.le_trans hlen hn2) hr hF hb fun H hS => hsp H a ns hlen hS

/-! ### the law's loop over the cells of the script -/
theorem scr_slot {B H : Hp} {s : L2.St} {i : Nat} {v : V} (h : e[i]? = some (.val v)) (A : At C B e s H) : s[i]? = some (some v) := by
  obtain ⟨F, n, b, E⟩ := A
  exact E.ent i _ h
theorem q_forV {D : Ends} {tz tu : TS} {s : L2.St} {H B : Hp} {ta : TA} {j : Nat} {m : Int} (I : Nat → En → Prop) (h : ∀ Q : List V → Hp → Prop, Q [.int m] H → ta s H Q) (hm : -1000000 ≤ m ∧ m ≤ 1000000) (I0 : I 0 e) (hj : ∀ i e', I i e' → j < e'.length)
    (step : ∀ (i : Nat) e', (i : Int) < m → I i e' → ∀ s H, At C B (e'.set j (.dat (.int (i : Int)))) s H → tu { D with nx := NxI C B I (i + 1), ct := NxI C B I (i + 1), bk := tz D } s H)
    (done : ∀ e', I m.toNat e' → ∀ s H, At C B e' s H → tz D s H) (A : At C B e s H) : tSeq (tFor (iRng1 ta) (gName j) tu) tz D s H := by
  have key : ∀ {t2 : TA}, (∀ Q : List V → Hp → Prop, Q [.int m] H → t2 s H Q) → tFor (iRng1 t2) (gName j) tu { D with nx := tz D } s H := fun {t2} h2 => by
    refine h2 _ ?_
    refine ⟨m, rfl, by omega, by omega, for_range (lo := 0) (n := m.toNat) (NxI C B I) ⟨e, I0, A⟩ (fun i s' H' hi p => ?_) (fun s' H' p => ?_)⟩
    · obtain ⟨e', hI, F', n', b', E'⟩ := p
      show tu _ (s'.set j (some (.int ((0 : Int) + (i : Int))))) H'
      rw [Int.zero_add]
      exact step i e' (by omega) hI _ _ ⟨F', n', b', E'.put (hj i e' hI) (.int _)⟩
    · obtain ⟨e', hI, A'⟩ := p
      exact done e' hI s' H' A'
  exact key h
end Dd

namespace Dd
open PySem PySem.Spec PyProof.Rows L2
open Evl (Ex)
variable {K : PySem.W.Frag} {C : Fx} {e : En} {ta tb te : TE} {t u : TT} {x y z d : PyData} {r : R2}
theorem ept_not {P : Bool → Prop} (h : EvPT C t e P) : EvPT C (tNot t) e (fun b => P (!b)) := fun s F H k E Q q => h s F H k E _ fun c F1 H1 p1 n1 E1 => q (!c) F1 H1 (by show P (!(!c)); rw [Bool.not_not]; exact p1) n1 E1
/-- a new pile goes to slot i -/
theorem at_pile {B H H2 : Hp} {s : L2.St} {i : Nat} {p : Addr} {n : Int} (hM : ∀ a, ¬ C.M a) (A : At C B e s H) (x1 : Ex H H2) (x2 : H p = none) (x3 : H2 p = some (.lst [.int n])) (x4 : 0 ≤ n) (hi : i < e.length) : At C B (e.set i (.pil p)) (s.set i (some (.ref p))) H2 := by
  obtain ⟨F, nx, b, E⟩ := A
  have up : Nx F H F H2 := ⟨fun a o _ q => x1 a o q, Ex.refl F, nx.k.trans x1, fun _ q _ => q, fun a q => by
    cases c : H a with
    | none => exact absurd c q
    | some o => rw [x1 a o c]; exact fun z => nomatch z⟩
  have hp0 : C.H0 p = none := by
    cases c : C.H0 p with
    | none => rfl
    | some o => exact absurd (nx.h p o (hM p) c) (by rw [x2]; exact fun z => nomatch z)
  refine ⟨F, nx.trans up.toM, b, (E.nx up).putE hi (ent_pil (ex_free nx.k x2) (.inr hp0) ⟨n, x4, x3⟩) fun j x a _ q w z => ?_⟩
  cases w
  have he := E.ent j x q
  have stand : H p ≠ none := by
    cases x with
    | un => exact nomatch z
    | dat _ => exact nomatch z
    | val _ => exact nomatch z
    | own b ds => cases z; obtain ⟨_, _, _, xs, h4, _⟩ := he; rw [h4]; exact fun z => nomatch z
    | dic b kv => cases z; obtain ⟨_, _, _, h4⟩ := he; rw [h4]; exact fun z => nomatch z
    | pil b => cases z; obtain ⟨_, _, _, m, _, h4⟩ := he; rw [h4]; exact fun z => nomatch z
  exact stand x2
/-- range(max(2, min(len(script), 8))) -/
theorem turns28 {H : Hp} {s : L2.St} {a : Addr} {ns : List Int} (h0 : s[0]? = some (some (.ref a))) (hS : SqL K H a (ns.map V.int)) (Q : List V → Hp → Prop) (q : Q [.int (max 2 (min (ns.length : Int) 8))] H) :
    tCons (tCB rMx2 (tCons (tC (.int 2)) (tCons (tCB rMn2 (tCons (tCB (Evl.rLenS K) (tCons (tVar 0) tNil)) (tCons (tC (.int 8)) tNil))) tNil))) tNil s H Q := by
  have e1 : (if (if (8 : Int) < ((ns.map V.int).length : Int) then (8 : Int) else ((ns.map V.int).length : Int)) > 2 then (if (8 : Int) < ((ns.map V.int).length : Int) then (8 : Int) else ((ns.map V.int).length : Int)) else 2) = max 2 (min (ns.length : Int) 8) := by
    rw [List.length_map]
    split <;> split <;> omega
  exact ⟨.ref a, h0, a, ns.map V.int, rfl, .inl hS, _, _, rfl, _, _, rfl, by rw [e1]; exact q⟩
theorem FnG.of {P : Program} {w : World} {mg : Str → Option Value} {base : Heap} {CX : CXT} {k : Nat} {f : Addr} {fd : FuncData} {ps : List Str} {sp : Sp} (h : FnOk P w K mg base CX k f fd ps sp) : FnG P w K mg base CX k f fd ps sp := ⟨h.len, fun A outer s H args us vs Q E _ => h.run A outer s H args us vs Q E⟩
end Dd

namespace Dd
open PySem PySem.Spec PyProof.Rows L2
open Evl (Ex)
def topS (i : Nat) : Stmt := PySem.Challenge.pw_duepairs_k02_behind_and_room.main.body.getD i (.Pass ⟨0, 0, 0, 0⟩)
abbrev s_is_whole : Stmt := topS 8
abbrev N_is_whole : List Str := ["thing"]
theorem sc_is_whole : FnScope N_is_whole ["thing"] (defScope s_is_whole) := ⟨rfl, rfl, rfl, by decide +kernel, rfl, by decide +kernel, by decide +kernel⟩
abbrev s_is_from : Stmt := topS 9
abbrev N_is_from : List Str := ["thing", "least"]
theorem sc_is_from : FnScope N_is_from ["thing", "least"] (defScope s_is_from) := ⟨rfl, rfl, rfl, by decide +kernel, rfl, by decide +kernel, by decide +kernel⟩
abbrev s_is_below : Stmt := topS 10
abbrev N_is_below : List Str := ["thing", "many"]
theorem sc_is_below : FnScope N_is_below ["thing", "many"] (defScope s_is_below) := ⟨rfl, rfl, rfl, by decide +kernel, rfl, by decide +kernel, by decide +kernel⟩
abbrev s_is_due : Stmt := topS 11
abbrev N_is_due : List Str := ["thing"]
theorem sc_is_due : FnScope N_is_due ["thing"] (defScope s_is_due) := ⟨rfl, rfl, rfl, by decide +kernel, rfl, by decide +kernel, by decide +kernel⟩
abbrev s_is_need : Stmt := topS 12
abbrev N_is_need : List Str := ["thing", "many", "task"]
theorem sc_is_need : FnScope N_is_need ["thing", "many"] (defScope s_is_need) := ⟨rfl, rfl, rfl, by decide +kernel, rfl, by decide +kernel, by decide +kernel⟩
abbrev s_are_rooms : Stmt := topS 13
abbrev N_are_rooms : List Str := ["thing", "number"]
theorem sc_are_rooms : FnScope N_are_rooms ["thing"] (defScope s_are_rooms) := ⟨rfl, rfl, rfl, by decide +kernel, rfl, by decide +kernel, by decide +kernel⟩
abbrev s_has_ring : Stmt := topS 14
abbrev N_has_ring : List Str := ["needs", "left", "size", "later", "a", "b"]
theorem sc_has_ring : FnScope N_has_ring ["needs"] (defScope s_has_ring) := ⟨rfl, rfl, rfl, by decide +kernel, rfl, by decide +kernel, by decide +kernel⟩
abbrev s_are_parts : Stmt := topS 15
abbrev N_are_parts : List Str := ["thing", "part"]
theorem sc_are_parts : FnScope N_are_parts ["thing"] (defScope s_are_parts) := ⟨rfl, rfl, rfl, by decide +kernel, rfl, by decide +kernel, by decide +kernel⟩
abbrev s_is_job : Stmt := topS 16
abbrev N_is_job : List Str := ["thing", "frees", "dues", "needs", "rooms", "free", "due", "need"]
theorem sc_is_job : FnScope N_is_job ["thing"] (defScope s_is_job) := ⟨rfl, rfl, rfl, by decide +kernel, rfl, by decide +kernel, by decide +kernel⟩
abbrev s_look_at_job : Stmt := topS 17
abbrev N_look_at_job : List Str := ["job"]
theorem sc_look_at_job : FnScope N_look_at_job ["job"] (defScope s_look_at_job) := ⟨rfl, rfl, rfl, by decide +kernel, rfl, by decide +kernel, by decide +kernel⟩
abbrev s_look_at_task : Stmt := topS 18
abbrev N_look_at_task : List Str := ["job", "task"]
theorem sc_look_at_task : FnScope N_look_at_task ["job", "task"] (defScope s_look_at_task) := ⟨rfl, rfl, rfl, by decide +kernel, rfl, by decide +kernel, by decide +kernel⟩
abbrev s_tasks_behind : Stmt := topS 19
abbrev N_tasks_behind : List Str := ["needs", "task", "found", "size", "a", "b"]
theorem sc_tasks_behind : FnScope N_tasks_behind ["needs", "task"] (defScope s_tasks_behind) := ⟨rfl, rfl, rfl, by decide +kernel, rfl, by decide +kernel, by decide +kernel⟩
abbrev s_is_behind : Stmt := topS 20
abbrev N_is_behind : List Str := ["job", "a", "b"]
theorem sc_is_behind : FnScope N_is_behind ["job", "a", "b"] (defScope s_is_behind) := ⟨rfl, rfl, rfl, by decide +kernel, rfl, by decide +kernel, by decide +kernel⟩
abbrev s_room_from : Stmt := topS 21
abbrev N_room_from : List Str := ["rooms", "s", "e", "told"]
theorem sc_room_from : FnScope N_room_from ["rooms", "s", "e"] (defScope s_room_from) := ⟨rfl, rfl, rfl, by decide +kernel, rfl, by decide +kernel, by decide +kernel⟩
abbrev s_room : Stmt := topS 22
abbrev N_room : List Str := ["job", "s", "e"]
theorem sc_room : FnScope N_room ["job", "s", "e"] (defScope s_room) := ⟨rfl, rfl, rfl, by decide +kernel, rfl, by decide +kernel, by decide +kernel⟩
abbrev s__law_mixed : Stmt := topS 24
abbrev N__law_mixed : List Str := ["_law_cell", "_law_k", "_law_number"]
theorem sc__law_mixed : FnScope N__law_mixed ["_law_cell", "_law_k"] (defScope s__law_mixed) := ⟨rfl, rfl, rfl, by decide +kernel, rfl, by decide +kernel, by decide +kernel⟩
abbrev s__law_pile : Stmt := topS 25
abbrev N__law_pile : List Str := ["_law_script", "_law_k", "_law_cell", "_law_found", "_law_j"]
theorem sc__law_pile : FnScope N__law_pile ["_law_script", "_law_k"] (defScope s__law_pile) := ⟨rfl, rfl, rfl, by decide +kernel, rfl, by decide +kernel, by decide +kernel⟩
abbrev s__law_take : Stmt := topS 26
abbrev N__law_take : List Str := ["_law_pile_here", "_law_size", "_law_digit"]
theorem sc__law_take : FnScope N__law_take ["_law_pile_here", "_law_size"] (defScope s__law_take) := ⟨rfl, rfl, rfl, by decide +kernel, rfl, by decide +kernel, by decide +kernel⟩
abbrev s__law_order : Stmt := topS 27
abbrev N__law_order : List Str := ["_law_pile_here", "_law_many", "_law_order_here", "_law_k"]
theorem sc__law_order : FnScope N__law_order ["_law_pile_here", "_law_many"] (defScope s__law_order) := ⟨rfl, rfl, rfl, by decide +kernel, rfl, by decide +kernel, by decide +kernel⟩
abbrev s__law_room : Stmt := topS 28
abbrev N__law_room : List Str := ["_law_rooms", "_law_hour"]
theorem sc__law_room : FnScope N__law_room ["_law_rooms", "_law_hour"] (defScope s__law_room) := ⟨rfl, rfl, rfl, by decide +kernel, rfl, by decide +kernel, by decide +kernel⟩
abbrev s__law_hours : Stmt := topS 29
abbrev N__law_hours : List Str := ["_law_pile_here", "_law_order_here", "_law_rooms", "_law_hours_here", "_law_hour", "_law_left", "_law_task"]
theorem sc__law_hours : FnScope N__law_hours ["_law_pile_here", "_law_order_here", "_law_rooms"] (defScope s__law_hours) := ⟨rfl, rfl, rfl, by decide +kernel, rfl, by decide +kernel, by decide +kernel⟩
abbrev s__law_needs : Stmt := topS 30
abbrev N__law_needs : List Str := ["_law_pile_here", "_law_order_here", "_law_hours_here", "_law_loose", "_law_dense", "_law_needs_here", "_law_j", "_law_k", "_law_a", "_law_b"]
theorem sc__law_needs : FnScope N__law_needs ["_law_pile_here", "_law_order_here", "_law_hours_here"] (defScope s__law_needs) := ⟨rfl, rfl, rfl, by decide +kernel, rfl, by decide +kernel, by decide +kernel⟩
abbrev s__law_job : Stmt := topS 31
abbrev N__law_job : List Str := ["_law_pile_here", "_law_most", "_law_wide", "_law_rooms", "_law_order_here", "_law_hours_here", "_law_needs_here", "_law_frees", "_law_slack", "_law_dues", "_law_hour", "_law_due", "_law_k"]
theorem sc__law_job : FnScope N__law_job ["_law_pile_here", "_law_most", "_law_wide"] (defScope s__law_job) := ⟨rfl, rfl, rfl, by decide +kernel, rfl, by decide +kernel, by decide +kernel⟩
abbrev s__law_behind : Stmt := topS 32
abbrev N__law_behind : List Str := ["_law_needs_here", "_law_task", "_law_found", "_law_left", "_law_one", "_law_a", "_law_b"]
theorem sc__law_behind : FnScope N__law_behind ["_law_needs_here", "_law_task"] (defScope s__law_behind) := ⟨rfl, rfl, rfl, by decide +kernel, rfl, by decide +kernel, by decide +kernel⟩
abbrev s__law_sum : Stmt := topS 33
abbrev N__law_sum : List Str := ["_law_rooms", "_law_first", "_law_last", "_law_found", "_law_hour"]
theorem sc__law_sum : FnScope N__law_sum ["_law_rooms", "_law_first", "_law_last"] (defScope s__law_sum) := ⟨rfl, rfl, rfl, by decide +kernel, rfl, by decide +kernel, by decide +kernel⟩
abbrev s__law_good : Stmt := topS 34
abbrev N__law_good : List Str := ["_law_pile_here", "_law_job_here", "_law_kept", "_law_tasks", "_law_task", "_law_there", "_law_found", "_law_turn", "_law_first", "_law_last", "_law_other", "_law_one"]
theorem sc__law_good : FnScope N__law_good ["_law_pile_here", "_law_job_here"] (defScope s__law_good) := ⟨rfl, rfl, rfl, by decide +kernel, rfl, by decide +kernel, by decide +kernel⟩
abbrev s_law : Stmt := topS 35
abbrev N_law : List Str := ["_law_script", "_law_k", "_law_pile_here"]
theorem sc_law : FnScope N_law ["_law_script"] (defScope s_law) := ⟨rfl, rfl, rfl, by decide +kernel, rfl, by decide +kernel, by decide +kernel⟩
structure Ad where
  f_is_whole : Addr
  d_is_whole : FuncData
  f_is_from : Addr
  d_is_from : FuncData
  f_is_below : Addr
  d_is_below : FuncData
  f_is_due : Addr
  d_is_due : FuncData
  f_is_need : Addr
  d_is_need : FuncData
  f_are_rooms : Addr
  d_are_rooms : FuncData
  f_has_ring : Addr
  d_has_ring : FuncData
  f_are_parts : Addr
  d_are_parts : FuncData
  f_is_job : Addr
  d_is_job : FuncData
  f_look_at_job : Addr
  d_look_at_job : FuncData
  f_look_at_task : Addr
  d_look_at_task : FuncData
  f_tasks_behind : Addr
  d_tasks_behind : FuncData
  f_is_behind : Addr
  d_is_behind : FuncData
  f_room_from : Addr
  d_room_from : FuncData
  f_room : Addr
  d_room : FuncData
  f__law_mixed : Addr
  d__law_mixed : FuncData
  f__law_pile : Addr
  d__law_pile : FuncData
  f__law_take : Addr
  d__law_take : FuncData
  f__law_order : Addr
  d__law_order : FuncData
  f__law_room : Addr
  d__law_room : FuncData
  f__law_hours : Addr
  d__law_hours : FuncData
  f__law_needs : Addr
  d__law_needs : FuncData
  f__law_job : Addr
  d__law_job : FuncData
  f__law_behind : Addr
  d__law_behind : FuncData
  f__law_sum : Addr
  d__law_sum : FuncData
  f__law_good : Addr
  d__law_good : FuncData
  f_law : Addr
  d_law : FuncData
  a_JobError : Addr
  a_NoJob : Addr
  a_NoTask : Addr
  a_NoHour : Addr
  k_MOST_ROOM : Tok
  k_USUAL_ROOM : Tok
structure Txt (K : PySem.W.Frag) (mg : Str → Option Value) (A : Ad) : Prop where
  F_is_whole : FnP K "is_whole" s_is_whole A.f_is_whole A.d_is_whole
  g_is_whole : mg "is_whole" = some (.ref A.f_is_whole)
  b_is_whole : Binds K A.d_is_whole ["thing"] []
  F_is_from : FnP K "is_from" s_is_from A.f_is_from A.d_is_from
  g_is_from : mg "is_from" = some (.ref A.f_is_from)
  b_is_from : Binds K A.d_is_from ["thing", "least"] []
  F_is_below : FnP K "is_below" s_is_below A.f_is_below A.d_is_below
  g_is_below : mg "is_below" = some (.ref A.f_is_below)
  b_is_below : Binds K A.d_is_below ["thing", "many"] []
  F_is_due : FnP K "is_due" s_is_due A.f_is_due A.d_is_due
  g_is_due : mg "is_due" = some (.ref A.f_is_due)
  b_is_due : Binds K A.d_is_due ["thing"] []
  F_is_need : FnP K "is_need" s_is_need A.f_is_need A.d_is_need
  g_is_need : mg "is_need" = some (.ref A.f_is_need)
  b_is_need : Binds K A.d_is_need ["thing", "many"] []
  F_are_rooms : FnP K "are_rooms" s_are_rooms A.f_are_rooms A.d_are_rooms
  g_are_rooms : mg "are_rooms" = some (.ref A.f_are_rooms)
  b_are_rooms : Binds K A.d_are_rooms ["thing"] []
  F_has_ring : FnP K "has_ring" s_has_ring A.f_has_ring A.d_has_ring
  g_has_ring : mg "has_ring" = some (.ref A.f_has_ring)
  b_has_ring : Binds K A.d_has_ring ["needs"] []
  F_are_parts : FnP K "are_parts" s_are_parts A.f_are_parts A.d_are_parts
  g_are_parts : mg "are_parts" = some (.ref A.f_are_parts)
  b_are_parts : Binds K A.d_are_parts ["thing"] []
  F_is_job : FnP K "is_job" s_is_job A.f_is_job A.d_is_job
  g_is_job : mg "is_job" = some (.ref A.f_is_job)
  b_is_job : Binds K A.d_is_job ["thing"] []
  F_look_at_job : FnP K "look_at_job" s_look_at_job A.f_look_at_job A.d_look_at_job
  g_look_at_job : mg "look_at_job" = some (.ref A.f_look_at_job)
  b_look_at_job : Binds K A.d_look_at_job ["job"] []
  F_look_at_task : FnP K "look_at_task" s_look_at_task A.f_look_at_task A.d_look_at_task
  g_look_at_task : mg "look_at_task" = some (.ref A.f_look_at_task)
  b_look_at_task : Binds K A.d_look_at_task ["job", "task"] []
  F_tasks_behind : FnP K "tasks_behind" s_tasks_behind A.f_tasks_behind A.d_tasks_behind
  g_tasks_behind : mg "tasks_behind" = some (.ref A.f_tasks_behind)
  b_tasks_behind : Binds K A.d_tasks_behind ["needs", "task"] []
  F_is_behind : FnP K "is_behind" s_is_behind A.f_is_behind A.d_is_behind
  g_is_behind : mg "is_behind" = some (.ref A.f_is_behind)
  b_is_behind : Binds K A.d_is_behind ["job", "a", "b"] []
  F_room_from : FnP K "room_from" s_room_from A.f_room_from A.d_room_from
  g_room_from : mg "room_from" = some (.ref A.f_room_from)
  b_room_from : Binds K A.d_room_from ["rooms", "s", "e"] []
  F_room : FnP K "room" s_room A.f_room A.d_room
  g_room : mg "room" = some (.ref A.f_room)
  b_room : Binds K A.d_room ["job", "s", "e"] []
  F__law_mixed : FnP K "_law_mixed" s__law_mixed A.f__law_mixed A.d__law_mixed
  g__law_mixed : mg "_law_mixed" = some (.ref A.f__law_mixed)
  b__law_mixed : Binds K A.d__law_mixed ["_law_cell", "_law_k"] []
  F__law_pile : FnP K "_law_pile" s__law_pile A.f__law_pile A.d__law_pile
  g__law_pile : mg "_law_pile" = some (.ref A.f__law_pile)
  b__law_pile : Binds K A.d__law_pile ["_law_script", "_law_k"] []
  F__law_take : FnP K "_law_take" s__law_take A.f__law_take A.d__law_take
  g__law_take : mg "_law_take" = some (.ref A.f__law_take)
  b__law_take : Binds K A.d__law_take ["_law_pile_here", "_law_size"] []
  F__law_order : FnP K "_law_order" s__law_order A.f__law_order A.d__law_order
  g__law_order : mg "_law_order" = some (.ref A.f__law_order)
  b__law_order : Binds K A.d__law_order ["_law_pile_here", "_law_many"] []
  F__law_room : FnP K "_law_room" s__law_room A.f__law_room A.d__law_room
  g__law_room : mg "_law_room" = some (.ref A.f__law_room)
  b__law_room : Binds K A.d__law_room ["_law_rooms", "_law_hour"] []
  F__law_hours : FnP K "_law_hours" s__law_hours A.f__law_hours A.d__law_hours
  g__law_hours : mg "_law_hours" = some (.ref A.f__law_hours)
  b__law_hours : Binds K A.d__law_hours ["_law_pile_here", "_law_order_here", "_law_rooms"] []
  F__law_needs : FnP K "_law_needs" s__law_needs A.f__law_needs A.d__law_needs
  g__law_needs : mg "_law_needs" = some (.ref A.f__law_needs)
  b__law_needs : Binds K A.d__law_needs ["_law_pile_here", "_law_order_here", "_law_hours_here"] []
  F__law_job : FnP K "_law_job" s__law_job A.f__law_job A.d__law_job
  g__law_job : mg "_law_job" = some (.ref A.f__law_job)
  b__law_job : Binds K A.d__law_job ["_law_pile_here", "_law_most", "_law_wide"] []
  F__law_behind : FnP K "_law_behind" s__law_behind A.f__law_behind A.d__law_behind
  g__law_behind : mg "_law_behind" = some (.ref A.f__law_behind)
  b__law_behind : Binds K A.d__law_behind ["_law_needs_here", "_law_task"] []
  F__law_sum : FnP K "_law_sum" s__law_sum A.f__law_sum A.d__law_sum
  g__law_sum : mg "_law_sum" = some (.ref A.f__law_sum)
  b__law_sum : Binds K A.d__law_sum ["_law_rooms", "_law_first", "_law_last"] []
  F__law_good : FnP K "_law_good" s__law_good A.f__law_good A.d__law_good
  g__law_good : mg "_law_good" = some (.ref A.f__law_good)
  b__law_good : Binds K A.d__law_good ["_law_pile_here", "_law_job_here"] []
  F_law : FnP K "law" s_law A.f_law A.d_law
  g_law : mg "law" = some (.ref A.f_law)
  b_law : Binds K A.d_law ["_law_script"] []
  c_MOST_ROOM : mg "MOST_ROOM" = some (.int 3 A.k_MOST_ROOM)
  c_USUAL_ROOM : mg "USUAL_ROOM" = some (.int 2 A.k_USUAL_ROOM)
  m_all : mg "all" = none
  m_bool : mg "bool" = none
  m_int : mg "int" = none
  m_isinstance : mg "isinstance" = none
  m_len : mg "len" = none
  m_list : mg "list" = none
  m_max : mg "max" = none
  m_min : mg "min" = none
  m_range : mg "range" = none
  m_set : mg "set" = none
  m_str : mg "str" = none
  m_sum : mg "sum" = none
  m_tuple : mg "tuple" = none
end Dd
namespace Dd
open PySem PySem.Spec PyProof.Rows L2
open Evl (Ex)
local macro_rules | `(tactic| walk_at "ev") => `(tactic| first
  | ((with_reducible apply ev_var); rfl)
  | (with_reducible exact ev_int)
  | (with_reducible exact ev_bl)
  | (with_reducible exact ev_str)
  | (with_reducible exact ev_non)
  | ((with_reducible apply ev_add) <;> walk_at "eb")
  | ((with_reducible apply ev_sub) <;> walk_at "eb")
  | ((with_reducible apply ev_lt) <;> walk_at "eb")
  | ((with_reducible apply ev_le) <;> walk_at "eb")
  | ((with_reducible apply ev_gt) <;> walk_at "eb")
  | ((with_reducible apply ev_ge) <;> walk_at "eb")
  | ((with_reducible apply ev_eqI) <;> walk_at "eb")
  | ((with_reducible apply ev_neI) <;> walk_at "eb")
  | ((with_reducible apply ev_isN); walk_at "eb")
  | ((with_reducible apply ev_notN); walk_at "eb")
  | ((with_reducible apply ev_isInt); walk_at "eb")
  | ((with_reducible apply ev_isBool); walk_at "eb")
  | ((with_reducible apply ev_isList); walk_at "eb")
  | ((with_reducible apply ev_isTup); walk_at "eb")
  | ((with_reducible apply ev_isStr); walk_at "eb")
  | ((with_reducible apply ev_notV); walk_at "eb")
  | ((with_reducible apply ev_lenL); walk_at "eb")
  | ((with_reducible apply ev_lenT); walk_at "eb")
  | ((with_reducible apply ev_max2) <;> walk_at "eb")
  | ((with_reducible apply ev_min2) <;> walk_at "eb")
  | ((with_reducible apply ev_neg); walk_at "eb")
  | ((with_reducible apply ev_t0); walk_at "ev")
  | ((with_reducible apply ev_t1); walk_at "ev")
  | ((with_reducible apply ev_t2); walk_at "ev")
  | ((with_reducible apply ev_t3); walk_at "ev")
  | ((with_reducible apply ev_int1); walk_at "eb"))
local macro_rules | `(tactic| walk_at "eb") => `(tactic| first
  | ((with_reducible apply eb_own); rfl)
  | ((with_reducible apply EvD.b); walk_at "ev"))
local macro_rules | `(tactic| walk_at "et") => `(tactic| first
  | ((with_reducible apply et_test); walk_at "eb")
  | ((with_reducible apply et_B); walk_at "eb")
  | ((with_reducible apply et_not); walk_at "et"))
local macro_rules | `(tactic| walk_at "evi") => `(tactic| (apply EvD.is; (focus walk_at "ev"); rfl))
local macro_rules | `(tactic| walk_at "ebi") => `(tactic| (apply EvB.is; (focus walk_at "eb"); rfl))
local macro_rules | `(tactic| walk_at "eti") => `(tactic| (apply EvT.is; (focus walk_at "et"); rfl))
section
variable {P : Program} {w : World} {K : PySem.W.Frag} {mg : Str → Option Value} {base : Heap} {A : Ad}
def isWhole : PyData → Bool
  | .int _ => true
  | _ => false
theorem isWhole_eq (d : PyData) : (isInt d && !isBool d) = isWhole d := by cases d <;> rfl
def sp_is_whole : Sp := sp1 (fun _ => True) (fun d => .bool (isWhole d))
theorem ok_is_whole (T : Txt K mg A) : FnOk P w K mg base CX0 1 A.f_is_whole A.d_is_whole ["thing"] sp_is_whole := by
  refine fnp_ok T.F_is_whole sc_is_whole (fun vs H Q E h => ?_) (fun cdv Ar outer s H vs Q E hr h => ?_)
  · obtain ⟨_, _, _, rfl, _⟩ := h; rfl
  · obtain ⟨F, v1, d1, rfl, k, h1, hp, q⟩ := h
    refine ⟨_, (pss_one (ps_ret (pe_and (pe_callB (cIsi (K := K) rfl) (by rfl) T.m_isinstance (by decide +kernel) (pa_cons (pv 0) (pa_cons (pe_bltn (v := .ty "int") (by rfl) T.m_int (by decide +kernel) rfl) pa_nil))) (pe_one (pe_not (pe_callB (cIsi (K := K) rfl) (by rfl) T.m_isinstance (by decide +kernel) (pa_cons (pv 0) (pa_cons (pe_bltn (v := .ty "bool") (by rfl) T.m_bool (by decide +kernel) rfl) pa_nil)))))))), ?_⟩
    try dsimp only [cxOf, Cx.nox, Cx.wish, Cx.blk]
    have A0 := at_start (K := K) (M := M0) (N := N_is_whole) k (.cons (ent_d h1) .nil) (apart_no rfl) (Nat.le_of_ble_eq_true rfl)
    refine a_ret (EvD.is (ev_andV ?_ fun _ => ?_) (by rw [isWhole_eq])) (fun v F2 H2 n d => q v F2 H2 n d) A0
    · walk_at "eb"
    · walk_at "ev"
theorem ev_is_whole {C : Fx} {ta : TE} {e : En} {x : PyData} {E : XK} (ha : EvD C ta e x) : EvD C (tCall sp_is_whole [] E (tCons ta tNil)) e (.bool (isWhole x)) := ev_call1 ha trivial
local macro_rules | `(tactic| walk_at "ev") => `(tactic| ((with_reducible apply ev_is_whole) <;> walk_at "ev"))

def isFrom (d : PyData) (n : Int) : Bool := match d with
  | .int i => decide (n ≤ i)
  | _ => false
def spDI (f : PyData → Int → Bool) : Sp := fun vs H Q E => ∃ F v1 d1 n, vs = [v1, .int n] ∧ Ex F H ∧ Dq F v1 d1 ∧ ∀ F2 H2, Nx F H F2 H2 → Q (.bl (f d1 n)) H2
theorem ev_DI {C : Fx} {ta tb : TE} {e : En} {x : PyData} {n : Int} {E : XK} {f : PyData → Int → Bool} (ha : EvD C ta e x) (hb : EvD C tb e (.int n)) : EvD C (tCall (spDI f) [] E (tCons ta (tCons tb tNil))) e (.bool (f x n)) := fun s F H k En Q q =>
  ha s F H k En _ fun v F1 H1 n1 d1 => hb s F1 H1 n1.k (En.nx n1) _ fun w F2 H2 n2 d2 => by
    cases d2
    exact ⟨F2, v, x, n, rfl, n2.k, Dq.up d1 n2.f, fun F3 H3 n3 => q _ F3 H3 ((n1.trans n2).trans n3) (.bl _)⟩
def sp_is_from : Sp := spDI isFrom
theorem ok_is_from (T : Txt K mg A) : FnOk P w K mg base CX0 2 A.f_is_from A.d_is_from ["thing", "least"] sp_is_from := by
  refine fnp_ok T.F_is_from sc_is_from (fun vs H Q E h => ?_) (fun cdv Ar outer s H vs Q E hr h => ?_)
  · obtain ⟨_, _, _, _, rfl, _⟩ := h; rfl
  · obtain ⟨F, v1, d1, n, rfl, k, h1, q⟩ := h
    refine ⟨_, (pss_one (ps_ret (pe_and (pe_call (ok_is_whole T) (hr.mono (by decide)) (by rfl) T.g_is_whole T.F_is_whole.kp T.b_is_whole .nil pass0 (pa_cons (pv 0) pa_nil)) (pe_one (pe_cmpR op_ge (pv 0) (pv 1) (nomark _)))))), ?_⟩
    try dsimp only [cxOf, Cx.nox, Cx.wish, Cx.blk]
    have A0 := at_start (K := K) (M := M0) (N := N_is_from) k (.cons (ent_d h1) (.cons (ent_d (.int n)) .nil)) (apart_no rfl) (Nat.le_of_ble_eq_true rfl)
    refine a_ret (d := .bool (isFrom d1 n)) ?_ (fun v F2 H2 n d => by cases d; exact q F2 H2 n) A0
    have w : EvB ⟨K, M0, F, H⟩ (tCall sp_is_whole [] E0 (tCons (tVar 0) tNil)) ([Ent.dat d1, Ent.dat (.int n)] ++ List.replicate (N_is_from.length - [v1, .int n].length) Ent.un) (.bool (isWhole d1)) := by walk_at "eb"
    cases d1 with
    | int i => exact ev_andV (a := true) (b := decide (n ≤ i)) w fun _ => by walk_at "ev"
    | dict x => cases h1
    | _ => exact ev_andV (a := false) (b := false) w (fun h => by cases h)
theorem ev_is_from {C : Fx} {ta tb : TE} {e : En} {x : PyData} {n : Int} {E : XK} (ha : EvD C ta e x) (hb : EvD C tb e (.int n)) : EvD C (tCall sp_is_from [] E (tCons ta (tCons tb tNil))) e (.bool (isFrom x n)) := ev_DI ha hb
local macro_rules | `(tactic| walk_at "ev") => `(tactic| ((with_reducible apply ev_is_from) <;> walk_at "ev"))

def isBelow (d : PyData) (n : Int) : Bool := match d with
  | .int i => decide (0 ≤ i) && decide (i < n)
  | _ => false
def sp_is_below : Sp := spDI isBelow
theorem ok_is_below (T : Txt K mg A) : FnOk P w K mg base CX0 2 A.f_is_below A.d_is_below ["thing", "many"] sp_is_below := by
  refine fnp_ok T.F_is_below sc_is_below (fun vs H Q E h => ?_) (fun cdv Ar outer s H vs Q E hr h => ?_)
  · obtain ⟨_, _, _, _, rfl, _⟩ := h; rfl
  · obtain ⟨F, v1, d1, n, rfl, k, h1, q⟩ := h
    refine ⟨_, (pss_one (ps_ret (pe_and (pe_call (ok_is_whole T) (hr.mono (by decide)) (by rfl) T.g_is_whole T.F_is_whole.kp T.b_is_whole .nil pass0 (pa_cons (pv 0) pa_nil)) (pe_and (pe_cmpR op_le pe_int (pv 0) (nomark _)) (pe_one (pe_cmpR op_lt (pv 0) (pv 1) (nomark _))))))), ?_⟩
    try dsimp only [cxOf, Cx.nox, Cx.wish, Cx.blk]
    have A0 := at_start (K := K) (M := M0) (N := N_is_below) k (.cons (ent_d h1) (.cons (ent_d (.int n)) .nil)) (apart_no rfl) (Nat.le_of_ble_eq_true rfl)
    refine a_ret (d := .bool (isBelow d1 n)) ?_ (fun v F2 H2 n d => by cases d; exact q F2 H2 n) A0
    have w : EvB ⟨K, M0, F, H⟩ (tCall sp_is_whole [] E0 (tCons (tVar 0) tNil)) ([Ent.dat d1, Ent.dat (.int n)] ++ List.replicate (N_is_below.length - [v1, .int n].length) Ent.un) (.bool (isWhole d1)) := by walk_at "eb"
    cases d1 with
    | int i => exact ev_andV (a := true) (b := decide (0 ≤ i) && decide (i < n)) w fun _ => ev_andV (by walk_at "eb") fun _ => by walk_at "ev"
    | dict x => cases h1
    | _ => exact ev_andV (a := false) (b := false) w (fun h => by cases h)
theorem ev_is_below {C : Fx} {ta tb : TE} {e : En} {x : PyData} {n : Int} {E : XK} (ha : EvD C ta e x) (hb : EvD C tb e (.int n)) : EvD C (tCall sp_is_below [] E (tCons ta (tCons tb tNil))) e (.bool (isBelow x n)) := ev_DI ha hb
local macro_rules | `(tactic| walk_at "ev") => `(tactic| ((with_reducible apply ev_is_below) <;> walk_at "ev"))

def isDue (d : PyData) : Bool := match d with
  | .none => true
  | .int i => decide (0 ≤ i)
  | _ => false
theorem isDue_eq (d : PyData) : (isNon d || isFrom d 0) = isDue d := by cases d <;> rfl
def sp_is_due : Sp := sp1 (fun _ => True) (fun d => .bool (isDue d))
theorem ok_is_due (T : Txt K mg A) : FnOk P w K mg base CX0 3 A.f_is_due A.d_is_due ["thing"] sp_is_due := by
  refine fnp_ok T.F_is_due sc_is_due (fun vs H Q E h => ?_) (fun cdv Ar outer s H vs Q E hr h => ?_)
  · obtain ⟨_, _, _, rfl, _⟩ := h; rfl
  · obtain ⟨F, v1, d1, rfl, k, h1, hp, q⟩ := h
    refine ⟨_, (pss_one (ps_ret (pe_or (pe_cmp (pc_isN (pv 0))) (pe_one (pe_call (ok_is_from T) (hr.mono (by decide)) (by rfl) T.g_is_from T.F_is_from.kp T.b_is_from .nil pass0 (pa_cons (pv 0) (pa_cons pe_int pa_nil))))))), ?_⟩
    try dsimp only [cxOf, Cx.nox, Cx.wish, Cx.blk]
    have A0 := at_start (K := K) (M := M0) (N := N_is_due) k (.cons (ent_d h1) .nil) (apart_no rfl) (Nat.le_of_ble_eq_true rfl)
    refine a_ret (EvD.is (ev_orV ?_ fun _ => ?_) (by rw [isDue_eq])) (fun v F2 H2 n d => q v F2 H2 n d) A0
    · walk_at "eb"
    · walk_at "ev"
theorem ev_is_due {C : Fx} {ta : TE} {e : En} {x : PyData} {E : XK} (ha : EvD C ta e x) : EvD C (tCall sp_is_due [] E (tCons ta tNil)) e (.bool (isDue x)) := ev_call1 ha trivial
local macro_rules | `(tactic| walk_at "ev") => `(tactic| ((with_reducible apply ev_is_due) <;> walk_at "ev"))

def needTest (d : PyData) (n : Int) : Bool := match d with
  | .tuple [x, y] => isBelow x n && isBelow y n
  | _ => false
def needNe (d : PyData) : Bool := match d with
  | .tuple [.int a, .int b] => !decide (a = b)
  | _ => false
def isNeed (d : PyData) (n : Int) : Bool := needTest d n && needNe d
theorem isBelow_int {d : PyData} {n : Int} (h : isBelow d n = true) : ∃ i, d = .int i ∧ 0 ≤ i ∧ i < n := by
  cases d with
  | int i =>
    simp only [isBelow, Bool.and_eq_true, decide_eq_true_eq] at h
    exact ⟨i, rfl, h.1, h.2⟩
  | _ => cases h
def sp_is_need : Sp := spDI isNeed
set_option maxHeartbeats 8000000 in
theorem ok_is_need (T : Txt K mg A) : FnOk P w K mg base CX0 3 A.f_is_need A.d_is_need ["thing", "many"] sp_is_need := by
  refine fnp_ok T.F_is_need sc_is_need (fun vs H Q E h => ?_) (fun cdv Ar outer s H vs Q E hr h => ?_)
  · obtain ⟨_, _, _, _, rfl, _⟩ := h; rfl
  · obtain ⟨F, v1, d1, n, rfl, k, h1, q⟩ := h
    refine ⟨_, (pss_cons (ps_if (PW.pt (pw_or (pt_not (pt_val (pe_callB (cIsi (K := K) rfl) (by rfl) T.m_isinstance (by decide +kernel) (pa_cons (pv 0) (pa_cons (pe_bltn (v := .ty "tuple") (by rfl) T.m_tuple (by decide +kernel) rfl) pa_nil))))) (pw_or (pt_cmpR op_ne (pe_callB (cLen (K := K) rfl) (by rfl) T.m_len (by decide +kernel) (pa_cons (pv 0) pa_nil)) pe_int (nomark _)) (pw_or1 (pt_not (pt_val (pe_callB (cAll (K := K) rfl rfl) (by rfl) T.m_all (by decide +kernel) (pa_cons (pe_lc (own := [("task", 2)]) rfl sc_is_need.nd (piT (K := K) rfl (pv 0)) (blkOk_by (own := [("task", 2)]) (N := N_is_need) (sc := defScope s_is_need) (by decide +kernel)) (fun _ _ _ _ _ => (pg_name (i := 2) sc_is_need.nd rfl (by first | exact Or.inl rfl | exact Or.inr rfl))) (fun _ _ _ _ _ => pts_nil) (fun _ _ _ _ _ => (pe_call (ok_is_below T) (hr.mono (by decide)) (by rfl) T.g_is_below T.F_is_below.kp T.b_is_below .nil pass0 (pa_cons (pv 2) (pa_cons (pv 1) pa_nil))))) pa_nil)))))))) (pss_one (ps_ret pe_bl)) pss_nil)
      (pss_one (ps_ret (pe_cmpR op_ne (pe_ix (ixT (K := K) rfl) (pv 0) pe_int (fun _ _ => rfl)) (pe_ix (ixT (K := K) rfl) (pv 0) pe_int (fun _ _ => rfl)) (nomark _))))), ?_⟩
    try dsimp only [cxOf, Cx.nox, Cx.wish, Cx.blk]
    have A0 := at_start (K := K) (M := M0) (N := N_is_need) k (.cons (ent_d h1) (.cons (ent_d (.int n)) .nil)) (apart_no rfl) (Nat.le_of_ble_eq_true rfl)
    have fin : ∀ (b : Bool) v F2 H2, b = isNeed d1 n → Nx F H F2 H2 → Dq F2 v (.bool b) → Q v H2 := fun b v F2 H2 e n d => by cases d; rw [e]; exact q F2 H2 n
    refine q_when (b := !needTest d1 n) ?_ (fun hb s H A => ?_) (fun hb s H A => ?_) A0
    · cases d1 with
      | tuple ds =>
        refine et_or2 (a := false) (b := !needTest (.tuple ds) n) (by walk_at "eti") (fun _ => ?_) rfl
        refine et_or2 (a := !decide ((ds.length : Int) = 2)) (b := !(ds.all fun d => isBelow d n)) (by walk_at "eti") (fun _ => ?_) ?_
        · refine et_not (et_B (EvD.b (ev_allC (en_lcT0 _ (wok_name (by decide)) (by walk_at "ev") ?_ fun d _ => ⟨_, tg_name, by walk_at "ev"⟩))))
          rename_i hl
          simp at hl
          omega
        · match ds with
          | [] => rfl
          | [_] => rfl
          | [x, y] => simp [needTest]
          | _ :: _ :: _ :: r =>
            have h2 : ¬ (((r.length + 1 + 1 + 1 : Nat) : Int) = 2) := by omega
            show (!decide (((r.length + 1 + 1 + 1 : Nat) : Int) = 2) || _) = true
            rw [decide_eq_false h2]
            rfl
      | dict x => cases h1
      | _ => exact et_or2 (a := true) (b := true) (by walk_at "eti") (fun h => by cases h) rfl
    · refine a_ret ev_bl (fun v F2 H2 nx d => fin false v F2 H2 ?_ nx d) A
      have hb' : needTest d1 n = false := by simpa using hb
      simp [isNeed, hb']
    · have hb' : needTest d1 n = true := by simpa using hb
      obtain ⟨a, b, rfl⟩ : ∃ a b, d1 = .tuple [.int a, .int b] := by
        cases d1 with
        | tuple ds =>
          match ds, hb' with
          | [x, y], hb' =>
            simp only [needTest, Bool.and_eq_true] at hb'
            obtain ⟨a, rfl, _⟩ := isBelow_int hb'.1
            obtain ⟨b, rfl, _⟩ := isBelow_int hb'.2
            exact ⟨a, b, rfl⟩
        | _ => cases hb'
      refine a_ret (ev_neI (i := a) (j := b) (by walk_at "eb") (by walk_at "eb")) (fun v F2 H2 nx d => fin _ v F2 H2 ?_ nx d) A
      simp [isNeed, hb', needNe]
theorem ev_is_need {C : Fx} {ta tb : TE} {e : En} {x : PyData} {n : Int} {E : XK} (ha : EvD C ta e x) (hb : EvD C tb e (.int n)) : EvD C (tCall sp_is_need [] E (tCons ta (tCons tb tNil))) e (.bool (isNeed x n)) := ev_DI ha hb
local macro_rules | `(tactic| walk_at "ev") => `(tactic| ((with_reducible apply ev_is_need) <;> walk_at "ev"))

def areRooms (d : PyData) : Bool := match d with
  | .list ds => ds.all fun x => isBelow x 4
  | _ => false
def lenOk : PyData → Prop
  | .list ds => ds.length ≤ 50000
  | .tuple ds => ds.length ≤ 50000
  | _ => True
def sp_are_rooms : Sp := sp1 lenOk (fun d => .bool (areRooms d))
theorem ok_are_rooms (T : Txt K mg A) : FnOk P w K mg base CX0 3 A.f_are_rooms A.d_are_rooms ["thing"] sp_are_rooms := by
  refine fnp_ok T.F_are_rooms sc_are_rooms (fun vs H Q E h => ?_) (fun cdv Ar outer s H vs Q E hr h => ?_)
  · obtain ⟨_, _, _, rfl, _⟩ := h; rfl
  · obtain ⟨F, v1, d1, rfl, k, h1, hp, q⟩ := h
    refine ⟨_, (pss_one (ps_ret (pe_and (pe_callB (cIsi (K := K) rfl) (by rfl) T.m_isinstance (by decide +kernel) (pa_cons (pv 0) (pa_cons (pe_bltn (v := .ty "list") (by rfl) T.m_list (by decide +kernel) rfl) pa_nil))) (pe_one (pe_callB (cAll (K := K) rfl rfl) (by rfl) T.m_all (by decide +kernel) (pa_cons (pe_lc (own := [("number", 1)]) rfl sc_are_rooms.nd (piL (K := K) rfl (pv 0)) (blkOk_by (own := [("number", 1)]) (N := N_are_rooms) (sc := defScope s_are_rooms) (by decide +kernel)) (fun _ _ _ _ _ => (pg_name (i := 1) sc_are_rooms.nd rfl (by first | exact Or.inl rfl | exact Or.inr rfl))) (fun _ _ _ _ _ => pts_nil) (fun _ _ _ _ _ => (pe_call (ok_is_below T) (hr.mono (by decide)) (by rfl) T.g_is_below T.F_is_below.kp T.b_is_below .nil pass0 (pa_cons (pv 1) (pa_cons (pe_op op_add (pe_glob (v := .int 3) rfl T.c_MOST_ROOM ⟨_, rfl⟩) pe_int) pa_nil))))) pa_nil)))))), ?_⟩
    try dsimp only [cxOf, Cx.nox, Cx.wish, Cx.blk]
    have A0 := at_start (K := K) (M := M0) (N := N_are_rooms) k (.cons (ent_d h1) .nil) (apart_no rfl) (Nat.le_of_ble_eq_true rfl)
    refine a_ret (d := .bool (areRooms d1)) ?_ (fun v F2 H2 n d => q v F2 H2 n d) A0
    cases d1 with
    | list ds => exact ev_and2 (a := true) (b := ds.all fun x => isBelow x 4) (by walk_at "ebi") (fun _ => ev_allC (en_lc0 _ (wok_name (by decide)) (by walk_at "ev") hp fun d _ => ⟨_, tg_name, by walk_at "evi"⟩)) rfl
    | dict x => cases h1
    | _ => exact ev_and2 (a := false) (b := false) (by walk_at "ebi") (fun h => by cases h) rfl

def pairD (p : Int × Int) : PyData := .tuple [.int p.1, .int p.2]
def needsD (l : List (Int × Int)) : PyData := .list (l.map pairD)
def ringStep (l : List (Int × Int)) : List (Int × Int) := l.filter fun p => l.any fun q => decide (q.2 = p.1)
theorem ringStep_le (l : List (Int × Int)) : (ringStep l).length ≤ l.length := List.length_filter_le _ _
def ringFix (l : List (Int × Int)) : List (Int × Int) := if (ringStep l).length < l.length then ringFix (ringStep l) else l
termination_by l.length
def hasRing (l : List (Int × Int)) : Bool := decide (0 < (ringFix l).length)
theorem ringStep_self {l : List (Int × Int)} (h : (ringStep l).length = l.length) : ringStep l = l := List.filter_eq_self.mpr ((List.length_filter_eq_length_iff).mp h)
theorem ringFix_step (l : List (Int × Int)) : ringFix (ringStep l) = ringFix l := by
  have h := ringStep_le l
  by_cases c : (ringStep l).length < l.length
  · conv => rhs; rw [ringFix, if_pos c]
  · rw [ringStep_self (by omega)]
theorem ringFix_end {l : List (Int × Int)} (h : (ringStep l).length = l.length) : ringFix l = l := by rw [ringFix, if_neg (by omega)]
theorem valV_fold {α : Type} (kf : α → Int) (vf : α → V) (n : Int) : ∀ (ds : List α) (acc : List (Key × V)), (valV (ds.foldl (fun acc d => putK acc (.inl (kf d)) (vf d)) acc) (.inl n)).isSome = ((valV acc (.inl n)).isSome || ds.any fun d => decide (kf d = n))
  | [], acc => by simp
  | d :: ds, acc => by
    rw [List.foldl_cons, valV_fold kf vf n ds, valV_put, List.any_cons]
    by_cases c : kf d = n
    · subst c
      simp
    · have c' : ¬ (Sum.inl n : Key) = Sum.inl (kf d) := fun z => c (Sum.inl.inj z).symm
      rw [if_neg c', decide_eq_false c, Bool.false_or]
def dA : PyData → Int
  | .tuple (.int a :: _) => a
  | _ => 0
def dB : PyData → Int
  | .tuple (_ :: .int b :: _) => b
  | _ => 0
def sp_has_ring : Sp := fun vs H Q E => ∃ F v l, vs = [v] ∧ Ex F H ∧ Dq F v (needsD l) ∧ l.length ≤ 10000 ∧ ∀ F2 H2, Nx F H F2 H2 → Q (.bl (hasRing l)) H2
theorem mem_pairs {l : List (Int × Int)} {d : PyData} (h : d ∈ l.map pairD) : ∃ a b, d = .tuple [.int a, .int b] := by
  obtain ⟨p, _, rfl⟩ := List.mem_map.mp h
  exact ⟨p.1, p.2, rfl⟩
set_option maxHeartbeats 8000000 in
theorem ok_has_ring (T : Txt K mg A) : FnOk P w K mg base CX0 1 A.f_has_ring A.d_has_ring ["needs"] sp_has_ring := by
  refine fnp_ok T.F_has_ring sc_has_ring (fun vs H Q E h => ?_) (fun cdv Ar outer s H vs Q E hr h => ?_)
  · obtain ⟨_, _, _, rfl, _⟩ := h; rfl
  · obtain ⟨F, v1, l0, rfl, k, h1, hz, q⟩ := h
    refine ⟨_, (pss_cons (ps_set (i := 1) sc_has_ring.nd rfl (by first | exact Or.inl rfl | exact Or.inr rfl) (pe_callTy (cList (K := K) rfl) (by rfl) T.m_list (by decide +kernel) (pa_cons (pv 0) pa_nil)))
      (pss_cons (ps_set (i := 2) sc_has_ring.nd rfl (by first | exact Or.inl rfl | exact Or.inr rfl) (pe_un un_neg pe_int))
      (pss_cons (ps_while PassesOwn.never (pt_cmpR op_ne (pv 2) (pe_callB (cLen (K := K) rfl) (by rfl) T.m_len (by decide +kernel) (pa_cons (pv 1) pa_nil)) (nomark _)) (pss_cons (ps_set (i := 2) sc_has_ring.nd rfl (by first | exact Or.inl rfl | exact Or.inr rfl) (pe_callB (cLen (K := K) rfl) (by rfl) T.m_len (by decide +kernel) (pa_cons (pv 1) pa_nil)))
      (pss_cons (ps_set (i := 3) sc_has_ring.nd rfl (by first | exact Or.inl rfl | exact Or.inr rfl) (pe_dc (own := [("a", 4), ("b", 5)]) rfl sc_has_ring.nd (piL (K := K) rfl (pv 1)) (blkOk_by (own := [("a", 4), ("b", 5)]) (N := N_has_ring) (sc := defScope s_has_ring) (by decide +kernel)) (fun _ _ _ _ _ => (pgT (K := K) (n := 2) rfl rfl (pgs_cons (pg_name (i := 4) sc_has_ring.nd rfl (by first | exact Or.inl rfl | exact Or.inr rfl)) (pgs_cons (pg_name (i := 5) sc_has_ring.nd rfl (by first | exact Or.inl rfl | exact Or.inr rfl)) pgs_nil)))) (fun _ _ _ _ _ => pts_nil) (fun _ _ _ _ _ => (pv 5)) (fun _ _ _ _ _ => pe_bl)))
      (pss_one (ps_setLc (i := 1) (own := [("a", 4), ("b", 5)]) rfl sc_has_ring.nd rfl rfl (sw_true rfl rfl rfl (by decide +kernel)) (piL (K := K) rfl (pv 1)) (blkOk_by (own := [("a", 4), ("b", 5)]) (N := N_has_ring) (sc := defScope s_has_ring) (by decide +kernel)) (fun _ _ _ _ _ => (pgT (K := K) (n := 2) rfl rfl (pgs_cons (pg_name (i := 4) sc_has_ring.nd rfl (by first | exact Or.inl rfl | exact Or.inr rfl)) (pgs_cons (pg_name (i := 5) sc_has_ring.nd rfl (by first | exact Or.inl rfl | exact Or.inr rfl)) pgs_nil)))) (fun _ _ _ _ _ => (pts_one (pt_cmp (pc_din (hu_of hr) (pv 4) (pv 3))))) (fun _ _ _ _ _ => (pe_tup (pa_cons (pv 4) (pa_cons (pv 5) pa_nil)))))))))
      (pss_one (ps_ret (pe_cmpR op_gt (pe_callB (cLen (K := K) rfl) (by rfl) T.m_len (by decide +kernel) (pa_cons (pv 1) pa_nil)) pe_int (nomark _))))))), ?_⟩
    try dsimp only [cxOf, Cx.nox, Cx.wish, Cx.blk]
    have A0 := at_start (K := K) (M := M0) (N := N_has_ring) k (.cons (ent_d h1) .nil) (apart_no rfl) (Nat.le_of_ble_eq_true rfl)
    refine q_asg (en_list (ds := l0.map pairD) (by walk_at "ev")).dat (fun s H A => ?_) A0
    refine q_asg (d := .int (-1)) (by walk_at "ev") (fun s H A => ?_) A
    refine q_while (fun m e' => ∃ l sz x3, e' = [.dat (needsD l0), .dat (needsD l), .dat (.int sz), x3, .un, .un] ∧ ringFix l = ringFix l0 ∧ (sz = l.length → (ringStep l).length = l.length) ∧ m = 2 * l.length + (if sz = (l.length : Int) then 0 else 1) ∧ l.length ≤ l0.length)
      _ ⟨l0, -1, .un, rfl, rfl, fun h => by omega, rfl, Nat.le_refl _⟩ ?_ A
    rintro m e' ⟨l, sz, x3, rfl, hf, hs, hm, hl⟩
    refine ⟨!decide (sz = (l.length : Int)), ?_, fun hb s H A => ?_, fun hb s H A => ?_⟩
    · refine et_test (EvD.b (ev_neI (i := sz) (j := (l.length : Int)) (by walk_at "eb") (EvD.b (EvD.is (ev_lenL (ds := l.map pairD) (by walk_at "eb")) (by rw [List.length_map])))))
    · have hb' : ¬ sz = (l.length : Int) := by simpa using hb
      refine q_asg (EvD.is (ev_lenL (ds := l.map pairD) (by walk_at "eb")) (by rw [List.length_map])) (fun s H A => ?_) A
      refine q_asgM (em_dc dB (fun _ => .bool true) (wok_pair (by decide) (by decide)) (ds := l.map pairD) (by walk_at "ev") (by rw [List.length_map]; omega) (fun _ _ => rfl) fun d hd => ?_) (fun p s H A => ?_) A
      · obtain ⟨a, b, rfl⟩ := mem_pairs hd
        exact ⟨_, tg_tup (tgs_cons tg_name (tgs_cons tg_name tgs_nil)) rfl, by walk_at "evi", by walk_at "ev"⟩
      refine a_asg (EvD.is (en_lc (ds := l.map pairD) (fun d => l.any fun q => decide (q.2 = dA d)) id (wok_pair (by decide) (by decide)) (by walk_at "ev") (by rw [List.length_map]; omega) fun d hd => ?_).dat (x := needsD (ringStep l)) ?_) (fun s H A => ?_) A
      · obtain ⟨a, b, rfl⟩ := mem_pairs hd
        refine ⟨_, tg_tup (tgs_cons tg_name (tgs_cons tg_name tgs_nil)) rfl, ?_, fun _ => ?_⟩
        · refine et_B (EvD.b (EvD.is (ev_din (n := a) (by walk_at "eb") rfl) ?_))
          rw [valV_fold, valV_nil, List.any_map]
          rfl
        · exact ev_tup (ea_cons (by walk_at "ev") (ea_cons (by walk_at "ev") ea_nil)) (Nat.le_of_ble_eq_true rfl)
      · show PyData.list _ = PyData.list _
        rw [List.map_id, List.filter_map]
        rfl
      · have h1 := ringStep_le l
        refine ⟨_, ?_, _, ⟨ringStep l, (l.length : Int), _, rfl, (ringFix_step l).trans hf, fun h => ?_, rfl, by omega⟩, A⟩
        · rw [hm, if_neg hb']
          by_cases c : (l.length : Int) = ((ringStep l).length : Int)
          · rw [if_pos c]; omega
          · rw [if_neg c]; omega
        · have : (ringStep l).length = l.length := by omega
          rw [ringStep_self this]; exact this
    · have hb' : sz = (l.length : Int) := by simpa using hb
      refine a_ret (EvD.is (ev_gt (j := 0) (EvD.b (ev_lenL (ds := l.map pairD) (by walk_at "eb"))) (by walk_at "eb")) ?_) (fun v F2 H2 nx d => ?_) A (d := .bool (hasRing l0))
      · rw [List.length_map]
        unfold hasRing
        rw [← hf, ringFix_end (hs hb')]
        simp
      · cases d; exact q F2 H2 nx
theorem ev_has_ring {C : Fx} {ta : TE} {e : En} {l : List (Int × Int)} {E : XK} (ha : EvB C ta e (needsD l)) (hl : l.length ≤ 10000) : EvD C (tCall sp_has_ring [] E (tCons ta tNil)) e (.bool (hasRing l)) := fun s F H k En Q q =>
  ha s F H k En _ fun v F1 H1 n1 d1 => ⟨H1, v, l, rfl, Ex.refl H1, d1, hl, fun F2 H2 n2 => q _ F1 H2 (n1.trans (nx_all n1.k n2)) (.bl _)⟩

def partsTest (d : PyData) : Bool := match d with
  | .tuple [x, y, z, u] => isList x && (isList y && (isList z && isList u))
  | _ => false
def partsLen (d : PyData) : Bool := match d with
  | .tuple (x :: y :: _) => decide (lenD x = lenD y)
  | _ => false
def areParts (d : PyData) : Bool := partsTest d && partsLen d
theorem parts_of {d : PyData} (h : partsTest d = true) : ∃ a b c r, d = .tuple [.list a, .list b, .list c, .list r] := by
  cases d with
  | tuple ds =>
    match ds, h with
    | [x, y, z, u], h =>
      simp only [partsTest, Bool.and_eq_true] at h
      obtain ⟨h1, h2, h3, h4⟩ := h
      cases x <;> first | (cases h1; done) | skip
      cases y <;> first | (cases h2; done) | skip
      cases z <;> first | (cases h3; done) | skip
      cases u <;> first | (cases h4; done) | skip
      exact ⟨_, _, _, _, rfl⟩
  | _ => cases h
def sp_are_parts : Sp := sp1 (fun _ => True) (fun d => .bool (areParts d))
set_option maxHeartbeats 8000000 in
theorem ok_are_parts (T : Txt K mg A) : FnOk P w K mg base CX0 1 A.f_are_parts A.d_are_parts ["thing"] sp_are_parts := by
  refine fnp_ok T.F_are_parts sc_are_parts (fun vs H Q E h => ?_) (fun cdv Ar outer s H vs Q E hr h => ?_)
  · obtain ⟨_, _, _, rfl, _⟩ := h; rfl
  · obtain ⟨F, v1, d1, rfl, k, h1, hp, q⟩ := h
    refine ⟨_, (pss_cons (ps_if (PW.pt (pw_or (pt_not (pt_val (pe_callB (cIsi (K := K) rfl) (by rfl) T.m_isinstance (by decide +kernel) (pa_cons (pv 0) (pa_cons (pe_bltn (v := .ty "tuple") (by rfl) T.m_tuple (by decide +kernel) rfl) pa_nil))))) (pw_or (pt_cmpR op_ne (pe_callB (cLen (K := K) rfl) (by rfl) T.m_len (by decide +kernel) (pa_cons (pv 0) pa_nil)) pe_int (nomark _)) (pw_or1 (pt_not (pt_val (pe_callB (cAll (K := K) rfl rfl) (by rfl) T.m_all (by decide +kernel) (pa_cons (pe_lc (own := [("part", 1)]) rfl sc_are_parts.nd (piT (K := K) rfl (pv 0)) (blkOk_by (own := [("part", 1)]) (N := N_are_parts) (sc := defScope s_are_parts) (by decide +kernel)) (fun _ _ _ _ _ => (pg_name (i := 1) sc_are_parts.nd rfl (by first | exact Or.inl rfl | exact Or.inr rfl))) (fun _ _ _ _ _ => pts_nil) (fun _ _ _ _ _ => (pe_callB (cIsi (K := K) rfl) (by rfl) T.m_isinstance (by decide +kernel) (pa_cons (pv 1) (pa_cons (pe_bltn (v := .ty "list") (by rfl) T.m_list (by decide +kernel) rfl) pa_nil))))) pa_nil)))))))) (pss_one (ps_ret pe_bl)) pss_nil)
      (pss_one (ps_ret (pe_cmpR op_eq (pe_callB (cLen (K := K) rfl) (by rfl) T.m_len (by decide +kernel) (pa_cons (pe_ix (ixT (K := K) rfl) (pv 0) pe_int (fun _ _ => rfl)) pa_nil)) (pe_callB (cLen (K := K) rfl) (by rfl) T.m_len (by decide +kernel) (pa_cons (pe_ix (ixT (K := K) rfl) (pv 0) pe_int (fun _ _ => rfl)) pa_nil)) (nomark _))))), ?_⟩
    try dsimp only [cxOf, Cx.nox, Cx.wish, Cx.blk]
    have A0 := at_start (K := K) (M := M0) (N := N_are_parts) k (.cons (ent_d h1) .nil) (apart_no rfl) (Nat.le_of_ble_eq_true rfl)
    refine q_when (b := !partsTest d1) ?_ (fun hb s H A => ?_) (fun hb s H A => ?_) A0
    · cases d1 with
      | tuple ds =>
        refine et_or2 (a := false) (b := !partsTest (.tuple ds)) (by walk_at "eti") (fun _ => ?_) rfl
        refine et_or2 (a := !decide ((ds.length : Int) = 4)) (b := !(ds.all fun d => isList d)) (by walk_at "eti") (fun hl => ?_) ?_
        · refine et_not (et_B (EvD.b (ev_allC (en_lcT0 _ (wok_name (by decide)) (by walk_at "ev") ?_ fun d _ => ⟨_, tg_name, by walk_at "ev"⟩))))
          simp at hl
          omega
        · match ds with
          | [] => rfl
          | [_] => rfl
          | [_, _] => rfl
          | [_, _, _] => rfl
          | [x, y, z, u] => simp [partsTest]
          | _ :: _ :: _ :: _ :: _ :: r =>
            have h2 : ¬ (((r.length + 1 + 1 + 1 + 1 + 1 : Nat) : Int) = 4) := by omega
            show (!decide (((r.length + 1 + 1 + 1 + 1 + 1 : Nat) : Int) = 4) || _) = true
            rw [decide_eq_false h2]
            rfl
      | dict x => cases h1
      | _ => exact et_or2 (a := true) (b := true) (by walk_at "eti") (fun h => by cases h) rfl
    · have hb' : partsTest d1 = false := by simpa using hb
      refine a_ret ev_bl (fun v F2 H2 nx d => q v F2 H2 nx ?_) A
      have e : areParts d1 = false := by simp [areParts, hb']
      show Dq F2 v (.bool (areParts _))
      rw [e]; exact d
    · have hb' : partsTest d1 = true := by simpa using hb
      obtain ⟨a, b, c, r, rfl⟩ := parts_of hb'
      refine a_ret (ev_eqI (i := (a.length : Int)) (j := (b.length : Int)) (by walk_at "eb") (by walk_at "eb")) (fun v F2 H2 nx d => q v F2 H2 nx ?_) A
      have e : areParts (.tuple [.list a, .list b, .list c, .list r]) = decide ((a.length : Int) = (b.length : Int)) := by
        simp only [areParts, hb', partsLen, lenD, Bool.true_and]
        by_cases c : a.length = b.length
        · simp [c]
        · have c' : ¬ ((a.length : Int) = (b.length : Int)) := by omega
          simp [c, c']
      show Dq F2 v (.bool (areParts _))
      rw [e]; exact d
theorem ev_are_parts {C : Fx} {ta : TE} {e : En} {x : PyData} {E : XK} (ha : EvD C ta e x) : EvD C (tCall sp_are_parts [] E (tCons ta tNil)) e (.bool (areParts x)) := ev_call1 ha trivial
local macro_rules | `(tactic| walk_at "ev") => `(tactic| ((with_reducible apply ev_are_parts) <;> walk_at "ev"))

def pairOf (d : PyData) : Int × Int := (dA d, dB d)
theorem need_pair {d : PyData} {n : Int} (h : isNeed d n = true) : d = pairD (pairOf d) ∧ 0 ≤ (pairOf d).1 ∧ (pairOf d).1 < n ∧ 0 ≤ (pairOf d).2 ∧ (pairOf d).2 < n ∧ (pairOf d).1 ≠ (pairOf d).2 := by
  simp only [isNeed, Bool.and_eq_true] at h
  obtain ⟨h1, h2⟩ := h
  cases d with
  | tuple ds =>
    match ds, h1, h2 with
    | [x, y], h1, h2 =>
      simp only [needTest, Bool.and_eq_true] at h1
      obtain ⟨a, rfl, a1, a2⟩ := isBelow_int h1.1
      obtain ⟨b, rfl, b1, b2⟩ := isBelow_int h1.2
      have h3 : ¬ a = b := by simpa [needNe] using h2
      exact ⟨rfl, a1, a2, b1, b2, h3⟩
  | _ => cases h1
theorem needs_pairs {n : Int} : ∀ {ns : List PyData}, (ns.all fun d => isNeed d n) = true → ns = (ns.map pairOf).map pairD
  | [], _ => rfl
  | d :: ns, h => by
    rw [List.all_cons, Bool.and_eq_true] at h
    rw [List.map_cons, List.map_cons, ← (need_pair h.1).1, ← needs_pairs h.2]
def isJobParts (fs us ns rs : List PyData) : Bool :=
  (fs.all fun d => isFrom d 1) && ((us.all fun d => isDue d) && ((ns.all fun d => isNeed d (fs.length : Int)) && (decide (ns.map pairOf).Nodup && (areRooms (.list rs) && !hasRing (ns.map pairOf)))))
def jobBody (d : PyData) : Bool := match d with
  | .tuple [.list fs, .list us, .list ns, .list rs] => isJobParts fs us ns rs
  | _ => false
def isJob (d : PyData) : Bool := areParts d && jobBody d
def JobLen (d : PyData) : Prop := ∀ fs us ns rs, d = .tuple [.list fs, .list us, .list ns, .list rs] → fs.length ≤ 50000 ∧ us.length ≤ 50000 ∧ ns.length < 64 ∧ rs.length ≤ 50000
def sp_is_job : Sp := sp1 JobLen (fun d => .bool (isJob d))
set_option maxHeartbeats 8000000 in
theorem ok_is_job (T : Txt K mg A) : FnOk P w K mg base CX0 4 A.f_is_job A.d_is_job ["thing"] sp_is_job := by
  refine fnp_ok T.F_is_job sc_is_job (fun vs H Q E h => ?_) (fun cdv Ar outer s H vs Q E hr h => ?_)
  · obtain ⟨_, _, _, rfl, _⟩ := h; rfl
  · obtain ⟨F, v1, d1, rfl, k, h1, hp, q⟩ := h
    refine ⟨_, (pss_cons (ps_if (pt_not (pt_val (pe_call (ok_are_parts T) (hr.mono (by decide)) (by rfl) T.g_are_parts T.F_are_parts.kp T.b_are_parts .nil pass0 (pa_cons (pv 0) pa_nil)))) (pss_one (ps_ret pe_bl)) pss_nil)
      (pss_cons (ps_asg (pv 0) (pgT (K := K) (n := 4) rfl rfl (pgs_cons (pg_name (i := 1) sc_is_job.nd rfl (by first | exact Or.inl rfl | exact Or.inr rfl)) (pgs_cons (pg_name (i := 2) sc_is_job.nd rfl (by first | exact Or.inl rfl | exact Or.inr rfl)) (pgs_cons (pg_name (i := 3) sc_is_job.nd rfl (by first | exact Or.inl rfl | exact Or.inr rfl)) (pgs_cons (pg_name (i := 4) sc_is_job.nd rfl (by first | exact Or.inl rfl | exact Or.inr rfl)) pgs_nil))))))
      (pss_cons (ps_if (PW.pt (pw_or (pt_not (pt_val (pe_callB (cAll (K := K) rfl rfl) (by rfl) T.m_all (by decide +kernel) (pa_cons (pe_lc (own := [("free", 5)]) rfl sc_is_job.nd (piL (K := K) rfl (pv 1)) (blkOk_by (own := [("free", 5)]) (N := N_is_job) (sc := defScope s_is_job) (by decide +kernel)) (fun _ _ _ _ _ => (pg_name (i := 5) sc_is_job.nd rfl (by first | exact Or.inl rfl | exact Or.inr rfl))) (fun _ _ _ _ _ => pts_nil) (fun _ _ _ _ _ => (pe_call (ok_is_from T) (hr.mono (by decide)) (by rfl) T.g_is_from T.F_is_from.kp T.b_is_from .nil pass0 (pa_cons (pv 5) (pa_cons pe_int pa_nil))))) pa_nil)))) (pw_or1 (pt_not (pt_val (pe_callB (cAll (K := K) rfl rfl) (by rfl) T.m_all (by decide +kernel) (pa_cons (pe_lc (own := [("due", 6)]) rfl sc_is_job.nd (piL (K := K) rfl (pv 2)) (blkOk_by (own := [("due", 6)]) (N := N_is_job) (sc := defScope s_is_job) (by decide +kernel)) (fun _ _ _ _ _ => (pg_name (i := 6) sc_is_job.nd rfl (by first | exact Or.inl rfl | exact Or.inr rfl))) (fun _ _ _ _ _ => pts_nil) (fun _ _ _ _ _ => (pe_call (ok_is_due T) (hr.mono (by decide)) (by rfl) T.g_is_due T.F_is_due.kp T.b_is_due .nil pass0 (pa_cons (pv 6) pa_nil)))) pa_nil))))))) (pss_one (ps_ret pe_bl)) pss_nil)
      (pss_cons (ps_if (PW.pt (pw_or (pt_not (pt_val (pe_callB (cAll (K := K) rfl rfl) (by rfl) T.m_all (by decide +kernel) (pa_cons (pe_lc (own := [("need", 7)]) rfl sc_is_job.nd (piL (K := K) rfl (pv 3)) (blkOk_by (own := [("need", 7)]) (N := N_is_job) (sc := defScope s_is_job) (by decide +kernel)) (fun _ _ _ _ _ => (pg_name (i := 7) sc_is_job.nd rfl (by first | exact Or.inl rfl | exact Or.inr rfl))) (fun _ _ _ _ _ => pts_nil) (fun _ _ _ _ _ => (pe_call (ok_is_need T) (hr.mono (by decide)) (by rfl) T.g_is_need T.F_is_need.kp T.b_is_need .nil pass0 (pa_cons (pv 7) (pa_cons (pe_callB (cLen (K := K) rfl) (by rfl) T.m_len (by decide +kernel) (pa_cons (pv 1) pa_nil)) pa_nil))))) pa_nil)))) (pw_or1 (pt_cmpR op_lt (pe_callB (cLenT (P := P) (w := w) rfl rfl) (by rfl) T.m_len (by decide +kernel) (pa_cons (pe_callTy (cSetT (K := K) (P := P) (w := w) rfl rfl rfl rfl hr.units) (by rfl) T.m_set (by decide +kernel) (pa_cons (pv 3) pa_nil)) pa_nil)) (pe_callB (cLen (K := K) rfl) (by rfl) T.m_len (by decide +kernel) (pa_cons (pv 3) pa_nil)) (nomark _))))) (pss_one (ps_ret pe_bl)) pss_nil)
      (pss_one (ps_ret (pe_and (pe_call (ok_are_rooms T) (hr.mono (by decide)) (by rfl) T.g_are_rooms T.F_are_rooms.kp T.b_are_rooms .nil pass0 (pa_cons (pv 4) pa_nil)) (pe_one (pe_not (pe_call (ok_has_ring T) (hr.mono (by decide)) (by rfl) T.g_has_ring T.F_has_ring.kp T.b_has_ring .nil pass0 (pa_cons (pv 3) pa_nil))))))))))), ?_⟩
    try dsimp only [cxOf, Cx.nox, Cx.wish, Cx.blk]
    have A0 := at_start (K := K) (M := M0) (N := N_is_job) k (.cons (ent_d h1) .nil) (apart_no rfl) (Nat.le_of_ble_eq_true rfl)
    have fin : ∀ (b : Bool) v F2 H2, b = isJob d1 → Nx F H F2 H2 → Dq F2 v (.bool b) → Q v H2 := fun b v F2 H2 e n d => q v F2 H2 n (by show Dq F2 v (.bool (isJob d1)); rw [← e]; exact d)
    refine q_when (b := !areParts d1) (by walk_at "et") (fun hb s H A => ?_) (fun hb s H A => ?_) A0
    · have hb' : areParts d1 = false := by simpa using hb
      exact a_ret ev_bl (fun v F2 H2 nx d => fin false v F2 H2 (by simp [isJob, hb']) nx d) A
    have hb' : areParts d1 = true := by simpa using hb
    obtain ⟨fs, us, ns, rs, rfl⟩ := parts_of (by simp only [areParts, Bool.and_eq_true] at hb'; exact hb'.1)
    obtain ⟨l1, l2, l3, l4⟩ := hp _ _ _ _ rfl
    have ej : isJob (.tuple [.list fs, .list us, .list ns, .list rs]) = isJobParts fs us ns rs := by simp [isJob, hb', jobBody]
    refine q_asgG (d := .tuple [.list fs, .list us, .list ns, .list rs]) (by walk_at "ev") (tg_tup (tgs_cons tg_name (tgs_cons tg_name (tgs_cons tg_name (tgs_cons tg_name tgs_nil)))) rfl) (fun s H A => ?_) A
    refine q_when (b := !(fs.all fun d => isFrom d 1) || !(us.all fun d => isDue d)) ?_ (fun hc s H A => ?_) (fun hc s H A => ?_) A
    · refine et_or2 (et_not (et_B (EvD.b (ev_allC (ds := fs) (en_lc0 _ (wok_name (by decide)) (by walk_at "ev") l1 fun d _ => ⟨_, tg_name, by walk_at "ev"⟩))))) (fun _ => ?_) rfl
      exact et_not (et_B (EvD.b (ev_allC (ds := us) (en_lc0 _ (wok_name (by decide)) (by walk_at "ev") l2 fun d _ => ⟨_, tg_name, by walk_at "ev"⟩))))
    · refine a_ret ev_bl (fun v F2 H2 nx d => fin false v F2 H2 ?_ nx d) A
      rw [ej]
      unfold isJobParts
      cases c1 : (fs.all fun d => isFrom d 1) with
      | false => rfl
      | true =>
        rw [c1] at hc
        have : (us.all fun d => isDue d) = false := by simpa using hc
        rw [this]; rfl
    have c1 : (fs.all fun d => isFrom d 1) = true := by
      cases c : (fs.all fun d => isFrom d 1) with
      | true => rfl
      | false => rw [c] at hc; cases hc
    have c2 : (us.all fun d => isDue d) = true := by
      rw [c1] at hc
      simpa using hc
    refine q_when (b := !(ns.all fun d => isNeed d (fs.length : Int)) || !decide (ns.map pairOf).Nodup) ?_ (fun hd s H A => ?_) (fun hd s H A => ?_) A
    · refine et_or2 (et_not (et_B (EvD.b (ev_allC (ds := ns) (en_lc0 _ (wok_name (by decide)) (by walk_at "ev") (by omega) fun d _ => ⟨_, tg_name, by walk_at "ev"⟩))))) (fun ha => ?_) rfl
      have ha' : (ns.all fun d => isNeed d (fs.length : Int)) = true := by simpa using ha
      have en := needs_pairs ha'
      refine et_test (EvD.b (ev_lenset (f := pairD) (l := ns.map pairOf) (fun _ => rfl) ?_ ?_ (by rw [List.length_map]; exact l3)))
      · rw [← en]; walk_at "eb"
      · rw [List.length_map]; walk_at "eb"
    · refine a_ret ev_bl (fun v F2 H2 nx d => fin false v F2 H2 ?_ nx d) A
      rw [ej]
      unfold isJobParts
      rw [c1, c2]
      cases c3 : (ns.all fun d => isNeed d (fs.length : Int)) with
      | false => rfl
      | true =>
        rw [c3] at hd
        have : decide (ns.map pairOf).Nodup = false := by simpa using hd
        rw [this]; rfl
    have c3 : (ns.all fun d => isNeed d (fs.length : Int)) = true := by
      cases c : (ns.all fun d => isNeed d (fs.length : Int)) with
      | true => rfl
      | false => rw [c] at hd; cases hd
    have c4 : decide (ns.map pairOf).Nodup = true := by
      rw [c3] at hd
      simpa using hd
    have en := needs_pairs c3
    refine a_ret (ev_and2 (a := areRooms (.list rs)) (b := !hasRing (ns.map pairOf)) (EvD.b (ev_call1 (x := .list rs) (by walk_at "ev") l4)) (fun _ => ev_notV (EvD.b (ev_has_ring (l := ns.map pairOf) ?_ (by rw [List.length_map]; omega)))) rfl) (fun v F2 H2 nx d => fin _ v F2 H2 ?_ nx d) A
    · show EvB _ _ _ (.list ((ns.map pairOf).map pairD))
      rw [← en]; walk_at "eb"
    · rw [ej]
      unfold isJobParts
      rw [c1, c2, c3, c4]
      rfl

/-! jobs as plain data -/
structure Jb where
  fs : List Int
  us : List (Option Int)
  ns : List (Int × Int)
  rs : List Int
def dueD : Option Int → PyData
  | none => .none
  | some i => .int i
def intsD (l : List Int) : PyData := .list (l.map .int)
def duesD (l : List (Option Int)) : PyData := .list (l.map dueD)
def Jb.dat (j : Jb) : PyData := .tuple [intsD j.fs, duesD j.us, needsD j.ns, intsD j.rs]
structure Jb.Ok (j : Jb) : Prop where
  len : j.us.length = j.fs.length
  few : j.fs.length ≤ 1000
  free : ∀ f ∈ j.fs, 1 ≤ f
  due : ∀ u ∈ j.us, ∀ i, u = some i → 0 ≤ i
  need : ∀ p ∈ j.ns, 0 ≤ p.1 ∧ p.1 < (j.fs.length : Int) ∧ 0 ≤ p.2 ∧ p.2 < (j.fs.length : Int) ∧ p.1 ≠ p.2
  nd : j.ns.Nodup
  fewn : j.ns.length < 64
  ring : hasRing j.ns = false
  room : ∀ r ∈ j.rs, 0 ≤ r ∧ r < 4
  fewr : j.rs.length ≤ 1000
theorem pairOf_pairD (l : List (Int × Int)) : (l.map pairD).map pairOf = l := by
  induction l with
  | nil => rfl
  | cons p l ih => rw [List.map_cons, List.map_cons, ih]; rfl
theorem Jb.Ok.job {j : Jb} (h : j.Ok) : isJob j.dat = true := by
  have e1 : areParts j.dat = true := by
    show (partsTest _ && decide ((j.fs.map PyData.int).length = (j.us.map dueD).length)) = true
    rw [List.length_map, List.length_map, h.len, decide_eq_true rfl]
    rfl
  have e2 : isJobParts (j.fs.map .int) (j.us.map dueD) (j.ns.map pairD) (j.rs.map .int) = true := by
    unfold isJobParts
    rw [pairOf_pairD]
    simp only [Bool.and_eq_true, List.all_eq_true, decide_eq_true_eq]
    refine ⟨fun d hd => ?_, fun d hd => ?_, fun d hd => ?_, h.nd, ?_, by rw [h.ring]; rfl⟩
    · obtain ⟨f, hf, rfl⟩ := List.mem_map.mp hd
      exact decide_eq_true (h.free f hf)
    · obtain ⟨u, hu, rfl⟩ := List.mem_map.mp hd
      cases u with
      | none => rfl
      | some i => exact decide_eq_true (h.due _ hu i rfl)
    · obtain ⟨p, hq, rfl⟩ := List.mem_map.mp hd
      obtain ⟨a1, a2, a3, a4, a5⟩ := h.need p hq
      rw [List.length_map]
      simp [isNeed, needTest, needNe, pairD, isBelow, a1, a2, a3, a4, a5]
    · show (List.all _ _) = true
      rw [List.all_eq_true]
      intro d hd
      obtain ⟨r, hr, rfl⟩ := List.mem_map.mp hd
      obtain ⟨a1, a2⟩ := h.room r hr
      simp [isBelow, a1, a2]
  show (areParts j.dat && isJobParts (j.fs.map .int) (j.us.map dueD) (j.ns.map pairD) (j.rs.map .int)) = true
  rw [e1, e2]
  rfl
theorem Jb.Ok.jlen {j : Jb} (h : j.Ok) : JobLen j.dat := by
  intro fs us ns rs e
  unfold Jb.dat intsD duesD needsD at e
  injection e with e
  simp only [List.cons.injEq, PyData.list.injEq, and_true] at e
  obtain ⟨rfl, rfl, rfl, rfl⟩ := e
  have := h.len
  have := h.few
  have := h.fewn
  have := h.fewr
  simp only [List.length_map]
  omega
def sp_look_at_job : Sp := fun vs H Q E => ∃ F v j, vs = [v] ∧ Ex F H ∧ Dq F v (Jb.dat j) ∧ j.Ok ∧ ∀ F2 H2, Nx F H F2 H2 → Q .non H2
theorem ok_look_at_job (T : Txt K mg A) : FnOk P w K mg base CX0 5 A.f_look_at_job A.d_look_at_job ["job"] sp_look_at_job := by
  refine fnp_ok T.F_look_at_job sc_look_at_job (fun vs H Q E h => ?_) (fun cdv Ar outer s H vs Q E hr h => ?_)
  · obtain ⟨_, _, _, rfl, _⟩ := h; rfl
  · obtain ⟨F, v1, j, rfl, k, h1, hj, q⟩ := h
    refine ⟨_, (pss_one (ps_if (pt_not (pt_val (pe_call (ok_is_job T) (hr.mono (by decide)) (by rfl) T.g_is_job T.F_is_job.kp T.b_is_job .nil pass0 (pa_cons (pv 0) pa_nil)))) (pss_one ps_never) pss_nil)), ?_⟩
    try dsimp only [cxOf, Cx.nox, Cx.wish, Cx.blk]
    have A0 := at_start (K := K) (M := M0) (N := N_look_at_job) k (.cons (ent_d h1) .nil) (apart_no rfl) (Nat.le_of_ble_eq_true rfl)
    refine a_when (b := false) (EvT.is (et_not (et_B (EvD.b (ev_call1 (x := j.dat) (by walk_at "ev") hj.jlen)))) (by rw [hj.job]; rfl)) (fun hb => by cases hb) (fun _ s H A => ?_) A0
    obtain ⟨F2, n2, _⟩ := A
    exact q F2 H n2
theorem ev_look_at_job {C : Fx} {ta : TE} {e : En} {j : Jb} {E : XK} (ha : EvD C ta e j.dat) (hj : j.Ok) : EvD C (tCall sp_look_at_job [] E (tCons ta tNil)) e .none := fun s F H k En Q q =>
  ha s F H k En _ fun v F1 H1 n1 d1 => ⟨F1, v, j, rfl, n1.k, d1, hj, fun F2 H2 n2 => q _ F2 H2 (n1.trans n2) .non⟩

def sp_look_at_task : Sp := fun vs H Q E => ∃ F v j t, vs = [v, .int t] ∧ Ex F H ∧ Dq F v (Jb.dat j) ∧ 0 ≤ t ∧ t < (j.fs.length : Int) ∧ ∀ F2 H2, Nx F H F2 H2 → Q .non H2
theorem ok_look_at_task (T : Txt K mg A) : FnOk P w K mg base CX0 3 A.f_look_at_task A.d_look_at_task ["job", "task"] sp_look_at_task := by
  refine fnp_ok T.F_look_at_task sc_look_at_task (fun vs H Q E h => ?_) (fun cdv Ar outer s H vs Q E hr h => ?_)
  · obtain ⟨_, _, _, _, rfl, _⟩ := h; rfl
  · obtain ⟨F, v1, j, t, rfl, k, h1, h0, ht, q⟩ := h
    refine ⟨_, (pss_one (ps_if (pt_not (pt_val (pe_call (ok_is_below T) (hr.mono (by decide)) (by rfl) T.g_is_below T.F_is_below.kp T.b_is_below .nil pass0 (pa_cons (pv 1) (pa_cons (pe_callB (cLen (K := K) rfl) (by rfl) T.m_len (by decide +kernel) (pa_cons (pe_ix (ixT (K := K) rfl) (pv 0) pe_int (fun _ _ => rfl)) pa_nil)) pa_nil))))) (pss_one ps_never) pss_nil)), ?_⟩
    try dsimp only [cxOf, Cx.nox, Cx.wish, Cx.blk]
    have A0 := at_start (K := K) (M := M0) (N := N_look_at_task) k (.cons (ent_d h1) (.cons (ent_d (.int t)) .nil)) (apart_no rfl) (Nat.le_of_ble_eq_true rfl)
    refine a_when (b := false) (EvT.is (et_not (et_B (EvD.b (ev_is_below (x := .int t) (n := (j.fs.length : Int)) (by walk_at "ev") (EvD.is (ev_lenL (ds := j.fs.map .int) (EvD.b (ev_t0 (ds := [duesD j.us, needsD j.ns, intsD j.rs]) (by walk_at "ev")))) (by rw [List.length_map])))))) (by simp [isBelow, h0, ht])) (fun hb => by cases hb) (fun _ s H A => ?_) A0
    obtain ⟨F2, n2, _⟩ := A
    exact q F2 H n2
theorem ev_look_at_task {C : Fx} {ta tb : TE} {e : En} {j : Jb} {t : Int} {E : XK} (ha : EvD C ta e j.dat) (hb : EvD C tb e (.int t)) (h0 : 0 ≤ t) (ht : t < (j.fs.length : Int)) : EvD C (tCall sp_look_at_task [] E (tCons ta (tCons tb tNil))) e .none := fun s F H k En Q q =>
  ha s F H k En _ fun v F1 H1 n1 d1 => hb s F1 H1 n1.k (En.nx n1) _ fun w F2 H2 n2 d2 => by
    cases d2
    exact ⟨F2, v, j, t, rfl, n2.k, Dq.up d1 n2.f, h0, ht, fun F3 H3 n3 => q _ F3 H3 ((n1.trans n2).trans n3) .non⟩

/-! ### what is behind a task -/
inductive Bh (ns : List (Int × Int)) (t : Int) : Int → Prop
  | base {b : Int} : (t, b) ∈ ns → Bh ns t b
  | step {a b : Int} : Bh ns t a → (a, b) ∈ ns → Bh ns t b
def bstep (t : Int) (fd : List Int) (p : Int × Int) : List Int := if (p.1 = t ∨ p.1 ∈ fd) ∧ p.2 ∉ fd then fd ++ [p.2] else fd
def bpass (ns : List (Int × Int)) (t : Int) (fd : List Int) : List Int := ns.foldl (bstep t) fd
theorem bstep_pre (t : Int) (fd : List Int) (p : Int × Int) : fd <+: bstep t fd p := by
  unfold bstep
  split
  · exact List.prefix_append _ _
  · exact List.prefix_refl _
theorem bfold_pre (t : Int) : ∀ (ns : List (Int × Int)) (fd : List Int), fd <+: ns.foldl (bstep t) fd
  | [], fd => List.prefix_refl _
  | p :: ns, fd => (bstep_pre t fd p).trans (bfold_pre t ns _)
theorem bpass_pre (ns : List (Int × Int)) (t : Int) (fd : List Int) : fd <+: bpass ns t fd := bfold_pre t ns fd
theorem bpass_le (ns : List (Int × Int)) (t : Int) (fd : List Int) : fd.length ≤ (bpass ns t fd).length := (bpass_pre ns t fd).length_le
theorem bpass_self {ns : List (Int × Int)} {t : Int} {fd : List Int} (h : (bpass ns t fd).length = fd.length) : bpass ns t fd = fd := ((bpass_pre ns t fd).eq_of_length h.symm).symm
def bfix (ns : List (Int × Int)) (t : Int) (fd : List Int) : List Int := if fd.length < (bpass ns t fd).length ∧ fd.length ≤ ns.length then bfix ns t (bpass ns t fd) else fd
termination_by ns.length + 1 - fd.length
def behindL (ns : List (Int × Int)) (t : Int) : List Int := bfix ns t []
structure BInv (ns : List (Int × Int)) (t : Int) (fd : List Int) : Prop where
  nd : fd.Nodup
  bh : ∀ x ∈ fd, Bh ns t x
  sub : ∀ x ∈ fd, x ∈ ns.map (·.2)
theorem BInv.step {ns : List (Int × Int)} {t : Int} {fd : List Int} {p : Int × Int} (h : BInv ns t fd) (hp : p ∈ ns) : BInv ns t (bstep t fd p) := by
  unfold bstep
  split
  · rename_i c
    have hb : Bh ns t p.2 := by
      rcases c.1 with z | z
      · exact .base (by rw [← z]; exact hp)
      · exact .step (h.bh _ z) hp
    refine ⟨?_, fun x hx => ?_, fun x hx => ?_⟩
    · rw [List.nodup_append]
      refine ⟨h.nd, by simp, fun a ha b hb => ?_⟩
      simp at hb
      subst hb
      exact fun z => c.2 (z ▸ ha)
    · rcases List.mem_append.mp hx with z | z
      · exact h.bh x z
      · rw [List.mem_singleton.mp z]; exact hb
    · rcases List.mem_append.mp hx with z | z
      · exact h.sub x z
      · rw [List.mem_singleton.mp z]; exact List.mem_map.mpr ⟨p, hp, rfl⟩
  · exact h
theorem BInv.fold {ns : List (Int × Int)} {t : Int} : ∀ {ms : List (Int × Int)} {fd : List Int}, BInv ns t fd → (∀ p ∈ ms, p ∈ ns) → BInv ns t (ms.foldl (bstep t) fd)
  | [], fd, h, _ => h
  | p :: ms, fd, h, hs => BInv.fold (ms := ms) (fd := bstep t fd p) (h.step (hs p List.mem_cons_self)) fun q hq => hs q (List.mem_cons_of_mem _ hq)
theorem BInv.pass {ns : List (Int × Int)} {t : Int} {fd : List Int} (h : BInv ns t fd) : BInv ns t (bpass ns t fd) := h.fold fun _ z => z
theorem BInv.len {ns : List (Int × Int)} {t : Int} {fd : List Int} (h : BInv ns t fd) : fd.length ≤ ns.length := by
  have := len_le h.nd h.sub
  rw [List.length_map] at this
  exact this
theorem bfix_pass {ns : List (Int × Int)} {t : Int} {fd : List Int} (h : BInv ns t fd) : bfix ns t (bpass ns t fd) = bfix ns t fd := by
  have h1 := bpass_le ns t fd
  by_cases c : fd.length < (bpass ns t fd).length
  · conv => rhs; rw [bfix, if_pos ⟨c, h.len⟩]
  · rw [bpass_self (by omega)]
theorem bfix_end {ns : List (Int × Int)} {t : Int} {fd : List Int} (h : bpass ns t fd = fd) : bfix ns t fd = fd := by
  rw [bfix, if_neg (by rw [h]; omega)]
theorem bfold_closed {t : Int} : ∀ {ms : List (Int × Int)} {fd : List Int}, ms.foldl (bstep t) fd = fd → ∀ p ∈ ms, (p.1 = t ∨ p.1 ∈ fd) → p.2 ∈ fd
  | [], _, _, _, hp, _ => nomatch hp
  | q :: ms, fd, h, p, hp, hc => by
    have h1 : (bstep t fd q) <+: ms.foldl (bstep t) (bstep t fd q) := bfold_pre t ms _
    rw [List.foldl_cons] at h
    rw [h] at h1
    have h2 : bstep t fd q = fd := (h1.eq_of_length_le (bstep_pre t fd q).length_le)
    rw [h2] at h
    rcases List.mem_cons.mp hp with z | z
    · subst z
      unfold bstep at h2
      split at h2
      · have := congrArg List.length h2
        simp at this
      · rename_i c
        by_cases c2 : p.2 ∈ fd
        · exact c2
        · exact absurd ⟨hc, c2⟩ c
    · exact bfold_closed h p z hc
structure BList (ns : List (Int × Int)) (t : Int) (fd : List Int) : Prop extends BInv ns t fd where
  cl : ∀ p ∈ ns, (p.1 = t ∨ p.1 ∈ fd) → p.2 ∈ fd
theorem bfix_list {ns : List (Int × Int)} {t : Int} (fd : List Int) (h : BInv ns t fd) : BList ns t (bfix ns t fd) := by
  rw [bfix]
  split
  · exact bfix_list _ h.pass
  · rename_i c
    have h1 := bpass_le ns t fd
    have h2 := h.len
    have h3 : bpass ns t fd = fd := bpass_self (by omega)
    exact ⟨h, bfold_closed h3⟩
termination_by ns.length + 1 - fd.length
theorem behindL_list (ns : List (Int × Int)) (t : Int) : BList ns t (behindL ns t) := bfix_list [] ⟨List.nodup_nil, (fun _ z => nomatch z), (fun _ z => nomatch z)⟩
theorem BList.mem {ns : List (Int × Int)} {t : Int} {fd : List Int} (h : BList ns t fd) (x : Int) : x ∈ fd ↔ Bh ns t x := by
  refine ⟨h.bh x, fun b => ?_⟩
  induction b with
  | base hb => exact h.cl _ hb (.inl rfl)
  | step _ hb ih => exact h.cl _ hb (.inr ih)
theorem mem_behindL (ns : List (Int × Int)) (t x : Int) : x ∈ behindL ns t ↔ Bh ns t x := (behindL_list ns t).mem x
def sp_tasks_behind : Sp := fun vs H Q E => ∃ F v l t, vs = [v, .int t] ∧ Ex F H ∧ Dq F v (needsD l) ∧ l.length ≤ 10000 ∧ ∀ p F2 H2, Nx F H F2 H2 → H p = none → F2 p = none → H2 p = some (.lst ((behindL l t).map .int)) → Q (.ref p) H2
set_option maxHeartbeats 8000000 in
theorem ok_tasks_behind (T : Txt K mg A) : FnOk P w K mg base CX0 1 A.f_tasks_behind A.d_tasks_behind ["needs", "task"] sp_tasks_behind := by
  refine fnp_ok T.F_tasks_behind sc_tasks_behind (fun vs H Q E h => ?_) (fun cdv Ar outer s H vs Q E hr h => ?_)
  · obtain ⟨_, _, _, _, rfl, _⟩ := h; rfl
  · obtain ⟨F, v1, l, t, rfl, k, h1, hz, q⟩ := h
    refine ⟨_, (pss_cons (ps_set (i := 2) sc_tasks_behind.nd rfl (by first | exact Or.inl rfl | exact Or.inr rfl) (pe_lst pa_nil))
      (pss_cons (ps_set (i := 3) sc_tasks_behind.nd rfl (by first | exact Or.inl rfl | exact Or.inr rfl) (pe_un un_neg pe_int))
      (pss_cons (ps_while PassesOwn.never (pt_cmpR op_ne (pv 3) (pe_callB (cLen (K := K) rfl) (by rfl) T.m_len (by decide +kernel) (pa_cons (pv 2) pa_nil)) (nomark _)) (pss_cons (ps_set (i := 3) sc_tasks_behind.nd rfl (by first | exact Or.inl rfl | exact Or.inr rfl) (pe_callB (cLen (K := K) rfl) (by rfl) T.m_len (by decide +kernel) (pa_cons (pv 2) pa_nil)))
      (pss_one (ps_for PassesOwn.never rfl (piL (K := K) rfl (pv 0)) (pgT (K := K) (n := 2) rfl rfl (pgs_cons (pg_name (i := 4) sc_tasks_behind.nd rfl (by first | exact Or.inl rfl | exact Or.inr rfl)) (pgs_cons (pg_name (i := 5) sc_tasks_behind.nd rfl (by first | exact Or.inl rfl | exact Or.inr rfl)) pgs_nil))) (pss_one (ps_if (PW.pt (pw_and (PW.pt (pw_or (pt_cmpR op_eq (pv 4) (pv 1) (nomark _)) (pw_or1 (pt_cmpR (oIn (K := K) rfl) (pv 4) (pv 2) (by rfl))))) (pw_and1 (pt_cmpR (oNi (K := K) rfl) (pv 5) (pv 2) (by rfl))))) (pss_one (ps_expr (pe_bmK (K := K) rfl PySem.F.plainAttrs_list PySem.F.slot_list_append PySem.F.type_list_append mt_append (pv 2) (pa_cons (pv 5) pa_nil)))) pss_nil))))))
      (pss_one (ps_ret (pv 2)))))), ?_⟩
    try dsimp only [cxOf, Cx.nox, Cx.wish, Cx.blk]
    have A0 := at_start (K := K) (M := M0) (N := N_tasks_behind) k (.cons (ent_d h1) (.cons (ent_d (.int t)) .nil)) (apart_no rfl) (Nat.le_of_ble_eq_true rfl)
    refine q_asgN (ds := []) (en_lst ea_nil (Nat.le_of_ble_eq_true rfl)) (fun p s H A => ?_) A0
    refine q_asg (d := .int (-1)) (by walk_at "ev") (fun s H A => ?_) A
    refine q_while (fun m e' => ∃ fd sz x4 x5, e' = [.dat (needsD l), .dat (.int t), .own p (fd.map .int), .dat (.int sz), x4, x5] ∧ BInv l t fd ∧ bfix l t fd = behindL l t ∧ (sz = fd.length → bpass l t fd = fd) ∧ m = 2 * (l.length + 1 - fd.length) + (if sz = (fd.length : Int) then 0 else 1))
      _ ⟨[], -1, .un, .un, rfl, ⟨List.nodup_nil, (fun _ z => nomatch z), (fun _ z => nomatch z)⟩, rfl, fun h => by simp at h, rfl⟩ ?_ A
    rintro m e' ⟨fd, sz, x4, x5, rfl, hI, hf, hs, hm⟩
    have hl := hI.len
    refine ⟨!decide (sz = (fd.length : Int)), ?_, fun hb s H A => ?_, fun hb s H A => ?_⟩
    · exact et_test (EvD.b (ev_neI (i := sz) (j := (fd.length : Int)) (by walk_at "eb") (EvD.b (EvD.is (ev_lenL (ds := fd.map .int) (by walk_at "eb")) (by rw [List.length_map])))))
    · have hb' : ¬ sz = (fd.length : Int) := by simpa using hb
      refine q_asg (EvD.is (ev_lenL (ds := fd.map .int) (by walk_at "eb")) (by rw [List.length_map])) (fun s H A => ?_) A
      refine a_for (ds := l.map pairD) (fun i e' => ∃ x4 x5, e' = [.dat (needsD l), .dat (.int t), .own p (((l.take i).foldl (bstep t) fd).map .int), .dat (.int (fd.length : Int)), x4, x5]) (by walk_at "ev") ⟨x4, x5, rfl⟩ ?_ ?_ A
      · rintro B' i d e' hd ⟨y4, y5, rfl⟩
        rw [List.getElem?_map] at hd
        obtain ⟨pr, hpr, rfl⟩ := Option.map_eq_some_iff.mp hd
        have hmem : pr ∈ l := List.mem_of_getElem? hpr
        have et : l.take (i + 1) = l.take i ++ [pr] := by rw [List.take_add_one, hpr]; rfl
        refine ⟨_, tg_tup (tgs_cons tg_name (tgs_cons tg_name tgs_nil)) rfl, fun s H A => ?_⟩
        generalize hg : (l.take i).foldl (bstep t) fd = g at A
        have hgI : BInv l t g := by rw [← hg]; exact hI.fold fun z hz => List.mem_of_mem_take hz
        have hgl := hgI.len
        refine a_when (b := decide ((pr.1 = t ∨ pr.1 ∈ g) ∧ pr.2 ∉ g)) ?_ (fun hc s H A => ?_) (fun hc s H A => ?_) A
        · refine et_and2 (a := decide (pr.1 = t) || decide (pr.1 ∈ g)) (b := !decide (pr.2 ∈ g)) ?_ (fun _ => et_test (EvD.b (ev_niI (i := pr.2) (ns := g) (by walk_at "eb") (by walk_at "eb")))) ?_
          · exact et_or2 (et_test (EvD.b (ev_eqI (i := pr.1) (j := t) (by walk_at "eb") (by walk_at "eb")))) (fun _ => et_test (EvD.b (ev_inI (i := pr.1) (ns := g) (by walk_at "eb") (by walk_at "eb")))) rfl
          · by_cases c1 : pr.1 = t <;> by_cases c2 : pr.1 ∈ g <;> by_cases c3 : pr.2 ∈ g <;> simp [c1, c2, c3]
        · have hc' := of_decide_eq_true hc
          refine a_app (ds := g.map .int) (d := .int pr.2) rfl (by walk_at "ev") (by rw [List.length_map]; omega) (fun s H A => ?_) A
          refine ⟨_, ⟨.dat (.int pr.1), .dat (.int pr.2), ?_⟩, A⟩
          rw [et, List.foldl_append, hg]
          show _ = [Ent.dat (needsD l), .dat (.int t), .own p ((bstep t g pr).map .int), .dat (.int (fd.length : Int)), _, _]
          unfold bstep
          rw [if_pos hc', List.map_append]
          rfl
        · have hc' := of_decide_eq_false hc
          refine ⟨_, ⟨.dat (.int pr.1), .dat (.int pr.2), ?_⟩, A⟩
          rw [et, List.foldl_append, hg]
          show _ = [Ent.dat (needsD l), .dat (.int t), .own p ((bstep t g pr).map .int), .dat (.int (fd.length : Int)), _, _]
          unfold bstep
          rw [if_neg hc']
          rfl
      · rintro e' ⟨y4, y5, rfl⟩ s H A
        rw [List.length_map, List.take_length] at A
        have hI2 := hI.pass
        have h3 := bpass_le l t fd
        have h4 := hI2.len
        refine ⟨_, ?_, _, ⟨bpass l t fd, (fd.length : Int), y4, y5, rfl, hI2, (bfix_pass hI).trans hf, fun h => ?_, rfl⟩, A⟩
        · rw [hm, if_neg hb']
          by_cases c : (fd.length : Int) = ((bpass l t fd).length : Int)
          · rw [if_pos c]; omega
          · rw [if_neg c]; omega
        · have e5 := bpass_self (ns := l) (t := t) (fd := fd) (by omega)
          rw [e5]; exact e5
    · have hb' : sz = (fd.length : Int) := by simpa using hb
      refine a_retO (ds := fd.map .int) rfl (fun z => z) (fun p xs s F2 H2 nx _ h0 hF hH hd => ?_) A
      have e6 := dpa_ints' hd
      subst e6
      have e7 : fd = behindL l t := by rw [← hf, bfix_end (hs hb')]
      rw [e7] at hH
      exact q p F2 H2 nx h0 hF hH
theorem en_tasks_behind {C : Fx} {ta tb : TE} {e : En} {l : List (Int × Int)} {t : Int} {E : XK} (ha : EvD C ta e (needsD l)) (hb : EvD C tb e (.int t)) (hl : l.length ≤ 10000) : EvN C (tCall sp_tasks_behind [] E (tCons ta (tCons tb tNil))) e ((behindL l t).map .int) := fun s F H k En Q q =>
  ha s F H k En _ fun v F1 H1 n1 d1 => hb s F1 H1 n1.k (En.nx n1) _ fun w F2 H2 n2 d2 => by
    cases d2
    have n12 := n1.trans n2
    exact ⟨F2, v, l, t, rfl, n2.k, Dq.up d1 n2.f, hl, fun p F3 H3 n3 h1 h2 h3 => q p _ F3 H3 (n12.trans n3) (ex_free (Nx.h0 n12) h1) h2 h3 (dpa_ints _)⟩

def sp_is_behind : Sp := fun vs H Q E => ∃ F v j a b, vs = [v, .int a, .int b] ∧ Ex F H ∧ Dq F v (Jb.dat j) ∧ j.Ok ∧ 0 ≤ a ∧ a < (j.fs.length : Int) ∧ 0 ≤ b ∧ b < (j.fs.length : Int) ∧ ∀ F2 H2, Nx F H F2 H2 → Q (.bl (decide (b ∈ behindL j.ns a))) H2
theorem ok_is_behind (T : Txt K mg A) : FnOk P w K mg base CX0 6 A.f_is_behind A.d_is_behind ["job", "a", "b"] sp_is_behind := by
  refine fnp_ok T.F_is_behind sc_is_behind (fun vs H Q E h => ?_) (fun cdv Ar outer s H vs Q E hr h => ?_)
  · obtain ⟨_, _, _, _, _, rfl, _⟩ := h; rfl
  · obtain ⟨F, v1, j, a, b, rfl, k, h1, hj, a0, a1, b0, b1, q⟩ := h
    refine ⟨_, (pss_cons (ps_expr (pe_call (ok_look_at_job T) (hr.mono (by decide)) (by rfl) T.g_look_at_job T.F_look_at_job.kp T.b_look_at_job .nil pass0 (pa_cons (pv 0) pa_nil)))
      (pss_cons (ps_expr (pe_call (ok_look_at_task T) (hr.mono (by decide)) (by rfl) T.g_look_at_task T.F_look_at_task.kp T.b_look_at_task .nil pass0 (pa_cons (pv 0) (pa_cons (pv 1) pa_nil))))
      (pss_cons (ps_expr (pe_call (ok_look_at_task T) (hr.mono (by decide)) (by rfl) T.g_look_at_task T.F_look_at_task.kp T.b_look_at_task .nil pass0 (pa_cons (pv 0) (pa_cons (pv 2) pa_nil))))
      (pss_one (ps_ret (pe_cmpR (oIn (K := K) rfl) (pv 2) (pe_call (ok_tasks_behind T) (hr.mono (by decide)) (by rfl) T.g_tasks_behind T.F_tasks_behind.kp T.b_tasks_behind .nil pass0 (pa_cons (pe_ix (ixT (K := K) rfl) (pv 0) pe_int (fun _ _ => rfl)) (pa_cons (pv 1) pa_nil))) (by rfl))))))), ?_⟩
    try dsimp only [cxOf, Cx.nox, Cx.wish, Cx.blk]
    have A0 := at_start (K := K) (M := M0) (N := N_is_behind) k (.cons (ent_d h1) (.cons (ent_d (.int a)) (.cons (ent_d (.int b)) .nil))) (apart_no rfl) (Nat.le_of_ble_eq_true rfl)
    have hl := hj.fewn
    refine q_drop (ev_look_at_job (j := j) (by walk_at "ev") hj) (fun s H A => ?_) A0
    refine q_drop (ev_look_at_task (j := j) (t := a) (by walk_at "ev") (by walk_at "ev") a0 a1) (fun s H A => ?_) A
    refine q_drop (ev_look_at_task (j := j) (t := b) (by walk_at "ev") (by walk_at "ev") b0 b1) (fun s H A => ?_) A
    refine a_ret (ev_inI (i := b) (ns := behindL j.ns a) (by walk_at "eb") (EvD.b (EvN.dat (en_tasks_behind (ev_t2 (x := intsD j.fs) (y := duesD j.us) (ds := [intsD j.rs]) (by walk_at "ev")) (by walk_at "ev") (by omega))))) (fun v F2 H2 nx d => ?_) A
    cases d; exact q F2 H2 nx
theorem ev_is_behind {C : Fx} {ta tb tc : TE} {e : En} {j : Jb} {a b : Int} {E : XK} (ha : EvD C ta e j.dat) (hb : EvD C tb e (.int a)) (hc : EvD C tc e (.int b)) (hj : j.Ok) (a0 : 0 ≤ a) (a1 : a < (j.fs.length : Int)) (b0 : 0 ≤ b) (b1 : b < (j.fs.length : Int)) :
    EvD C (tCall sp_is_behind [] E (tCons ta (tCons tb (tCons tc tNil)))) e (.bool (decide (b ∈ behindL j.ns a))) := fun s F H k En Q q =>
  ha s F H k En _ fun v F1 H1 n1 d1 => hb s F1 H1 n1.k (En.nx n1) _ fun w F2 H2 n2 d2 => hc s F2 H2 n2.k ((En.nx n1).nx n2) _ fun u F3 H3 n3 d3 => by
    cases d2
    cases d3
    exact ⟨F3, v, j, a, b, rfl, n3.k, Dq.up d1 (n2.f.trans n3.f), hj, a0, a1, b0, b1, fun F4 H4 n4 => q _ F4 H4 (((n1.trans n2).trans n3).trans n4) (.bl _)⟩

/-- how many can be done in the hours up to k -/
def roomTo (rs : List Int) (k : Int) : Int := (rs.take k.toNat).sum + 2 * max 0 (k - (rs.length : Int))
def roomFrom (rs : List Int) (s e : Int) : Int := if e < s then 0 else roomTo rs e - roomTo rs (s - 1)
theorem sum_drop_take (l : List Int) (a b : Nat) (h : a ≤ b) : ((l.drop a).take (b - a)).sum = (l.take b).sum - (l.take a).sum := by
  have e1 : l.take b = l.take a ++ (l.drop a).take (b - a) := by
    have := List.take_add (l := l) (i := a) (j := b - a)
    rw [show a + (b - a) = b by omega] at this
    exact this
  rw [e1, List.sum_append]
  omega
theorem cut_ints {rs : List Int} {lo hi : Int} (h0 : 0 ≤ lo) (h1 : lo ≤ hi) : cutD (rs.map PyData.int) (some lo) (some hi) = ((rs.drop (min lo.toNat rs.length)).take (min hi.toNat rs.length - min lo.toNat rs.length)).map PyData.int := by
  unfold cutD
  rw [List.length_map]
  have e1 : HT.sIx rs.length 0 (some lo) = min lo.toNat rs.length := by
    rw [show lo = ((lo.toNat : Nat) : Int) by omega]
    exact HT.sIx_nat rs.length 0 lo.toNat
  have e2 : HT.sIx rs.length rs.length (some hi) = min hi.toNat rs.length := by
    rw [show hi = ((hi.toNat : Nat) : Int) by omega]
    exact HT.sIx_nat rs.length rs.length hi.toNat
  rw [e1, e2, List.map_take, List.map_drop]
theorem room_eq {rs : List Int} {s e : Int} (hs : 1 ≤ s) (he : ¬ e < s) : ((rs.drop (min (s - 1).toNat rs.length)).take (min (max (s - 1) (min e (rs.length : Int))).toNat rs.length - min (s - 1).toNat rs.length)).sum + 2 * max 0 (e - max (s - 1) (rs.length : Int)) = roomFrom rs s e := by
  unfold roomFrom roomTo
  rw [if_neg he]
  have hmin : ∀ k : Nat, rs.take (min k rs.length) = rs.take k := fun k => by
    by_cases c : k ≤ rs.length
    · rw [Nat.min_eq_left c]
    · rw [Nat.min_eq_right (by omega), List.take_of_length_le (by omega), List.take_of_length_le (by omega)]
  rw [sum_drop_take rs _ _ (by omega), hmin, hmin]
  by_cases c1 : (rs.length : Int) ≤ s - 1
  · have z1 : rs.take (max (s - 1) (min e (rs.length : Int))).toNat = rs := List.take_of_length_le (by omega)
    have z2 : rs.take (s - 1).toNat = rs := List.take_of_length_le (by omega)
    have z3 : rs.take e.toNat = rs := List.take_of_length_le (by omega)
    rw [z1, z2, z3]
    omega
  · by_cases c2 : (rs.length : Int) ≤ e
    · have z1 : rs.take (max (s - 1) (min e (rs.length : Int))).toNat = rs := List.take_of_length_le (by omega)
      have z3 : rs.take e.toNat = rs := List.take_of_length_le (by omega)
      rw [z1, z3]
      omega
    · have z1 : max (s - 1) (min e (rs.length : Int)) = e := by omega
      rw [z1]
      omega
def sp_room_from : Sp := fun vs H Q E => ∃ F v rs s e, vs = [v, .int s, .int e] ∧ Ex F H ∧ Dq F v (intsD rs) ∧ 1 ≤ s ∧ ∀ F2 H2, Nx F H F2 H2 → Q (.int (roomFrom rs s e)) H2
set_option maxHeartbeats 8000000 in
theorem ok_room_from (T : Txt K mg A) : FnOk P w K mg base CX0 1 A.f_room_from A.d_room_from ["rooms", "s", "e"] sp_room_from := by
  refine fnp_ok T.F_room_from sc_room_from (fun vs H Q E h => ?_) (fun cdv Ar outer s H vs Q E hr h => ?_)
  · obtain ⟨_, _, _, _, _, rfl, _⟩ := h; rfl
  · obtain ⟨F, v1, rs, s1, e1, rfl, k, h1, hs, q⟩ := h
    refine ⟨_, (pss_cons (ps_if (pt_cmpR op_lt (pv 2) (pv 1) (nomark _)) (pss_one (ps_ret pe_int)) pss_nil)
      (pss_cons (ps_set (i := 3) sc_room_from.nd rfl (by first | exact Or.inl rfl | exact Or.inr rfl) (pe_callB (cSum (K := K) rfl rfl) (by rfl) T.m_sum (by decide +kernel) (pa_cons (pe_slice (slL (K := K) rfl) (pv 0) (po_some (pe_op op_sub (pv 1) pe_int)) (po_some (pe_callB (call_mx2 rfl) (by rfl) T.m_max (by decide +kernel) (pa_cons (pe_op op_sub (pv 1) pe_int) (pa_cons (pe_callB (call_mn2 rfl) (by rfl) T.m_min (by decide +kernel) (pa_cons (pv 2) (pa_cons (pe_callB (cLen (K := K) rfl) (by rfl) T.m_len (by decide +kernel) (pa_cons (pv 0) pa_nil)) pa_nil))) pa_nil))))) pa_nil)))
      (pss_one (ps_ret (pe_op op_add (pv 3) (pe_op op_mul (pe_glob (v := .int 2) rfl T.c_USUAL_ROOM ⟨_, rfl⟩) (pe_callB (call_mx2 rfl) (by rfl) T.m_max (by decide +kernel) (pa_cons pe_int (pa_cons (pe_op op_sub (pv 2) (pe_callB (call_mx2 rfl) (by rfl) T.m_max (by decide +kernel) (pa_cons (pe_op op_sub (pv 1) pe_int) (pa_cons (pe_callB (cLen (K := K) rfl) (by rfl) T.m_len (by decide +kernel) (pa_cons (pv 0) pa_nil)) pa_nil)))) pa_nil))))))))), ?_⟩
    try dsimp only [cxOf, Cx.nox, Cx.wish, Cx.blk]
    have A0 := at_start (K := K) (M := M0) (N := N_room_from) k (.cons (ent_d h1) (.cons (ent_d (.int s1)) (.cons (ent_d (.int e1)) .nil))) (apart_no rfl) (Nat.le_of_ble_eq_true rfl)
    refine q_when (b := decide (e1 < s1)) (by walk_at "et") (fun hb s H A => ?_) (fun hb s H A => ?_) A0
    · refine a_ret ev_int (fun v F2 H2 nx d => ?_) A
      cases d
      have := q F2 H2 nx
      unfold roomFrom at this
      rw [if_pos (of_decide_eq_true hb)] at this
      exact this
    · have hb' := of_decide_eq_false hb
      have lenR : ∀ {C : Fx} {e : En} {i : Nat}, e[i]? = some (.dat (intsD rs)) → EvD C (tCB (Evl.rLenS C.K) (tCons (tVar i) tNil)) e (.int (rs.length : Int)) := fun h => EvD.is (ev_lenL (ds := rs.map .int) (EvD.b (ev_var h))) (by rw [List.length_map])
      refine q_asg (ev_sum (ns := (rs.drop (min (s1 - 1).toNat rs.length)).take (min (max (s1 - 1) (min e1 (rs.length : Int))).toNat rs.length - min (s1 - 1).toNat rs.length)) (EvB.is (EvD.b (EvN.dat (en_sl (ds := rs.map .int) (lo := some (s1 - 1)) (hi := some (max (s1 - 1) (min e1 (rs.length : Int)))) (by walk_at "ev") (eo_some (by walk_at "eb")) (eo_some (EvD.b (ev_max2 (by walk_at "eb") (EvD.b (ev_min2 (by walk_at "eb") (EvD.b (lenR rfl)))))))))) (by rw [cut_ints (by omega) (by omega)]))) (fun s H A => ?_) A
      refine a_ret (ev_add (by walk_at "eb") (EvD.b (ev_mul (i := 2) (j := max 0 (e1 - max (s1 - 1) (rs.length : Int))) (by walk_at "eb") (EvD.b (ev_max2 (by walk_at "eb") (EvD.b (ev_sub (by walk_at "eb") (EvD.b (ev_max2 (by walk_at "eb") (EvD.b (lenR rfl)))))))) (.inl ⟨by decide, by decide⟩)))) (fun v F2 H2 nx d => ?_) A
      cases d
      rw [room_eq hs hb']
      exact q F2 H2 nx
theorem ev_room_from {C : Fx} {ta tb tc : TE} {e : En} {rs : List Int} {a b : Int} {E : XK} (ha : EvD C ta e (intsD rs)) (hb : EvD C tb e (.int a)) (hc : EvD C tc e (.int b)) (h1 : 1 ≤ a) : EvD C (tCall sp_room_from [] E (tCons ta (tCons tb (tCons tc tNil)))) e (.int (roomFrom rs a b)) := fun s F H k En Q q =>
  ha s F H k En _ fun v F1 H1 n1 d1 => hb s F1 H1 n1.k (En.nx n1) _ fun w F2 H2 n2 d2 => hc s F2 H2 n2.k ((En.nx n1).nx n2) _ fun u F3 H3 n3 d3 => by
    cases d2
    cases d3
    exact ⟨F3, v, rs, a, b, rfl, n3.k, Dq.up d1 (n2.f.trans n3.f), h1, fun F4 H4 n4 => q _ F4 H4 (((n1.trans n2).trans n3).trans n4) (.int _)⟩

def sp_room : Sp := fun vs H Q E => ∃ F v j a b, vs = [v, .int a, .int b] ∧ Ex F H ∧ Dq F v (Jb.dat j) ∧ j.Ok ∧ 1 ≤ a ∧ ∀ F2 H2, Nx F H F2 H2 → Q (.int (roomFrom j.rs a b)) H2
theorem ok_room (T : Txt K mg A) : FnOk P w K mg base CX0 6 A.f_room A.d_room ["job", "s", "e"] sp_room := by
  refine fnp_ok T.F_room sc_room (fun vs H Q E h => ?_) (fun cdv Ar outer s H vs Q E hr h => ?_)
  · obtain ⟨_, _, _, _, _, rfl, _⟩ := h; rfl
  · obtain ⟨F, v1, j, a, b, rfl, k, h1, hj, a1, q⟩ := h
    refine ⟨_, (pss_cons (ps_expr (pe_call (ok_look_at_job T) (hr.mono (by decide)) (by rfl) T.g_look_at_job T.F_look_at_job.kp T.b_look_at_job .nil pass0 (pa_cons (pv 0) pa_nil)))
      (pss_cons (ps_if (PW.pt (pw_or (pt_not (pt_val (pe_call (ok_is_from T) (hr.mono (by decide)) (by rfl) T.g_is_from T.F_is_from.kp T.b_is_from .nil pass0 (pa_cons (pv 1) (pa_cons pe_int pa_nil))))) (pw_or1 (pt_not (pt_val (pe_call (ok_is_whole T) (hr.mono (by decide)) (by rfl) T.g_is_whole T.F_is_whole.kp T.b_is_whole .nil pass0 (pa_cons (pv 2) pa_nil))))))) (pss_one ps_never) pss_nil)
      (pss_one (ps_ret (pe_call (ok_room_from T) (hr.mono (by decide)) (by rfl) T.g_room_from T.F_room_from.kp T.b_room_from .nil pass0 (pa_cons (pe_ix (ixT (K := K) rfl) (pv 0) pe_int (fun _ _ => rfl)) (pa_cons (pv 1) (pa_cons (pv 2) pa_nil)))))))), ?_⟩
    try dsimp only [cxOf, Cx.nox, Cx.wish, Cx.blk]
    have A0 := at_start (K := K) (M := M0) (N := N_room) k (.cons (ent_d h1) (.cons (ent_d (.int a)) (.cons (ent_d (.int b)) .nil))) (apart_no rfl) (Nat.le_of_ble_eq_true rfl)
    refine q_drop (ev_look_at_job (j := j) (by walk_at "ev") hj) (fun s H A => ?_) A0
    refine q_when (b := false) (et_or2 (a := false) (b := false) (EvT.is (et_not (et_B (by walk_at "eb"))) (by simp [isFrom, a1])) (fun _ => by walk_at "eti") rfl) (fun hb => by cases hb) (fun _ s H A => ?_) A
    refine a_ret (ev_room_from (rs := j.rs) (ev_t3 (x := intsD j.fs) (y := duesD j.us) (z := needsD j.ns) (ds := []) (by walk_at "ev")) (by walk_at "ev") (by walk_at "ev") a1) (fun v F2 H2 nx d => ?_) A
    cases d; exact q F2 H2 nx
theorem ev_room {C : Fx} {ta tb tc : TE} {e : En} {j : Jb} {a b : Int} {E : XK} (ha : EvD C ta e j.dat) (hb : EvD C tb e (.int a)) (hc : EvD C tc e (.int b)) (hj : j.Ok) (h1 : 1 ≤ a) : EvD C (tCall sp_room [] E (tCons ta (tCons tb (tCons tc tNil)))) e (.int (roomFrom j.rs a b)) := fun s F H k En Q q =>
  ha s F H k En _ fun v F1 H1 n1 d1 => hb s F1 H1 n1.k (En.nx n1) _ fun w F2 H2 n2 d2 => hc s F2 H2 n2.k ((En.nx n1).nx n2) _ fun u F3 H3 n3 d3 => by
    cases d2
    cases d3
    exact ⟨F3, v, j, a, b, rfl, n3.k, Dq.up d1 (n2.f.trans n3.f), hj, h1, fun F4 H4 n4 => q _ F4 H4 (((n1.trans n2).trans n3).trans n4) (.int _)⟩

def mix1 (c k : Int) : Int := (c % 2147483647 * 48271 + k * 69621 + 1048583) % 2147483629
def mix2 (n : Int) : Int := (n * n) % 2147483587
def mixed (c k : Int) : Int := (mix2 (mix1 c k) * (mix2 (mix1 c k) + 2)) % 2147483579
theorem mixed_nn (c k : Int) : 0 ≤ mixed c k := Int.emod_nonneg _ (by decide)
def sp__law_mixed : Sp := fun vs H Q E => ∃ c k, vs = [.int c, .int k] ∧ ∀ F F2 H2, Ex F H → Nx F H F2 H2 → Q (.int (mixed c k)) H2
theorem ok__law_mixed (T : Txt K mg A) : FnOk P w K mg base CX0 1 A.f__law_mixed A.d__law_mixed ["_law_cell", "_law_k"] sp__law_mixed := by
  refine fnp_ok T.F__law_mixed sc__law_mixed (fun vs H Q E h => ?_) (fun cdv Ar outer s H vs Q E hr h => ?_)
  · obtain ⟨_, _, rfl, _⟩ := h; rfl
  · obtain ⟨c, k, rfl, q⟩ := h
    refine ⟨_, (pss_cons (ps_set (i := 2) sc__law_mixed.nd rfl (by first | exact Or.inl rfl | exact Or.inr rfl) (pe_op op_mod (pe_callTy call_i1 (by rfl) T.m_int (by decide +kernel) (pa_cons (pe_op op_add (pe_op op_add (pe_op op_mul (pe_op op_mod (pe_callTy call_i1 (by rfl) T.m_int (by decide +kernel) (pa_cons (pv 0) pa_nil)) pe_int) pe_int) (pe_op op_mul (pv 1) pe_int)) pe_int) pa_nil)) pe_int))
      (pss_cons (ps_set (i := 2) sc__law_mixed.nd rfl (by first | exact Or.inl rfl | exact Or.inr rfl) (pe_op op_mod (pe_callTy call_i1 (by rfl) T.m_int (by decide +kernel) (pa_cons (pe_op op_mul (pv 2) (pv 2)) pa_nil)) pe_int))
      (pss_one (ps_ret (pe_op op_mod (pe_callTy call_i1 (by rfl) T.m_int (by decide +kernel) (pa_cons (pe_op op_mul (pv 2) (pe_op op_add (pv 2) pe_int)) pa_nil)) pe_int))))), ?_⟩
    try dsimp only [cxOf, Cx.nox, Cx.wish, Cx.blk]
    have A0 := at_start (K := K) (M := M0) (N := N__law_mixed) (F := H) (H := H) (Ex.refl H) (.cons (ent_d (.int c)) (.cons (ent_d (.int k)) .nil)) (apart_no rfl) (Nat.le_of_ble_eq_true rfl)
    have b1 : 0 ≤ mix1 c k ∧ mix1 c k < 2147483629 := ⟨Int.emod_nonneg _ (by decide), Int.emod_lt_of_pos _ (by decide)⟩
    have b2 : 0 ≤ mix2 (mix1 c k) ∧ mix2 (mix1 c k) < 2147483587 := ⟨Int.emod_nonneg _ (by decide), Int.emod_lt_of_pos _ (by decide)⟩
    refine q_asg (d := .int (mix1 c k)) ?_ (fun s H A => ?_) A0
    · exact ev_mod (EvD.b (ev_int1 (EvD.b (ev_add (EvD.b (ev_add (EvD.b (ev_mul (EvD.b (ev_mod (EvD.b (ev_int1 (by walk_at "eb"))) (by walk_at "eb") (by decide))) (by walk_at "eb") (.inr ⟨by decide, by decide⟩))) (EvD.b (ev_mul (by walk_at "eb") (by walk_at "eb") (.inr ⟨by decide, by decide⟩))))) (by walk_at "eb"))))) (by walk_at "eb") (by decide)
    refine q_asg (d := .int (mix2 (mix1 c k))) ?_ (fun s H A => ?_) A
    · exact ev_mod (EvD.b (ev_int1 (EvD.b (ev_mul (by walk_at "eb") (by walk_at "eb") (.inl ⟨by omega, by omega⟩))))) (by walk_at "eb") (by decide)
    refine a_ret (d := .int (mixed c k)) ?_ (fun v F2 H2 nx d => ?_) A
    · exact ev_mod (EvD.b (ev_int1 (EvD.b (ev_mul (by walk_at "eb") (EvD.b (ev_add (by walk_at "eb") (by walk_at "eb"))) (.inl ⟨by omega, by omega⟩))))) (by walk_at "eb") (by decide)
    · cases d
      exact q _ F2 H2 (Ex.refl _) nx
theorem ev__law_mixed {C : Fx} {ta tb : TE} {e : En} {c k : Int} {E : XK} (ha : EvD C ta e (.int c)) (hb : EvD C tb e (.int k)) : EvD C (tCall sp__law_mixed [] E (tCons ta (tCons tb tNil))) e (.int (mixed c k)) := fun s F H ex En Q q =>
  ha s F H ex En _ fun v F1 H1 n1 d1 => hb s F1 H1 n1.k (En.nx n1) _ fun w F2 H2 n2 d2 => by
    cases d1
    cases d2
    refine ⟨c, k, rfl, fun G F3 H3 g n3 => ?_⟩
    have n23 : Nx F2 H2 F2 H3 := ⟨n3.h, Ex.refl F2, n2.k.trans (Nx.h0 n3), fun _ h _ => h, n3.th⟩
    exact q _ F2 H3 ((n1.trans n2).trans n23) (.int _)

/-- a read of the script (a list that is kept as it is) -/
theorem pile_nn {c : Int} {k : Nat → Int} : ∀ n : Nat, 0 ≤ (List.range n).foldl (fun (f : Int) (j : Nat) => f * 2147483579 + mixed c (k j)) 0 := fun n => by
  induction n with
  | zero => exact Int.le_refl 0
  | succ n ih =>
    rw [List.range_succ, List.foldl_append]
    have := mixed_nn c (k n)
    show 0 ≤ _ * 2147483579 + mixed c (k n)
    omega
def sp__law_pile (K : PySem.W.Frag) : Sp := fun vs H Q E => ∃ (a : Addr) (ns : List Int) (k : Int), vs = [.ref a, .int k] ∧ SqL K H a (ns.map V.int) ∧ ns.length ≤ 63 ∧ 0 ≤ k ∧ k < 1000 ∧ ∀ p n H2, 0 ≤ n → Ex H H2 → H p = none → H2 p = some (.lst [.int n]) → Q (.ref p) H2
theorem p60 : (10 : Int) ^ (60 : Int).toNat = 1000000000000000000000000000000000000000000000000000000000000 := by decide +kernel
theorem p18 : (10 : Int) ^ (18 : Int).toNat = 1000000000000000000 := by decide +kernel
set_option maxHeartbeats 8000000 in
theorem ok__law_pile (T : Txt K mg A) : FnOk P w K mg base CX0 2 A.f__law_pile A.d__law_pile ["_law_script", "_law_k"] (sp__law_pile K) := by
  refine fnp_ok T.F__law_pile sc__law_pile (fun vs H Q E h => ?_) (fun cdv Ar outer s H vs Q E hr h => ?_)
  · obtain ⟨_, _, _, rfl, _⟩ := h; rfl
  · obtain ⟨a, ns, k, rfl, hS, hlen, k0, k1, q⟩ := h
    refine ⟨_, (pss_cons (ps_set (i := 2) sc__law_pile.nd rfl (by first | exact Or.inl rfl | exact Or.inr rfl) pe_int)
      (pss_cons (ps_if (pt_cmpR op_lt (pv 1) (pe_callB (cLen (K := K) rfl) (by rfl) T.m_len (by decide +kernel) (pa_cons (pv 0) pa_nil)) (nomark _)) (pss_one (ps_set (i := 2) sc__law_pile.nd rfl (by first | exact Or.inl rfl | exact Or.inr rfl) (pe_ix (ixL (K := K) rfl) (pv 0) (pv 1) (fun _ _ => rfl)))) pss_nil)
      (pss_cons (ps_if (pt_cmpR op_ge (pv 2) (pe_op op_pow pe_int pe_int) (nomark _)) (pss_one (ps_ret (pe_lst (pa_cons (pe_op op_mod (pe_callTy call_i1 (by rfl) T.m_int (by decide +kernel) (pa_cons (pe_op op_sub (pv 2) (pe_op op_pow pe_int pe_int)) pa_nil)) (pe_op op_mulW (pe_op op_mulW (pe_op op_mulW (pe_op op_pow pe_int pe_int) (pe_op op_pow pe_int pe_int)) (pe_op op_pow pe_int pe_int)) (pe_op op_pow pe_int pe_int))) pa_nil)))) pss_nil)
      (pss_cons (ps_set (i := 3) sc__law_pile.nd rfl (by first | exact Or.inl rfl | exact Or.inr rfl) pe_int)
      (pss_cons (ps_for PassesOwn.never rfl (pi_range1 (by rfl) T.m_range (pa_cons pe_int pa_nil)) (pg_name (i := 4) sc__law_pile.nd rfl (by first | exact Or.inl rfl | exact Or.inr rfl)) (pss_one (ps_set (i := 3) sc__law_pile.nd rfl (by first | exact Or.inl rfl | exact Or.inr rfl) (pe_op op_add (pe_op op_mul (pv 3) pe_int) (pe_call (ok__law_mixed T) (hr.mono (by decide)) (by rfl) T.g__law_mixed T.F__law_mixed.kp T.b__law_mixed .nil pass0 (pa_cons (pv 2) (pa_cons (pe_op op_add (pe_op op_add (pe_op op_mul pe_int (pv 1)) (pe_op op_mul pe_int (pv 4))) (pe_op op_mul (pv 4) (pv 4))) pa_nil)))))))
      (pss_one (ps_ret (pe_lst (pa_cons (pv 3) pa_nil))))))))), ?_⟩
    try dsimp only [cxOf, Cx.nox, Cx.wish, Cx.blk]
    have A0 : At ⟨K, M0, fun _ => none, H⟩ (fun _ => none) [.val (.ref a), .dat (.int k), .un, .un, .un] (L2.start N__law_pile [.ref a, .int k]) H := at_start (K := K) (M := M0) (N := N__law_pile) (F := fun _ => none) (fun _ _ h => by cases h) (.cons ent_v (.cons (ent_d (.int k)) .nil)) (apart_no rfl) (Nat.le_of_ble_eq_true rfl)
    refine q_asg (d := .int 0) (by walk_at "ev") (fun s1 H1 A => ?_) A0
    -- the cell
    have tail : ∀ c s1 H1, At ⟨K, M0, fun _ => none, H⟩ (fun _ => none) [.val (.ref a), .dat (.int k), .dat (.int c), .un, .un] s1 H1 →
        tSeq (tIfS (tTest (tOp (rI0 fun i j => .bl (decide (j ≤ i))) (tVar 2) (tOp (rI CPow fun i j => .int (i ^ j.toNat)) (tC (.int 10)) (tC (.int 18)))))
          (tRet (tLst (tCons (tOp (rI (fun _ j => 0 < j) fun i j => .int (i % j)) (tCB rInt1 (tCons (tOp (rI0 fun i j => .int (i - j)) (tVar 2) (tOp (rI CPow fun i j => .int (i ^ j.toNat)) (tC (.int 10)) (tC (.int 18)))) tNil))
            (tOp (rI CMulW fun i j => .int (i * j)) (tOp (rI CMulW fun i j => .int (i * j)) (tOp (rI CMulW fun i j => .int (i * j)) (tOp (rI CPow fun i j => .int (i ^ j.toNat)) (tC (.int 10)) (tC (.int 60))) (tOp (rI CPow fun i j => .int (i ^ j.toNat)) (tC (.int 10)) (tC (.int 60)))) (tOp (rI CPow fun i j => .int (i ^ j.toNat)) (tC (.int 10)) (tC (.int 60)))) (tOp (rI CPow fun i j => .int (i ^ j.toNat)) (tC (.int 10)) (tC (.int 60))))) tNil))) tNext)
          (tSeq (tAsg (tC (.int 0)) (gName 3)) (tSeq (tFor (iRng1 (tCons (tC (.int 24)) tNil)) (gName 4)
            (tAsg (tOp (rI0 fun i j => .int (i + j)) (tOp (rI CMul fun i j => .int (i * j)) (tVar 3) (tC (.int 2147483579))) (tCall sp__law_mixed [] E0 (tCons (tVar 2) (tCons (tOp (rI0 fun i j => .int (i + j)) (tOp (rI0 fun i j => .int (i + j)) (tOp (rI CMul fun i j => .int (i * j)) (tC (.int 7)) (tVar 1)) (tOp (rI CMul fun i j => .int (i * j)) (tC (.int 100)) (tVar 4))) (tOp (rI CMul fun i j => .int (i * j)) (tVar 4) (tVar 4))) tNil)))) (gName 3))) (tRet (tLst (tCons (tVar 3) tNil))))) { nx := fun _ H' => Q .non H', rt := Q } s1 H1 := fun c s1 H1 A => by
      have c18 : ∀ {C : Fx} {e : En}, EvD C (tOp (rI CPow fun i j => .int (i ^ j.toNat)) (tC (.int 10)) (tC (.int 18))) e (.int 1000000000000000000) := fun {C e} => EvD.is (ev_pow (EvD.b ev_int) (EvD.b ev_int) ⟨by decide, by decide, by decide⟩) (by rw [p18])
      have c60 : ∀ {C : Fx} {e : En}, EvD C (tOp (rI CPow fun i j => .int (i ^ j.toNat)) (tC (.int 10)) (tC (.int 60))) e (.int 1000000000000000000000000000000000000000000000000000000000000) := fun {C e} => EvD.is (ev_pow (EvD.b ev_int) (EvD.b ev_int) ⟨by decide, by decide, by decide⟩) (by rw [p60])
      have cm : ∀ {C : Fx} {e : En} {ta tb : TE} {i j : Int}, EvD C ta e (.int i) → EvD C tb e (.int j) → CMulW i j → EvD C (tOp (rI CMulW fun i j => .int (i * j)) ta tb) e (.int (i * j)) := fun h1 h2 hc => ev_opB h1.b h2.b (rv_ic hc fun _ => .int _)
      refine q_when (b := decide (1000000000000000000 ≤ c)) (et_test (EvD.b (ev_ge (by walk_at "eb") (EvD.b c18)))) (fun hb s H2 A => ?_) (fun hb s H2 A => ?_) A
      · refine a_retN (en_lst (ea_cons (ev_mod (i := c - 1000000000000000000) (EvD.b (ev_int1 (EvD.b (ev_sub (by walk_at "eb") (EvD.b c18))))) (EvD.b (cm (cm (cm c60 c60 (by show _ < _; decide +kernel)) c60 (by show _ < _; decide +kernel)) c60 (by show _ < _; decide +kernel))) (by decide)) ea_nil) (Nat.le_of_ble_eq_true rfl)) (fun p xs F2 H3 nx h1 h2 h3 h4 => ?_) A
        have hx := dpa_ints' (ns := [_]) h4
        subst hx
        exact q p _ H3 (Int.emod_nonneg _ (by decide)) (Nx.h0 nx) h1 h3
      · refine q_asg (d := .int 0) (by walk_at "ev") (fun s H2 A => ?_) A
        refine q_forR1 (m := 24) (fun i e' => ∃ x4, e' = [.val (.ref a), .dat (.int k), .dat (.int c), .dat (.int ((List.range i).foldl (fun (f : Int) (j : Nat) => f * 2147483579 + mixed c (7 * k + 100 * (j : Int) + (j : Int) * (j : Int))) 0)), x4]) (ea_cons ev_int ea_nil) ⟨by decide, by decide⟩ ⟨.un, rfl⟩ (fun i e' h => by obtain ⟨x4, rfl⟩ := h; exact Nat.le_of_ble_eq_true rfl) ?_ ?_ A
        · rintro i e' hi ⟨x4, rfl⟩ s H2 A
          refine a_asg (ev_add (EvD.b (ev_mul (by walk_at "eb") (by walk_at "eb") (.inr ⟨by decide, by decide⟩))) (EvD.b (ev__law_mixed (c := c) (k := 7 * k + 100 * (i : Int) + (i : Int) * (i : Int)) (by walk_at "ev") (ev_add (EvD.b (ev_add (EvD.b (ev_mul (by walk_at "eb") (by walk_at "eb") (.inl ⟨by decide, by decide⟩))) (EvD.b (ev_mul (by walk_at "eb") (by walk_at "eb") (.inl ⟨by decide, by decide⟩))))) (EvD.b (ev_mul (by walk_at "eb") (by walk_at "eb") (.inl ⟨by omega, by omega⟩))))))) (fun s H2 A => ?_) A
          refine ⟨_, ⟨.dat (.int (i : Int)), ?_⟩, A⟩
          rw [List.range_succ, List.foldl_append]
          rfl
        · rintro e' ⟨x4, rfl⟩ s H2 A
          refine a_retN (en_lst (ea_cons (by walk_at "ev") ea_nil) (Nat.le_of_ble_eq_true rfl)) (fun p xs F2 H3 nx h1 h2 h3 h4 => ?_) A
          have hx := dpa_ints' (ns := [_]) h4
          subst hx
          exact q p _ H3 (pile_nn (c := c) (k := fun j => 7 * k + 100 * (j : Int) + (j : Int) * (j : Int)) 24) (Nx.h0 nx) h1 h3
    obtain ⟨F, n, b, E⟩ := A
    have hs1 : s1[0]? = some (some (.ref a)) := E.ent 0 _ rfl
    have hs2 : s1[1]? = some (some (.int k)) := by obtain ⟨v, h1, h2⟩ := E.ent 1 _ rfl; cases h2; exact h1
    have hq1 : SqL K H1 a (ns.map V.int) := Evl.ex_l (Nx.h0 n) hS
    refine ⟨.int k, hs2, .ref a, hs1, a, ns.map V.int, rfl, .inl hq1, k, ((ns.map V.int).length : Int), rfl, rfl, _, rfl, ?_⟩
    refine ite2 (fun hk => ?_) (fun hk => ?_)
    · have hk' : k < ((ns.map V.int).length : Int) := of_decide_eq_true hk
      rw [List.length_map] at hk'
      obtain ⟨c, hc⟩ : ∃ c, ns[k.toNat]? = some c := ⟨ns[k.toNat]'(by omega), List.getElem?_eq_getElem (by omega)⟩
      refine ⟨.ref a, hs1, .int k, hs2, a, ns.map V.int, k, .int c, rfl, rfl, hq1, at_n (j := k.toNat) (by rw [List.getElem?_map, hc]; rfl) (by omega), ?_⟩
      exact tail c _ _ ⟨F, n, b, E.put (d := .int c) (i := 2) (Nat.le_of_ble_eq_true rfl) (.int c)⟩
    · exact tail 0 _ _ ⟨F, n, b, E⟩

def sp__law_take : Sp := spP (fun ds => ∃ k, ds = [.int k] ∧ 0 < k ∧ k < 1073741824) (fun ds d => ∃ k r, ds = [.int k] ∧ d = .int r ∧ 0 ≤ r ∧ r < k)
theorem ep_pil0 {C : Fx} {e : En} {i : Nat} {p : Addr} (hi : e[i]? = some (.pil p)) : EvP C (tOp (rIxL C.K) (tVar i) (tC (.int 0))) e (fun d => ∃ n, 0 ≤ n ∧ d = .int n) := fun s F H k E Q q => by
  obtain ⟨h1, h2, h3, n, h4, h5⟩ := E.ent i _ hi
  exact ⟨_, h1, p, [.int n], 0, .int n, rfl, rfl, .inl (.inl h5), at0, q _ _ F H ⟨n, h4, rfl⟩ (NxM.refl k) E (.int n)⟩
theorem a_setPil {C : Fx} {e : En} {i : Nat} {p : Addr} {te : TE} {D : Ends} {s : L2.St} {H B : Hp} (hi : e[i]? = some (.pil p)) (h : EvP C te e (fun d => ∃ n, 0 ≤ n ∧ d = .int n)) (k : ∀ s H, At C B e s H → D.nx s H) (A : At C B e s H) : tAsg te (gSub (tVar i) (tC (.int 0)) rSetL) D s H := by
  obtain ⟨F, n, b, E⟩ := A
  refine h s F H n.k E _ fun v d F2 H2 hd n2 E2 d2 => ?_
  obtain ⟨m, hm, rfl⟩ := hd
  cases d2
  obtain ⟨h1, h2, h3, m2, h4, h5⟩ := E2.ent i _ hi
  refine ⟨_, h1, p, [.int m2], 0, 0, rfl, rfl, h5, rfl, k _ _ ⟨F2, NxM.own (nx_ow n E n2) h3 h2, b.trans n2.f, E2.len, fun j x qx => ?_, E2.apart⟩⟩
  by_cases c : j = i
  · subst c
    rw [hi] at qx
    cases qx
    exact ⟨h1, h2, h3, m, hm, upd_same⟩
  · refine (E2.ent j x qx).nxm (NxM.wr (M := (· = p)) (nx_ow n E n2).k rfl h2) fun a hadr z => ?_
    subst z
    exact E2.apart j i x _ a c qx hi hadr rfl
theorem q_setPil {C : Fx} {e : En} {i : Nat} {p : Addr} {te : TE} {D : Ends} {tz : TS} {s : L2.St} {H B : Hp} (hi : e[i]? = some (.pil p)) (h : EvP C te e (fun d => ∃ n, 0 ≤ n ∧ d = .int n)) (k : ∀ s H, At C B e s H → tz D s H) (A : At C B e s H) : tSeq (tAsg te (gSub (tVar i) (tC (.int 0)) rSetL)) tz D s H := a_setPil (D := { D with nx := tz D }) hi h k A
theorem ok__law_take (T : Txt K mg A) : FnOk P w K mg base CX0 1 A.f__law_take A.d__law_take ["_law_pile_here", "_law_size"] sp__law_take := by
  refine fnp_ok T.F__law_take sc__law_take (fun vs H Q E h => ?_) (fun cdv Ar outer s H vs Q E hr h => ?_)
  · obtain ⟨F, p, vs', ds, rfl, _, _, _, hd, ⟨k, rfl, _⟩, _⟩ := h
    have := dpa_len hd
    simpa using this
  · obtain ⟨F, p, vs', ds, rfl, k, hF, hn, hd, ⟨kk, rfl, k0, k1⟩, q⟩ := h
    have hv : vs' = [.int kk] := by
      cases hd with
      | cons a b => cases a; cases b; rfl
    subst hv
    refine ⟨_, (pss_cons (ps_set (i := 2) sc__law_take.nd rfl (by first | exact Or.inl rfl | exact Or.inr rfl) (pe_op op_mod (pe_callTy call_i1 (by rfl) T.m_int (by decide +kernel) (pa_cons (pe_ix (ixL (K := K) rfl) (pv 0) pe_int (fun _ _ => rfl)) pa_nil)) (pv 1)))
      (pss_cons (ps_asg (pe_op op_fdiv (pe_ix (ixL (K := K) rfl) (pv 0) pe_int (fun _ _ => rfl)) (pv 1)) (pg_sub (pv 0) pe_int set_list))
      (pss_one (ps_ret (pv 2))))), ?_⟩
    try dsimp only [cxOf, Cx.nox, Cx.wish, Cx.blk]
    have A0 := at_start (K := K) (M := (· = p)) (N := N__law_take) k (.cons (ent_pil hF (.inl rfl) hn) (.cons (ent_d (.int kk)) .nil)) (apart_one rfl) (Nat.le_of_ble_eq_true rfl)
    refine q_asgP (P := fun d => ∃ r, d = .int r ∧ 0 ≤ r ∧ r < kk) ?_ (fun d hr s H A => ?_) A0
    · refine ep_op (P1 := fun d => ∃ n, 0 ≤ n ∧ d = .int n) (P2 := (· = .int kk)) ?_ (EvD.tp (by walk_at "ev")) ?_
      · refine ep_cb (epa_cons (ep_pil0 rfl) epa_nil) ?_
        rintro _ ⟨_, _, rfl, ⟨n, n0, rfl⟩, rfl⟩
        refine ⟨.int n, fun F H vs k h Q q => ?_, n, n0, rfl⟩
        cases h with
        | cons a b => cases a; cases b; exact .inl ⟨n, rfl, q _ F H (NxM.refl k) (.int n)⟩
      · rintro _ _ ⟨n, n0, rfl⟩ rfl
        exact ⟨.int (n % kk), RvB.rd (rv_ic k0 fun _ => .int _), n % kk, rfl, Int.emod_nonneg _ (by omega), Int.emod_lt_of_pos _ k0⟩
    obtain ⟨r, rfl, r0, r1⟩ := hr
    refine q_setPil rfl ?_ (fun s H A => ?_) A
    · refine ep_op (P1 := fun d => ∃ n, 0 ≤ n ∧ d = .int n) (P2 := (· = .int kk)) (ep_pil0 rfl) (EvD.tp (by walk_at "ev")) ?_
      rintro _ _ ⟨n, n0, rfl⟩ rfl
      exact ⟨.int (n / kk), RvB.rd (rv_ic ⟨k0, k1⟩ fun _ => .int _), n / kk, Int.ediv_nonneg n0 (by omega), rfl⟩
    refine a_retP (EvD.tp (d := .int r) (by walk_at "ev")) (fun v d s F2 H2 hd nx E2 dq => ?_) A
    subst hd
    exact q v _ F2 H2 ⟨kk, r, rfl, rfl, r0, r1⟩ nx (env_pil E2 (i := 0) rfl) dq
/-- a digit, drawn -/
theorem ep_take {C : Fx} {e : En} {i : Nat} {p : Addr} {tb : TE} {k : Int} {E : XK} (hi : e[i]? = some (.pil p)) (hb : EvD C tb e (.int k)) (h0 : 0 < k) (h1 : k < 1073741824) : EvP C (tCall sp__law_take [] E (tCons (tVar i) (tCons tb tNil))) e (fun d => ∃ r, d = .int r ∧ 0 ≤ r ∧ r < k) :=
  (ep_pile hi (ea_cons hb ea_nil).tp (fun ds h => ⟨k, h, h0, h1⟩)).imp fun d hd => by
    obtain ⟨ds, rfl, k', r, e1, rfl, r0, r1⟩ := hd
    cases e1
    exact ⟨r, rfl, r0, r1⟩

def natsI (n : Nat) : List Int := (List.range n).map Int.ofNat
theorem natsI_succ (n : Nat) : natsI (n + 1) = natsI n ++ [(n : Int)] := by
  unfold natsI
  rw [List.range_succ, List.map_append]
  rfl
theorem mem_natsI {n : Nat} {x : Int} : x ∈ natsI n ↔ 0 ≤ x ∧ x < (n : Int) := by
  unfold natsI
  rw [List.mem_map]
  constructor
  · rintro ⟨k, hk, rfl⟩
    have := List.mem_range.mp hk
    show (0 : Int) ≤ (k : Int) ∧ (k : Int) < _
    omega
  · rintro ⟨h0, h1⟩
    exact ⟨x.toNat, List.mem_range.mpr (by omega), by show ((x.toNat : Nat) : Int) = x; omega⟩
theorem natsI_nodup (n : Nat) : (natsI n).Nodup := by
  unfold natsI
  refine List.pairwise_map.mpr (List.nodup_range.imp fun {a b} h z => h ?_)
  exact Int.ofNat.inj z
theorem natsI_len (n : Nat) : (natsI n).length = n := by
  unfold natsI
  rw [List.length_map, List.length_range]
structure Ord (n : Nat) (l : List Int) : Prop where
  perm : l.Perm (natsI n)
theorem Ord.len {n : Nat} {l : List Int} (h : Ord n l) : l.length = n := by rw [h.perm.length_eq, natsI_len]
theorem Ord.nd {n : Nat} {l : List Int} (h : Ord n l) : l.Nodup := h.perm.nodup_iff.mpr (natsI_nodup n)
theorem Ord.mem {n : Nat} {l : List Int} (h : Ord n l) {x : Int} : x ∈ l ↔ 0 ≤ x ∧ x < (n : Int) := (h.perm.mem_iff).trans mem_natsI
theorem ins_perm {α : Type} (l : List α) (r : Nat) (x : α) : (l.take r ++ [x] ++ l.drop r).Perm (l ++ [x]) := by
  have h1 : (l.take r ++ [x] ++ l.drop r).Perm (l.take r ++ (l.drop r ++ [x])) := by
    rw [List.append_assoc]
    exact List.Perm.append_left _ List.perm_append_comm
  rw [← List.append_assoc, List.take_append_drop] at h1
  exact h1
def sp__law_order : Sp := spP (fun ds => ∃ m : Nat, ds = [.int (m : Int)] ∧ m ≤ 1000) (fun ds d => ∃ (m : Nat) (l : List Int), ds = [.int (m : Int)] ∧ d = intsD l ∧ Ord m l)
set_option maxHeartbeats 8000000 in
theorem ok__law_order (T : Txt K mg A) : FnOk P w K mg base CX0 2 A.f__law_order A.d__law_order ["_law_pile_here", "_law_many"] sp__law_order := by
  refine fnp_ok T.F__law_order sc__law_order (fun vs H Q E h => ?_) (fun cdv Ar outer s H vs Q E hr h => ?_)
  · obtain ⟨F, p, vs', ds, rfl, _, _, _, hd, ⟨k, rfl, _⟩, _⟩ := h
    have := dpa_len hd
    simpa using this
  · obtain ⟨F, p, vs', ds, rfl, k, hF, hn, hd, ⟨m, rfl, hm⟩, q⟩ := h
    have hv : vs' = [.int (m : Int)] := by
      cases hd with
      | cons a b => cases a; cases b; rfl
    subst hv
    refine ⟨_, (pss_cons (ps_set (i := 2) sc__law_order.nd rfl (by first | exact Or.inl rfl | exact Or.inr rfl) (pe_lst pa_nil))
      (pss_cons (ps_for PassesOwn.never rfl (pi_range1 (by rfl) T.m_range (pa_cons (pv 1) pa_nil)) (pg_name (i := 3) sc__law_order.nd rfl (by first | exact Or.inl rfl | exact Or.inr rfl)) (pss_one (ps_expr (pe_bmK (K := K) rfl PySem.F.plainAttrs_list PySem.F.slot_list_insert PySem.F.type_list_insert mIns (pv 2) (pa_cons (pe_call (ok__law_take T) (hr.mono (by decide)) (by rfl) T.g__law_take T.F__law_take.kp T.b__law_take .nil pass0 (pa_cons (pv 0) (pa_cons (pe_op op_add (pv 3) pe_int) pa_nil))) (pa_cons (pv 3) pa_nil))))))
      (pss_one (ps_ret (pv 2))))), ?_⟩
    try dsimp only [cxOf, Cx.nox, Cx.wish, Cx.blk]
    have A0 := at_start (K := K) (M := (· = p)) (N := N__law_order) k (.cons (ent_pil hF (.inl rfl) hn) (.cons (ent_d (.int (m : Int))) .nil)) (apart_one rfl) (Nat.le_of_ble_eq_true rfl)
    refine q_asgN (ds := []) (en_lst ea_nil (Nat.le_of_ble_eq_true rfl)) (fun a s H A => ?_) A0
    refine q_forR1 (m := (m : Int)) (fun i e' => ∃ l x3, e' = [.pil p, .dat (.int (m : Int)), .own a (l.map .int), x3] ∧ l.Perm (natsI i)) (ea_cons (by walk_at "ev") ea_nil) ⟨by omega, by omega⟩ ⟨[], .un, rfl, List.Perm.nil⟩ (fun i e' h => by obtain ⟨_, _, rfl, _⟩ := h; exact Nat.le_of_ble_eq_true rfl) ?_ ?_ A
    · rintro i e' hi ⟨l, x3, rfl, hl⟩ s H A
      have ll : l.length = i := by rw [hl.length_eq, natsI_len]
      refine a_insP (ds := l.map .int) rfl (epa_cons (ep_take (k := (i : Int) + 1) rfl (by walk_at "ev") (by omega) (by omega)) (epa_cons (EvD.tp (d := .int (i : Int)) (by walk_at "ev")) epa_nil)) (by rw [List.length_map]; omega) ?_ ?_ A
      · rintro _ ⟨_, _, rfl, ⟨r, rfl, r0, r1⟩, _, _, rfl, rfl, rfl⟩
        exact ⟨r.toNat, _, by rw [Int.toNat_of_nonneg r0], by omega⟩
      · rintro r d ⟨_, _, e1, ⟨r', rfl, r0, r1⟩, _, _, rfl, rfl, rfl⟩ s H A
        cases e1
        refine ⟨_, ⟨l.take r ++ [(i : Int)] ++ l.drop r, .dat (.int (i : Int)), ?_, ?_⟩, A⟩
        · rw [List.map_append, List.map_append, List.map_take, List.map_drop]
          rfl
        · rw [natsI_succ]
          exact (ins_perm l r _).trans (List.Perm.append_right _ hl)
    · rintro e' ⟨l, x3, rfl, hl⟩ s H A
      refine a_retF (ds := l.map .int) (i := 2) rfl (fun F H s E => nm_pil E (i := 2) (j := 0) rfl rfl (by decide)) (fun v s F2 H2 nx E2 dq => ?_) A
      exact q v _ F2 H2 ⟨m, l, rfl, rfl, ⟨by rw [Int.toNat_natCast] at hl; exact hl⟩⟩ nx (env_pil E2 (i := 0) rfl) dq

def roomAt (rs : List Int) (h : Int) : Int := if h ≤ (rs.length : Int) then rs.getD (h - 1).toNat 0 else 2
theorem roomAt_nn {rs : List Int} (hr : ∀ r ∈ rs, 0 ≤ r ∧ r < 4) (h : Int) : 0 ≤ roomAt rs h ∧ roomAt rs h < 4 := by
  unfold roomAt
  split
  · rw [List.getD_eq_getElem?_getD]
    cases q : rs[(h - 1).toNat]? with
    | none => exact ⟨by decide, by decide⟩
    | some r => exact hr r (List.mem_of_getElem? q)
  · exact ⟨by decide, by decide⟩
def spRoom : Sp := fun vs H Q E => ∃ F v rs h, vs = [v, .int h] ∧ Ex F H ∧ Dq F v (intsD rs) ∧ 1 ≤ h ∧ ∀ F2 H2, Nx F H F2 H2 → Q (.int (roomAt rs h)) H2
theorem ev_spRoom {C : Fx} {ta tb : TE} {e : En} {rs : List Int} {h : Int} {E : XK} (ha : EvD C ta e (intsD rs)) (hb : EvD C tb e (.int h)) (h1 : 1 ≤ h) : EvD C (tCall spRoom [] E (tCons ta (tCons tb tNil))) e (.int (roomAt rs h)) := fun s F H k En Q q =>
  ha s F H k En _ fun v F1 H1 n1 d1 => hb s F1 H1 n1.k (En.nx n1) _ fun w F2 H2 n2 d2 => by
    cases d2
    exact ⟨F2, v, rs, h, rfl, n2.k, Dq.up d1 n2.f, h1, fun F3 H3 n3 => q _ F3 H3 ((n1.trans n2).trans n3) (.int _)⟩
def sp__law_room : Sp := spRoom
theorem ok__law_room (T : Txt K mg A) : FnOk P w K mg base CX0 1 A.f__law_room A.d__law_room ["_law_rooms", "_law_hour"] sp__law_room := by
  refine fnp_ok T.F__law_room sc__law_room (fun vs H Q E h => ?_) (fun cdv Ar outer s H vs Q E hr h => ?_)
  · obtain ⟨_, _, _, _, rfl, _⟩ := h; rfl
  · obtain ⟨F, v1, rs, hh, rfl, k, h1, h0, q⟩ := h
    refine ⟨_, (pss_cons (ps_if (pt_cmpR op_le (pv 1) (pe_callB (cLen (K := K) rfl) (by rfl) T.m_len (by decide +kernel) (pa_cons (pv 0) pa_nil)) (nomark _)) (pss_one (ps_ret (pe_ix (ixL (K := K) rfl) (pv 0) (pe_op op_sub (pv 1) pe_int) (fun _ _ => rfl)))) pss_nil)
      (pss_one (ps_ret pe_int))), ?_⟩
    try dsimp only [cxOf, Cx.nox, Cx.wish, Cx.blk]
    have A0 := at_start (K := K) (M := M0) (N := N__law_room) k (.cons (ent_d h1) (.cons (ent_d (.int hh)) .nil)) (apart_no rfl) (Nat.le_of_ble_eq_true rfl)
    refine q_when (b := decide (hh ≤ (rs.length : Int))) (et_test (EvD.b (ev_le (by walk_at "eb") (EvD.b (EvD.is (ev_lenL (ds := rs.map .int) (by walk_at "eb")) (by rw [List.length_map])))))) (fun hb s H A => ?_) (fun hb s H A => ?_) A0
    · have hb' := of_decide_eq_true hb
      have hg : rs[(hh - 1).toNat]? = some (rs.getD (hh - 1).toNat 0) := by
        rw [List.getD_eq_getElem?_getD, List.getElem?_eq_getElem (by omega)]
        rfl
      refine a_ret (ev_ixL (ds := rs.map .int) (i := hh - 1) (z := .int (roomAt rs hh)) (by walk_at "ev") (by walk_at "ev") (at_n (j := (hh - 1).toNat) (by rw [List.getElem?_map, hg]; unfold roomAt; rw [if_pos hb']; rfl) (by omega))) (fun v F2 H2 nx d => ?_) A
      cases d; exact q F2 H2 nx
    · have hb' := of_decide_eq_false hb
      refine a_ret (d := .int (roomAt rs hh)) (EvD.is ev_int (by unfold roomAt; rw [if_neg hb'])) (fun v F2 H2 nx d => ?_) A
      cases d; exact q F2 H2 nx

/-- how full the hours are when the hour at hand is hr with lf places left -/
structure HSt (rs hs : List Int) (hr lf : Int) : Prop where
  lt : ∀ h, 1 ≤ h → h < hr → (hs.count h : Int) ≤ roomAt rs h
  eq : (hs.count hr : Int) = roomAt rs hr - lf
  gt : ∀ h, hr < h → hs.count h = 0
  nn : 0 ≤ lf
  h1 : 1 ≤ hr
theorem HSt.next {rs hs : List Int} {hr lf : Int} (h : HSt rs hs hr lf) (hrs : ∀ r ∈ rs, 0 ≤ r ∧ r < 4) : HSt rs hs (hr + 1) (roomAt rs (hr + 1)) where
  lt := fun x h1 h2 => by
    by_cases c : x = hr
    · subst c; have := h.eq; have := h.nn; omega
    · exact h.lt x h1 (by omega)
  eq := by rw [h.gt (hr + 1) (by omega)]; simp
  gt := fun x hx => h.gt x (by omega)
  nn := (roomAt_nn hrs _).1
  h1 := by have := h.h1; omega
theorem count_set0 {hs : List Int} {t : Nat} {v b : Int} (ht : hs[t]? = some 0) (hb : 1 ≤ b) : (hs.set t v).count b = hs.count b + (if v = b then 1 else 0) := by
  have hlt : t < hs.length := (List.getElem?_eq_some_iff.mp ht).1
  have h0 : hs[t] = 0 := by have := (List.getElem?_eq_some_iff.mp ht).2; exact this
  rw [List.count_set hlt, h0]
  have c1 : ((0 : Int) == b) = false := by
    have : ¬ (0 : Int) = b := by omega
    simpa using this
  rw [c1]
  by_cases c : v = b
  · subst c; simp
  · have c2 : (v == b) = false := by simpa using c
    rw [c2]; simp [c]
theorem HSt.put {rs hs : List Int} {hr lf : Int} {t : Nat} (h : HSt rs hs hr lf) (ht : hs[t]? = some 0) (hl : 1 ≤ lf) : HSt rs (hs.set t hr) hr (lf - 1) where
  lt := fun x h1 h2 => by
    rw [count_set0 ht h1, if_neg (by omega)]
    exact h.lt x h1 h2
  eq := by
    have := h.eq
    rw [count_set0 ht h.h1, if_pos rfl]
    omega
  gt := fun x hx => by
    have := h.h1
    rw [count_set0 ht (by omega), if_neg (by omega), h.gt x hx]
  nn := by omega
  h1 := h.h1
/-- the hours of the tasks in order, as far as they are drawn -/
structure HDr (l hs vs : List Int) (n i : Nat) (hr : Int) : Prop where
  len : hs.length = n
  vlen : vs.length = i
  at_ : ∀ (k : Nat) t, k < i → l[k]? = some t → hs[t.toNat]? = vs[k]?
  zero : ∀ (k : Nat) t, i ≤ k → l[k]? = some t → hs[t.toNat]? = some 0
  up : vs.Pairwise (· ≤ ·)
  bd : ∀ v ∈ vs, 1 ≤ v ∧ v ≤ hr
theorem HDr.put {l hs vs : List Int} {n i : Nat} {hr t : Int} (h : HDr l hs vs n i hr) (ho : Ord n l) (ht : l[i]? = some t) (h1 : 1 ≤ hr) : HDr l (hs.set t.toNat hr) (vs ++ [hr]) n (i + 1) hr := by
  have bt := (ho.mem).mp (List.mem_of_getElem? ht)
  have inj : ∀ (k : Nat) u, k ≠ i → l[k]? = some u → t.toNat ≠ u.toNat := fun k u hk hu z => by
    have bu := (ho.mem).mp (List.mem_of_getElem? hu)
    have : t = u := by omega
    subst this
    exact hk (nd_ix ho.nd hu ht)
  refine ⟨by rw [List.length_set]; exact h.len, by rw [List.length_append, h.vlen]; rfl, fun k u hk hu => ?_, fun k u hk hu => ?_, ?_, fun v hv => ?_⟩
  · by_cases c : k = i
    · subst c
      rw [ht] at hu
      cases hu
      rw [List.getElem?_set_self (by rw [h.len]; omega), List.getElem?_append_right (by rw [h.vlen]; omega), h.vlen, Nat.sub_self]
      rfl
    · rw [List.getElem?_set_ne (inj k u c hu), List.getElem?_append_left (by rw [h.vlen]; omega)]
      exact h.at_ k u (by omega) hu
  · rw [List.getElem?_set_ne (inj k u (by omega) hu)]
    exact h.zero k u (by omega) hu
  · rw [List.pairwise_append]
    exact ⟨h.up, List.pairwise_singleton _ _, fun a ha b hb => by rw [List.mem_singleton.mp hb]; exact (h.bd a ha).2⟩
  · rcases List.mem_append.mp hv with z | z
    · exact h.bd v z
    · rw [List.mem_singleton.mp z]; omega
theorem HDr.later {l hs vs : List Int} {n i : Nat} {hr hr2 : Int} (h : HDr l hs vs n i hr) (h2 : hr ≤ hr2) : HDr l hs vs n i hr2 := ⟨h.len, h.vlen, h.at_, h.zero, h.up, fun v hv => ⟨(h.bd v hv).1, Int.le_trans (h.bd v hv).2 h2⟩⟩
/-- hours drawn: in the order they ascend, there is room for them -/
structure Hrs (l rs hs : List Int) (n : Nat) : Prop where
  len : hs.length = n
  bd : ∀ h ∈ hs, 1 ≤ h ∧ h ≤ 20 + (n : Int)
  up : ∀ (i j : Nat) a b x y, i < j → l[i]? = some a → l[j]? = some b → hs[a.toNat]? = some x → hs[b.toNat]? = some y → x ≤ y
  room : ∀ h, 1 ≤ h → (hs.count h : Int) ≤ roomAt rs h
theorem hrs_of {l rs hs vs : List Int} {n : Nat} {hr lf : Int} (ho : Ord n l) (hd : HDr l hs vs n n hr) (hst : HSt rs hs hr lf) (hrs : ∀ r ∈ rs, 0 ≤ r ∧ r < 4) (hb : hr ≤ 20 + (n : Int)) : Hrs l rs hs n where
  len := hd.len
  bd := fun h hh => by
    obtain ⟨t, ht⟩ := List.getElem?_of_mem hh
    have tl : t < n := by rw [← hd.len]; exact (List.getElem?_eq_some_iff.mp ht).1
    obtain ⟨k, hk⟩ := List.getElem?_of_mem ((ho.mem (x := (t : Int))).mpr ⟨by omega, by omega⟩)
    have kn : k < n := by rw [← ho.len]; exact (List.getElem?_eq_some_iff.mp hk).1
    have e := hd.at_ k _ kn hk
    rw [Int.toNat_natCast, ht] at e
    have := hd.bd h (List.mem_of_getElem? e.symm)
    omega
  up := fun i j a b x y hij ha hb' hx hy => by
    have jn : j < n := by rw [← ho.len]; exact (List.getElem?_eq_some_iff.mp hb').1
    have e1 := hd.at_ i _ (by omega) ha
    have e2 := hd.at_ j _ jn hb'
    rw [hx] at e1
    rw [hy] at e2
    obtain ⟨g1, g2⟩ := List.getElem?_eq_some_iff.mp e1.symm
    obtain ⟨g3, g4⟩ := List.getElem?_eq_some_iff.mp e2.symm
    have := List.pairwise_iff_getElem.mp hd.up i j g1 g3 hij
    rw [g2, g4] at this
    exact this
  room := fun h h1 => by
    rcases Int.lt_trichotomy h hr with c | c | c
    · exact hst.lt h h1 c
    · subst c; have := hst.eq; have := hst.nn; omega
    · rw [hst.gt h c]; exact (roomAt_nn hrs h).1
def sp__law_hours : Sp := spP (fun ds => ∃ (n : Nat) (l rs : List Int), ds = [intsD l, intsD rs] ∧ Ord n l ∧ n ≤ 1000 ∧ (∀ r ∈ rs, 0 ≤ r ∧ r < 4) ∧ rs.length ≤ 20) (fun ds d => ∃ (n : Nat) (l rs hs : List Int), ds = [intsD l, intsD rs] ∧ Ord n l ∧ d = intsD hs ∧ Hrs l rs hs n)
set_option maxHeartbeats 16000000 in
theorem ok__law_hours (T : Txt K mg A) : FnOk P w K mg base CX0 2 A.f__law_hours A.d__law_hours ["_law_pile_here", "_law_order_here", "_law_rooms"] sp__law_hours := by
  refine fnp_ok T.F__law_hours sc__law_hours (fun vs H Q E h => ?_) (fun cdv Ar outer s H vs Q E hr h => ?_)
  · obtain ⟨F, p, vs', ds, rfl, _, _, _, hd, ⟨n, l, rs, rfl, _⟩, _⟩ := h
    have := dpa_len hd
    simpa using this
  · obtain ⟨F, p, vs', ds, rfl, k, hF, hn, hd, ⟨n, l, rs, rfl, ho, hn1, hrs, hlr⟩, q⟩ := h
    obtain ⟨v1, v2, rfl, d1, d2⟩ : ∃ v1 v2, vs' = [v1, v2] ∧ Dq F v1 (intsD l) ∧ Dq F v2 (intsD rs) := by
      cases hd with
      | cons a b => cases b with | cons c d => cases d; exact ⟨_, _, rfl, a, c⟩
    refine ⟨_, (pss_cons (ps_setLc (i := 3) (own := [("_law_task", 6)]) rfl sc__law_hours.nd rfl rfl (sw_true rfl rfl rfl (by decide +kernel)) (piL (K := K) rfl (pv 1)) (blkOk_by (own := [("_law_task", 6)]) (N := N__law_hours) (sc := defScope s__law_hours) (by decide +kernel)) (fun _ _ _ _ _ => (pg_name (i := 6) sc__law_hours.nd rfl (by first | exact Or.inl rfl | exact Or.inr rfl))) (fun _ _ _ _ _ => pts_nil) (fun _ _ _ _ _ => pe_int))
      (pss_cons (ps_set (i := 4) sc__law_hours.nd rfl (by first | exact Or.inl rfl | exact Or.inr rfl) pe_int)
      (pss_cons (ps_set (i := 5) sc__law_hours.nd rfl (by first | exact Or.inl rfl | exact Or.inr rfl) (pe_call (ok__law_room T) (hr.mono (by decide)) (by rfl) T.g__law_room T.F__law_room.kp T.b__law_room .nil pass0 (pa_cons (pv 2) (pa_cons pe_int pa_nil))))
      (pss_cons (ps_for PassesOwn.never rfl (piL (K := K) rfl (pv 1)) (pg_name (i := 6) sc__law_hours.nd rfl (by first | exact Or.inl rfl | exact Or.inr rfl)) (pss_cons (ps_while PassesOwn.never (PW.pt (pw_or (pt_cmpR op_eq (pv 5) pe_int (nomark _)) (pw_or1 (PW.pt (pw_and (pt_cmpR op_eq (pe_call (ok__law_take T) (hr.mono (by decide)) (by rfl) T.g__law_take T.F__law_take.kp T.b__law_take .nil pass0 (pa_cons (pv 0) (pa_cons pe_int pa_nil))) pe_int (nomark _)) (pw_and1 (pt_cmpR op_lt (pv 4) pe_int (nomark _)))))))) (pss_cons (ps_set (i := 4) sc__law_hours.nd rfl (by first | exact Or.inl rfl | exact Or.inr rfl) (pe_op op_add (pv 4) pe_int))
      (pss_one (ps_set (i := 5) sc__law_hours.nd rfl (by first | exact Or.inl rfl | exact Or.inr rfl) (pe_call (ok__law_room T) (hr.mono (by decide)) (by rfl) T.g__law_room T.F__law_room.kp T.b__law_room .nil pass0 (pa_cons (pv 2) (pa_cons (pv 4) pa_nil)))))))
      (pss_cons (ps_asg (pv 4) (pg_sub (pv 3) (pv 6) set_list))
      (pss_one (ps_set (i := 5) sc__law_hours.nd rfl (by first | exact Or.inl rfl | exact Or.inr rfl) (pe_op op_sub (pv 5) pe_int))))))
      (pss_one (ps_ret (pv 3))))))), ?_⟩
    try dsimp only [cxOf, Cx.nox, Cx.wish, Cx.blk]
    have A0 := at_start (K := K) (M := (· = p)) (N := N__law_hours) k (.cons (ent_pil hF (.inl rfl) hn) (.cons (ent_d d1) (.cons (ent_d d2) .nil))) (apart_one rfl) (Nat.le_of_ble_eq_true rfl)
    have ll := ho.len
    refine q_asgN (en_lc0 (ds := l.map .int) (fun _ => .int 0) (wok_name (by decide)) (by walk_at "ev") (by rw [List.length_map]; omega) fun d _ => ⟨_, tg_name, by walk_at "ev"⟩) (fun a s H A => ?_) A0
    refine q_asg (d := .int 1) (by walk_at "ev") (fun s H A => ?_) A
    refine q_asg (d := .int (roomAt rs 1)) (ev_spRoom (rs := rs) (h := 1) (by walk_at "ev") (by walk_at "ev") (by decide)) (fun s H A => ?_) A
    have e0 : (l.map PyData.int).map (fun _ => PyData.int 0) = (List.replicate n (0 : Int)).map .int := by
      rw [List.map_map, List.map_replicate]
      exact List.eq_replicate_iff.mpr ⟨by rw [List.length_map, ll], fun b hb => by obtain ⟨_, _, rfl⟩ := List.mem_map.mp hb; rfl⟩
    have st0 : HSt rs (List.replicate n (0 : Int)) 1 (roomAt rs 1) := ⟨fun h h1 h2 => by omega, by
      rw [List.count_replicate]
      simp, fun h hh => by
      rw [List.count_replicate]
      have : ¬ (0 : Int) = h := by omega
      simp [this], (roomAt_nn hrs 1).1, by decide⟩
    have dr0 : HDr l (List.replicate n (0 : Int)) [] n 0 1 := ⟨by simp, rfl, fun k t hk => by omega, fun k t _ ht => by
      have := (ho.mem).mp (List.mem_of_getElem? ht)
      rw [List.getElem?_replicate, if_pos (by omega)], List.Pairwise.nil, fun v hv => nomatch hv⟩
    refine q_for (ds := l.map .int) (fun i e' => ∃ hs vs hr lf x6, e' = [.pil p, .dat (intsD l), .dat (intsD rs), .own a (hs.map .int), .dat (.int hr), .dat (.int lf), x6] ∧ HDr l hs vs n i hr ∧ HSt rs hs hr lf ∧ hr ≤ 20 + (i : Int)) (by walk_at "ev")
      ⟨List.replicate n 0, [], 1, roomAt rs 1, .un, by rw [← e0]; rfl, dr0, st0, by omega⟩ ?_ ?_ A
    · rintro B' i d e' hd ⟨hs, vs, hr, lf, x6, rfl, hdr, hst, hb⟩
      rw [List.getElem?_map] at hd
      obtain ⟨tk, htk, rfl⟩ := Option.map_eq_some_iff.mp hd
      have bt := (ho.mem).mp (List.mem_of_getElem? htk)
      refine ⟨_, tg_name, fun s H A => ?_⟩
      refine q_whileP (fun m e' => ∃ hr2 lf2, e' = [.pil p, .dat (intsD l), .dat (intsD rs), .own a (hs.map .int), .dat (.int hr2), .dat (.int lf2), .dat (.int tk)] ∧ hr ≤ hr2 ∧ HSt rs hs hr2 lf2 ∧ (hr2 ≤ 20 + (i : Int) ∨ (hr2 ≤ 21 + (i : Int) ∧ 21 ≤ hr2 ∧ lf2 = 2)) ∧ m = 2 * (20 - hr2).toNat + (if lf2 = 0 then 1 else 0))
        _ ⟨hr, lf, rfl, Int.le_refl _, hst, .inl hb, rfl⟩ ?_ A
      · rintro m e' ⟨hr2, lf2, rfl, hle, hst2, hb2, hm⟩
        refine ⟨fun b => (b = true → lf2 = 0 ∨ hr2 < 20) ∧ (b = false → lf2 ≠ 0), ?_, fun hP s H A => ?_, fun hP s H A => ?_⟩
        · refine (ept_or (EvT.tp (et_test (EvD.b (ev_eqI (i := lf2) (j := 0) (by walk_at "eb") (by walk_at "eb"))))) (ept_and (ept_test (P := fun d => ∃ b : Bool, d = .bool b) ?_ (fun d h => h)) (EvT.tp (et_test (EvD.b (ev_lt (i := hr2) (j := 20) (by walk_at "eb") (by walk_at "eb"))))))).imp ?_
          · refine ep_op (ep_take (k := 6) rfl (by walk_at "ev") (by decide) (by decide)) (EvD.tp (d := .int 0) (by walk_at "ev")) ?_
            rintro _ _ ⟨r, rfl, _⟩ rfl
            exact ⟨_, rd_eqI, _, rfl⟩
          · rintro b (⟨rfl, h1⟩ | ⟨h1, h2⟩)
            · exact ⟨fun _ => .inl (of_decide_eq_true h1.symm), fun h => by cases h⟩
            · refine ⟨fun hb => ?_, fun _ => of_decide_eq_false h1.symm⟩
              rcases h2 with ⟨rfl, _⟩ | ⟨_, h3⟩
              · cases hb
              · rw [hb] at h3
                exact .inr (of_decide_eq_true h3.symm)
        · have hc := hP.1 rfl
          refine q_asg (d := .int (hr2 + 1)) (by walk_at "ev") (fun s H A => ?_) A
          have r1 := hst2.h1
          refine a_asg (d := .int (roomAt rs (hr2 + 1))) (ev_spRoom (rs := rs) (h := hr2 + 1) (by walk_at "ev") (by walk_at "ev") (by omega)) (fun s H A => ?_) A
          have nx := hst2.next hrs
          have big : 20 ≤ hr2 → roomAt rs (hr2 + 1) = 2 := fun h => by unfold roomAt; rw [if_neg (by omega)]
          refine ⟨_, ?_, _, ⟨hr2 + 1, roomAt rs (hr2 + 1), rfl, by omega, nx, ?_, rfl⟩, A⟩
          · rw [hm]
            by_cases c20 : 20 ≤ hr2
            · have z : lf2 = 0 := by rcases hc with z | z <;> omega
              rw [big c20, if_pos z, if_neg (by decide)]
              omega
            · by_cases c0 : roomAt rs (hr2 + 1) = 0
              · rw [if_pos c0]; omega
              · rw [if_neg c0]; omega
          · by_cases c20 : 20 ≤ hr2
            · have z : lf2 = 0 := by rcases hc with z | z <;> omega
              right
              rw [big c20]
              rcases hb2 with w | w
              · omega
              · omega
            · left; omega
        · have hl : 1 ≤ lf2 := by have := hst2.nn; have := hP.2 rfl; omega
          have hz : hs[tk.toNat]? = some 0 := hdr.zero i tk (Nat.le_refl _) htk
          have r1 := hst2.h1
          have hj : tk = ((tk.toNat : Nat) : Int) := by omega
          refine q_setO (i := 3) (j := tk.toNat) (ds := hs.map .int) (d := .int hr2) rfl (by walk_at "ev") (by rw [← hj]; walk_at "ev") (by rw [List.length_map, hdr.len]; omega) (fun s H A => ?_) A
          refine a_asg (d := .int (lf2 - 1)) (by walk_at "ev") (fun s H A => ?_) A
          refine ⟨_, ⟨hs.set tk.toNat hr2, vs ++ [hr2], hr2, lf2 - 1, .dat (.int tk), ?_, (hdr.later hle).put ho htk r1, hst2.put hz hl, ?_⟩, A⟩
          · rw [List.map_set]
            rfl
          · rcases hb2 with w | w <;> omega
    · rintro e' ⟨hs, vs, hr, lf, x6, rfl, hdr, hst, hb⟩ s H A
      rw [List.length_map, ll] at hdr hb
      refine a_retF (ds := hs.map .int) (i := 3) rfl (fun F H s E => nm_pil E (i := 3) (j := 0) rfl rfl (by decide)) (fun v s F2 H2 nx E2 dq => ?_) A
      exact q v _ F2 H2 ⟨n, l, rs, hs, rfl, ho, rfl, hrs_of ho hdr hst hrs hb⟩ nx (env_pil E2 (i := 0) rfl) dq

/-- the pair of the places k' < j' of the order, ahead of (j, k) -/
def Prv (l : List Int) (j k : Nat) (p : Int × Int) : Prop := ∃ k' j' : Nat, k' < j' ∧ (j' < j ∨ (j' = j ∧ k' < k)) ∧ l[k']? = some p.1 ∧ l[j']? = some p.2
structure Nds (l hs : List Int) (lo : Bool) (j k : Nat) (ns : List (Int × Int)) : Prop where
  few : ns.length ≤ 30
  nd : ns.Nodup
  pr : ∀ p ∈ ns, Prv l j k p
  up : lo = false → ∀ p ∈ ns, ∀ x y, hs[p.1.toNat]? = some x → hs[p.2.toNat]? = some y → x < y
theorem Nds.mono {l hs : List Int} {lo : Bool} {j k j2 k2 : Nat} {ns : List (Int × Int)} (h : Nds l hs lo j k ns) (hm : ∀ k' j' : Nat, k' < j' → (j' < j ∨ (j' = j ∧ k' < k)) → (j' < j2 ∨ (j' = j2 ∧ k' < k2))) : Nds l hs lo j2 k2 ns :=
  ⟨h.few, h.nd, fun p hp => by
    obtain ⟨k', j', h1, h2, h3, h4⟩ := h.pr p hp
    exact ⟨k', j', h1, hm k' j' h1 h2, h3, h4⟩, h.up⟩
theorem Nds.put {n : Nat} {l hs : List Int} {lo : Bool} {j k : Nat} {ns : List (Int × Int)} {a b : Int} {r : Nat} (h : Nds l hs lo j k ns) (ho : Ord n l) (hk : k < j) (ha : l[k]? = some a) (hb : l[j]? = some b) (hl : ns.length < 30) (hu : lo = false → ∀ x y, hs[a.toNat]? = some x → hs[b.toNat]? = some y → x < y) :
    Nds l hs lo j (k + 1) (ns.take r ++ [(a, b)] ++ ns.drop r) := by
  have pm := ins_perm ns r (a, b)
  have hm : ∀ p, p ∈ ns.take r ++ [(a, b)] ++ ns.drop r ↔ p ∈ ns ∨ p = (a, b) := fun p => by rw [pm.mem_iff, List.mem_append, List.mem_singleton]
  refine ⟨by rw [pm.length_eq, List.length_append]; exact hl, pm.nodup_iff.mpr ?_, fun p hp => ?_, fun hlo p hp x y hx hy => ?_⟩
  · rw [List.nodup_append]
    refine ⟨h.nd, by simp, fun p hp q hq z => ?_⟩
    rw [List.mem_singleton.mp hq] at z
    subst z
    obtain ⟨k', j', h1, h2, h3, h4⟩ := h.pr _ hp
    have e1 := nd_ix ho.nd h3 ha
    have e2 := nd_ix ho.nd h4 hb
    omega
  · rcases (hm p).mp hp with z | z
    · obtain ⟨k', j', h1, h2, h3, h4⟩ := h.pr p z
      exact ⟨k', j', h1, by omega, h3, h4⟩
    · subst z; exact ⟨k, j, hk, by omega, ha, hb⟩
  · rcases (hm p).mp hp with z | z
    · exact h.up hlo p z x y hx hy
    · subst z; exact hu hlo x y hx hy
/-- needs along an order make no ring -/
theorem ring_along {n : Nat} {l : List Int} {ns : List (Int × Int)} {j k : Nat} (ho : Ord n l) (h : ∀ p ∈ ns, Prv l j k p) : hasRing ns = false := by
  have fx : ∀ (m : Nat) (ms : List (Int × Int)), ms.length ≤ m → ringStep (ringFix ms) = ringFix ms ∧ ∀ p ∈ ringFix ms, p ∈ ms := fun m => by
    induction m with
    | zero =>
      intro ms hm
      have : ms = [] := List.length_eq_zero_iff.mp (by omega)
      subst this
      rw [ringFix]
      exact ⟨rfl, fun p hp => hp⟩
    | succ m ih =>
      intro ms hm
      rw [ringFix]
      split
      · rename_i c
        obtain ⟨h1, h2⟩ := ih (ringStep ms) (by omega)
        exact ⟨h1, fun p hp => (List.mem_filter.mp (h2 p hp)).1⟩
      · rename_i c
        have := ringStep_le ms
        exact ⟨ringStep_self (by omega), fun p hp => hp⟩
  obtain ⟨f1, f2⟩ := fx ns.length ns (Nat.le_refl _)
  have none : ∀ (m : Nat) (p : Int × Int), p ∈ ringFix ns → ∀ i : Nat, i ≤ m → l[i]? = some p.1 → False := fun m => by
    induction m with
    | zero =>
      intro p hp i hi hpi
      rw [← f1] at hp
      obtain ⟨q, hq, he⟩ := List.any_eq_true.mp (List.mem_filter.mp hp).2
      have he := of_decide_eq_true he
      obtain ⟨k', j', h1, _, h3, h4⟩ := h q (f2 q hq)
      rw [he] at h4
      have := nd_ix ho.nd h4 hpi
      omega
    | succ m ih =>
      intro p hp i hi hpi
      rw [← f1] at hp
      obtain ⟨q, hq, he⟩ := List.any_eq_true.mp (List.mem_filter.mp hp).2
      have he := of_decide_eq_true he
      obtain ⟨k', j', h1, _, h3, h4⟩ := h q (f2 q hq)
      rw [he] at h4
      have := nd_ix ho.nd h4 hpi
      exact ih q hq k' (by omega) h3
  unfold hasRing
  refine decide_eq_false fun hl => ?_
  obtain ⟨p, hp⟩ := List.exists_mem_of_length_pos hl
  obtain ⟨k', j', _, _, h3, _⟩ := h p (f2 p hp)
  exact none k' p hp k' (Nat.le_refl _) h3
def sp__law_needs : Sp := spP (fun ds => ∃ (n : Nat) (l hs : List Int), ds = [intsD l, intsD hs] ∧ Ord n l ∧ n ≤ 1000 ∧ hs.length = n) (fun ds d => ∃ (n : Nat) (l hs : List Int) (ns : List (Int × Int)) (lo : Bool), ds = [intsD l, intsD hs] ∧ Ord n l ∧ d = needsD ns ∧ Nds l hs lo n 0 ns)
set_option maxHeartbeats 16000000 in
theorem ok__law_needs (T : Txt K mg A) : FnOk P w K mg base CX0 2 A.f__law_needs A.d__law_needs ["_law_pile_here", "_law_order_here", "_law_hours_here"] sp__law_needs := by
  refine fnp_ok T.F__law_needs sc__law_needs (fun vs H Q E h => ?_) (fun cdv Ar outer s H vs Q E hr h => ?_)
  · obtain ⟨F, p, vs', ds, rfl, _, _, _, hd, ⟨n, l, rs, rfl, _⟩, _⟩ := h
    have := dpa_len hd
    simpa using this
  · obtain ⟨F, p, vs', ds, rfl, k, hF, hn, hd, ⟨n, l, hs, rfl, ho, hn1, hlh⟩, q⟩ := h
    obtain ⟨v1, v2, rfl, d1, d2⟩ : ∃ v1 v2, vs' = [v1, v2] ∧ Dq F v1 (intsD l) ∧ Dq F v2 (intsD hs) := by
      cases hd with
      | cons a b => cases b with | cons c d => cases d; exact ⟨_, _, rfl, a, c⟩
    refine ⟨_, (pss_cons (ps_set (i := 3) sc__law_needs.nd rfl (by first | exact Or.inl rfl | exact Or.inr rfl) (pe_cmpR op_eq (pe_call (ok__law_take T) (hr.mono (by decide)) (by rfl) T.g__law_take T.F__law_take.kp T.b__law_take .nil pass0 (pa_cons (pv 0) (pa_cons pe_int pa_nil))) pe_int (nomark _)))
      (pss_cons (ps_set (i := 4) sc__law_needs.nd rfl (by first | exact Or.inl rfl | exact Or.inr rfl) (pe_op op_add pe_int (pe_call (ok__law_take T) (hr.mono (by decide)) (by rfl) T.g__law_take T.F__law_take.kp T.b__law_take .nil pass0 (pa_cons (pv 0) (pa_cons pe_int pa_nil)))))
      (pss_cons (ps_set (i := 5) sc__law_needs.nd rfl (by first | exact Or.inl rfl | exact Or.inr rfl) (pe_lst pa_nil))
      (pss_cons (ps_for PassesOwn.never rfl (pi_range1 (by rfl) T.m_range (pa_cons (pe_callB (cLen (K := K) rfl) (by rfl) T.m_len (by decide +kernel) (pa_cons (pv 1) pa_nil)) pa_nil)) (pg_name (i := 6) sc__law_needs.nd rfl (by first | exact Or.inl rfl | exact Or.inr rfl)) (pss_one (ps_for PassesOwn.never rfl (pi_range1 (by rfl) T.m_range (pa_cons (pv 6) pa_nil)) (pg_name (i := 7) sc__law_needs.nd rfl (by first | exact Or.inl rfl | exact Or.inr rfl)) (pss_cons (ps_par (by rfl) sc__law_needs.nd (i := 8) (j := 9) rfl rfl (by decide) rfl rfl (pa_cons (pe_ix (ixL (K := K) rfl) (pv 1) (pv 7) (fun _ _ => rfl)) (pa_cons (pe_ix (ixL (K := K) rfl) (pv 1) (pv 6) (fun _ _ => rfl)) pa_nil)) (by rfl))
      (pss_one (ps_if (PW.pt (pw_and (pt_cmpR op_lt (pe_callB (cLen (K := K) rfl) (by rfl) T.m_len (by decide +kernel) (pa_cons (pv 5) pa_nil)) pe_int (nomark _)) (pw_and (PW.pt (pw_or (pt_val (pv 3)) (pw_or1 (pt_cmpR op_lt (pe_ix (ixL (K := K) rfl) (pv 2) (pv 8) (fun _ _ => rfl)) (pe_ix (ixL (K := K) rfl) (pv 2) (pv 9) (fun _ _ => rfl)) (nomark _))))) (pw_and1 (pt_cmpR op_eq (pe_call (ok__law_take T) (hr.mono (by decide)) (by rfl) T.g__law_take T.F__law_take.kp T.b__law_take .nil pass0 (pa_cons (pv 0) (pa_cons (pv 4) pa_nil))) pe_int (nomark _)))))) (pss_one (ps_expr (pe_bmK (K := K) rfl PySem.F.plainAttrs_list PySem.F.slot_list_insert PySem.F.type_list_insert mIns (pv 5) (pa_cons (pe_call (ok__law_take T) (hr.mono (by decide)) (by rfl) T.g__law_take T.F__law_take.kp T.b__law_take .nil pass0 (pa_cons (pv 0) (pa_cons (pe_op op_add (pe_callB (cLen (K := K) rfl) (by rfl) T.m_len (by decide +kernel) (pa_cons (pv 5) pa_nil)) pe_int) pa_nil))) (pa_cons (pe_tup (pa_cons (pv 8) (pa_cons (pv 9) pa_nil))) pa_nil))))) pss_nil))))))
      (pss_one (ps_ret (pv 5))))))), ?_⟩
    try dsimp only [cxOf, Cx.nox, Cx.wish, Cx.blk]
    have A0 := at_start (K := K) (M := (· = p)) (N := N__law_needs) k (.cons (ent_pil hF (.inl rfl) hn) (.cons (ent_d d1) (.cons (ent_d d2) .nil))) (apart_one rfl) (Nat.le_of_ble_eq_true rfl)
    have ll := ho.len
    refine q_asgP (P := fun d => ∃ b : Bool, d = .bool b) ?_ (fun d hd s H A => ?_) A0
    · refine ep_op (ep_take (k := 4) rfl (by walk_at "ev") (by decide) (by decide)) (EvD.tp (d := .int 0) (by walk_at "ev")) ?_
      rintro _ _ ⟨r, rfl, _⟩ rfl
      exact ⟨_, rd_eqI, _, rfl⟩
    obtain ⟨lo, rfl⟩ := hd
    refine q_asgP (P := fun d => ∃ r, d = .int r ∧ 2 ≤ r ∧ r < 7) ?_ (fun d hd s H A => ?_) A
    · refine ep_op (EvD.tp (d := .int 2) (by walk_at "ev")) (ep_take (k := 5) rfl (by walk_at "ev") (by decide) (by decide)) ?_
      rintro _ _ rfl ⟨r, rfl, r0, r1⟩
      exact ⟨_, rd_add, _, rfl, by omega, by omega⟩
    obtain ⟨dn, rfl, dn0, dn1⟩ := hd
    refine q_asgN (ds := []) (en_lst ea_nil (Nat.le_of_ble_eq_true rfl)) (fun a s H A => ?_) A
    refine q_forR1 (m := (n : Int)) (fun j e' => ∃ ns x6 x7 x8 x9, e' = [.pil p, .dat (intsD l), .dat (intsD hs), .dat (.bool lo), .dat (.int dn), .own a (ns.map pairD), x6, x7, x8, x9] ∧ Nds l hs lo j 0 ns) (ea_cons (EvD.is (ev_lenL (ds := l.map .int) (by walk_at "eb")) (by rw [List.length_map, ll])) ea_nil) ⟨by omega, by omega⟩
      ⟨[], .un, .un, .un, .un, rfl, by decide, List.nodup_nil, (fun _ z => nomatch z), (fun _ _ z => nomatch z)⟩ (fun i e' h => by obtain ⟨_, _, _, _, _, rfl, _⟩ := h; exact Nat.le_of_ble_eq_true rfl) ?_ ?_ A
    · rintro j e' hj ⟨ns, x6, x7, x8, x9, rfl, hN⟩ s H A
      obtain ⟨b, hb⟩ : ∃ b, l[j]? = some b := ⟨l[j]'(by omega), List.getElem?_eq_getElem (by omega)⟩
      refine a_forR1 (m := (j : Int)) (fun k e' => ∃ ns x7 x8 x9, e' = [.pil p, .dat (intsD l), .dat (intsD hs), .dat (.bool lo), .dat (.int dn), .own a (ns.map pairD), .dat (.int (j : Int)), x7, x8, x9] ∧ Nds l hs lo j k ns) (ea_cons (by walk_at "ev") ea_nil) (by omega)
        ⟨ns, x7, x8, x9, rfl, hN⟩ (fun i e' h => by obtain ⟨_, _, _, _, rfl, _⟩ := h; exact Nat.le_of_ble_eq_true rfl) ?_ ?_ (by omega) A
      · rintro k e' hk ⟨ns, x7, x8, x9, rfl, hN⟩ s H A
        obtain ⟨av, ha⟩ : ∃ b, l[k]? = some b := ⟨l[k]'(by omega), List.getElem?_eq_getElem (by omega)⟩
        have ba := (ho.mem).mp (List.mem_of_getElem? ha)
        have bb := (ho.mem).mp (List.mem_of_getElem? hb)
        obtain ⟨hx, ehx⟩ : ∃ x, hs[av.toNat]? = some x := ⟨hs[av.toNat]'(by omega), List.getElem?_eq_getElem (by omega)⟩
        obtain ⟨hy, ehy⟩ : ∃ x, hs[b.toNat]? = some x := ⟨hs[b.toNat]'(by omega), List.getElem?_eq_getElem (by omega)⟩
        refine q_par (d1 := .int av) (d2 := .int b) (ev_ixL (ds := l.map .int) (i := (k : Int)) (by walk_at "ev") (by walk_at "ev") (at_n (j := k) (by rw [List.getElem?_map, ha]; rfl) rfl)) (ev_ixL (ds := l.map .int) (i := (j : Int)) (by walk_at "ev") (by walk_at "ev") (at_n (j := j) (by rw [List.getElem?_map, hb]; rfl) rfl)) (fun s H A => ?_) A
        refine a_whenP (P := fun b => b = true → ns.length < 30 ∧ (lo = true ∨ hx < hy)) ?_ (fun hP s H A => ?_) (fun _ s H A => ?_) A
        · refine (ept_and (EvT.tp (et_test (EvD.b (ev_lt (i := (ns.length : Int)) (j := 30) (EvD.b (EvD.is (ev_lenL (ds := ns.map pairD) (by walk_at "eb")) (by rw [List.length_map]))) (by walk_at "eb"))))) (ept_and (EvT.tp (et_or2 (a := lo) (b := decide (hx < hy)) (c := lo || decide (hx < hy)) (et_B (by walk_at "eb")) (fun _ => et_test (EvD.b (ev_lt (i := hx) (j := hy) (EvD.b (ev_ixL (ds := hs.map .int) (i := av) (by walk_at "ev") (by walk_at "ev") (at_n (j := av.toNat) (by rw [List.getElem?_map, ehx]; rfl) (by omega)))) (EvD.b (ev_ixL (ds := hs.map .int) (i := b) (by walk_at "ev") (by walk_at "ev") (at_n (j := b.toNat) (by rw [List.getElem?_map, ehy]; rfl) (by omega))))))) rfl)) (ept_test (P := fun d => ∃ b : Bool, d = .bool b) ?_ (fun d h => h)))).imp ?_
          · refine ep_op (ep_take (k := dn) rfl (by walk_at "ev") (by omega) (by omega)) (EvD.tp (d := .int 0) (by walk_at "ev")) ?_
            rintro _ _ ⟨r, rfl, _⟩ rfl
            exact ⟨_, rd_eqI, _, rfl⟩
          · rintro bb (⟨rfl, _⟩ | ⟨h1, h2⟩) hbt
            · cases hbt
            · have h1' := of_decide_eq_true h1.symm
              rcases h2 with ⟨rfl, _⟩ | ⟨h3, _⟩
              · cases hbt
              · have h3' : lo = true ∨ decide (hx < hy) = true := by simpa using h3.symm
                exact ⟨by omega, h3'.imp id fun z => of_decide_eq_true z⟩
        · obtain ⟨hl30, hor⟩ := hP rfl
          refine a_insP (ds := ns.map pairD) (i := 5) rfl (epa_cons (ep_take (k := (ns.length : Int) + 1) rfl (ev_add (EvD.b (EvD.is (ev_lenL (ds := ns.map pairD) (by walk_at "eb")) (by rw [List.length_map]))) (by walk_at "eb")) (by omega) (by omega)) (epa_cons (EvD.tp (ev_tup (ea_cons (x := .int av) (by walk_at "ev") (ea_cons (x := .int b) (by walk_at "ev") ea_nil)) (Nat.le_of_ble_eq_true rfl))) epa_nil)) (by rw [List.length_map]; omega) ?_ ?_ A
          · rintro _ ⟨_, _, rfl, ⟨r, rfl, r0, r1⟩, _, _, rfl, rfl, rfl⟩
            exact ⟨r.toNat, _, by rw [Int.toNat_of_nonneg r0], by omega⟩
          · rintro r d ⟨_, _, e1, ⟨r', rfl, r0, r1⟩, _, _, rfl, rfl, rfl⟩ s H A
            cases e1
            refine ⟨_, ⟨ns.take r ++ [(av, b)] ++ ns.drop r, .dat (.int (k : Int)), .dat (.int av), .dat (.int b), ?_, hN.put ho (by omega) ha hb hl30 fun hlo x y h1 h2 => ?_⟩, A⟩
            · rw [List.map_append, List.map_append, List.map_take, List.map_drop]
              rfl
            · rw [ehx] at h1
              rw [ehy] at h2
              cases h1
              cases h2
              rcases hor with z | z
              · rw [hlo] at z; cases z
              · exact z
        · exact ⟨_, ⟨ns, .dat (.int (k : Int)), .dat (.int av), .dat (.int b), rfl, hN.mono fun k' j' _ _ => by omega⟩, A⟩
      · rintro e' ⟨ns, x7, x8, x9, rfl, hN⟩ s H A
        rw [Int.toNat_natCast] at hN
        exact ⟨_, ⟨ns, _, x7, x8, x9, rfl, hN.mono fun k' j' _ _ => by omega⟩, A⟩
    · rintro e' ⟨ns, x6, x7, x8, x9, rfl, hN⟩ s H A
      rw [Int.toNat_natCast] at hN
      refine a_retF (ds := ns.map pairD) (i := 5) rfl (fun F H s E => nm_pil E (i := 5) (j := 0) rfl rfl (by decide)) (fun v s F2 H2 nx E2 dq => ?_) A
      exact q v _ F2 H2 ⟨n, l, hs, ns, lo, rfl, ho, rfl, hN⟩ nx (env_pil E2 (i := 0) rfl) dq

/-- what is true of a drawn job -/
structure GJ (most : Nat) (wide : Int) (j : Jb) : Prop where
  ok : j.Ok
  n : j.fs.length ≤ most
  n3 : 3 ∈ j.rs → j.fs.length ≤ 9
  rl : j.rs.length ≤ 8
  rw_ : ∀ r ∈ j.rs, r ≤ 2 + wide
  fr : ∀ f ∈ j.fs, f ≤ 40
  du : ∀ u ∈ j.us, ∀ i, u = some i → i ≤ 50
  nl : j.ns.length ≤ 30
theorem frees_of {hs : List Int} {m : Int} (hb : ∀ h ∈ hs, 1 ≤ h ∧ h ≤ m) : ∀ {ds : List PyData}, ds.length = (hs.map PyData.int).length → (∀ (i : Nat) x d, (hs.map PyData.int)[i]? = some x → ds[i]? = some d → ∃ h f, x = .int h ∧ d = .int f ∧ 1 ≤ f ∧ f ≤ max 1 h) → ∃ fs : List Int, ds = fs.map .int ∧ ∀ f ∈ fs, 1 ≤ f ∧ f ≤ max 1 m := fun {ds} hl h => by
  refine ints_of fun d hd => ?_
  obtain ⟨i, hi⟩ := List.getElem?_of_mem hd
  have il : i < (hs.map PyData.int).length := by rw [← hl]; exact (List.getElem?_eq_some_iff.mp hi).1
  obtain ⟨hh, f, e1, rfl, f1, f2⟩ := h i _ d (List.getElem?_eq_getElem il) hi
  have : hh ∈ hs := by
    have := List.getElem_mem il
    rw [e1] at this
    obtain ⟨z, hz, e⟩ := List.mem_map.mp this
    cases e
    exact hz
  have := hb hh this
  exact ⟨f, rfl, f1, by omega⟩
def sp__law_job : Sp := spP (fun ds => ∃ (m : Nat) (w : Int), ds = [.int (m : Int), .int w] ∧ m ≤ 12 ∧ 0 ≤ w ∧ w ≤ 1) (fun ds d => ∃ (m : Nat) (w : Int) (j : Jb), ds = [.int (m : Int), .int w] ∧ d = j.dat ∧ GJ m w j)
set_option maxHeartbeats 32000000 in
theorem ok__law_job (T : Txt K mg A) : FnOk P w K mg base CX0 3 A.f__law_job A.d__law_job ["_law_pile_here", "_law_most", "_law_wide"] sp__law_job := by
  refine fnp_ok T.F__law_job sc__law_job (fun vs H Q E h => ?_) (fun cdv Ar outer s H vs Q E hr h => ?_)
  · obtain ⟨F, p, vs', ds, rfl, _, _, _, hd, ⟨n, w, rfl, _⟩, _⟩ := h
    have := dpa_len hd
    simpa using this
  · obtain ⟨F, p, vs', ds, rfl, k, hF, hn, hd, ⟨m, w, rfl, hm, w0, w1⟩, q⟩ := h
    obtain rfl : vs' = [.int (m : Int), .int w] := by
      cases hd with
      | cons a b => cases a; cases b with | cons c d => cases c; cases d; rfl
    refine ⟨_, (pss_cons (ps_setLc (i := 3) (own := [("_law_k", 12)]) rfl sc__law_job.nd rfl rfl (sw_true rfl rfl rfl (by decide +kernel)) (pi_range1 (by rfl) T.m_range (pa_cons (pe_call (ok__law_take T) (hr.mono (by decide)) (by rfl) T.g__law_take T.F__law_take.kp T.b__law_take .nil pass0 (pa_cons (pv 0) (pa_cons pe_int pa_nil))) pa_nil)) (blkOk_by (own := [("_law_k", 12)]) (N := N__law_job) (sc := defScope s__law_job) (by decide +kernel)) (fun _ _ _ _ _ => (pg_name (i := 12) sc__law_job.nd rfl (by first | exact Or.inl rfl | exact Or.inr rfl))) (fun _ _ _ _ _ => pts_nil) (fun _ _ _ _ _ => (pe_ix (ixL (K := K) rfl) (pe_lst (pa_cons pe_int (pa_cons pe_int (pa_cons pe_int (pa_cons pe_int (pa_cons pe_int (pa_cons pe_int (pa_cons (pe_op op_add pe_int (pv 2)) pa_nil)))))))) (pe_call (ok__law_take T) (hr.mono (by decide)) (by rfl) T.g__law_take T.F__law_take.kp T.b__law_take .nil pass0 (pa_cons (pv 0) (pa_cons pe_int pa_nil))) (fun _ _ => rfl))))
      (pss_cons (ps_if (pt_cmpR (oIn (K := K) rfl) pe_int (pv 3) (by rfl)) (pss_one (ps_set (i := 1) sc__law_job.nd rfl (by first | exact Or.inl rfl | exact Or.inr rfl) (pe_callB (call_mn2 rfl) (by rfl) T.m_min (by decide +kernel) (pa_cons (pv 1) (pa_cons pe_int pa_nil))))) pss_nil)
      (pss_cons (ps_set (i := 4) sc__law_job.nd rfl (by first | exact Or.inl rfl | exact Or.inr rfl) (pe_call (ok__law_order T) (hr.mono (by decide)) (by rfl) T.g__law_order T.F__law_order.kp T.b__law_order .nil pass0 (pa_cons (pv 0) (pa_cons (pe_call (ok__law_take T) (hr.mono (by decide)) (by rfl) T.g__law_take T.F__law_take.kp T.b__law_take .nil pass0 (pa_cons (pv 0) (pa_cons (pe_op op_add (pv 1) pe_int) pa_nil))) pa_nil))))
      (pss_cons (ps_set (i := 5) sc__law_job.nd rfl (by first | exact Or.inl rfl | exact Or.inr rfl) (pe_call (ok__law_hours T) (hr.mono (by decide)) (by rfl) T.g__law_hours T.F__law_hours.kp T.b__law_hours .nil pass0 (pa_cons (pv 0) (pa_cons (pv 4) (pa_cons (pv 3) pa_nil)))))
      (pss_cons (ps_set (i := 6) sc__law_job.nd rfl (by first | exact Or.inl rfl | exact Or.inr rfl) (pe_call (ok__law_needs T) (hr.mono (by decide)) (by rfl) T.g__law_needs T.F__law_needs.kp T.b__law_needs .nil pass0 (pa_cons (pv 0) (pa_cons (pv 4) (pa_cons (pv 5) pa_nil)))))
      (pss_cons (ps_setLc (i := 7) (own := [("_law_hour", 10)]) rfl sc__law_job.nd rfl rfl (sw_true rfl rfl rfl (by decide +kernel)) (piL (K := K) rfl (pv 5)) (blkOk_by (own := [("_law_hour", 10)]) (N := N__law_job) (sc := defScope s__law_job) (by decide +kernel)) (fun _ _ _ _ _ => (pg_name (i := 10) sc__law_job.nd rfl (by first | exact Or.inl rfl | exact Or.inr rfl))) (fun _ _ _ _ _ => pts_nil) (fun _ _ _ _ _ => (pe_callB (call_mx2 rfl) (by rfl) T.m_max (by decide +kernel) (pa_cons pe_int (pa_cons (pe_op op_sub (pv 10) (pe_ix (ixL (K := K) rfl) (pe_lst (pa_cons pe_int (pa_cons pe_int (pa_cons pe_int (pa_cons pe_int (pa_cons pe_int pa_nil)))))) (pe_call (ok__law_take T) (hr.mono (by decide)) (by rfl) T.g__law_take T.F__law_take.kp T.b__law_take .nil pass0 (pa_cons (pv 0) (pa_cons pe_int pa_nil))) (fun _ _ => rfl))) pa_nil)))))
      (pss_cons (ps_set (i := 8) sc__law_job.nd rfl (by first | exact Or.inl rfl | exact Or.inr rfl) (pe_ix (ixL (K := K) rfl) (pe_lst (pa_cons (pe_lst (pa_cons pe_int (pa_cons pe_int (pa_cons pe_int (pa_cons pe_int pa_nil))))) (pa_cons (pe_lst (pa_cons pe_int (pa_cons pe_int (pa_cons pe_int (pa_cons pe_int pa_nil))))) (pa_cons (pe_lst (pa_cons pe_int (pa_cons pe_int (pa_cons pe_int (pa_cons pe_int pa_nil))))) (pa_cons (pe_lst (pa_cons (pe_un un_neg pe_int) (pa_cons pe_int (pa_cons pe_int (pa_cons pe_int pa_nil))))) pa_nil))))) (pe_call (ok__law_take T) (hr.mono (by decide)) (by rfl) T.g__law_take T.F__law_take.kp T.b__law_take .nil pass0 (pa_cons (pv 0) (pa_cons pe_int pa_nil))) (fun _ _ => rfl)))
      (pss_cons (ps_set (i := 9) sc__law_job.nd rfl (by first | exact Or.inl rfl | exact Or.inr rfl) (pe_lst pa_nil))
      (pss_cons (ps_for PassesOwn.never rfl (piL (K := K) rfl (pv 5)) (pg_name (i := 10) sc__law_job.nd rfl (by first | exact Or.inl rfl | exact Or.inr rfl)) (pss_cons (ps_set (i := 11) sc__law_job.nd rfl (by first | exact Or.inl rfl | exact Or.inr rfl) (pe_callB (call_mx2 rfl) (by rfl) T.m_max (by decide +kernel) (pa_cons pe_int (pa_cons (pe_op op_add (pv 10) (pe_ix (ixL (K := K) rfl) (pv 8) (pe_call (ok__law_take T) (hr.mono (by decide)) (by rfl) T.g__law_take T.F__law_take.kp T.b__law_take .nil pass0 (pa_cons (pv 0) (pa_cons pe_int pa_nil))) (fun _ _ => rfl))) pa_nil))))
      (pss_one (ps_expr (pe_bmK (K := K) rfl PySem.F.plainAttrs_list PySem.F.slot_list_append PySem.F.type_list_append mt_append (pv 9) (pa_cons (pe_ix (ixL (K := K) rfl) (pe_lst (pa_cons (pv 11) (pa_cons (pv 11) (pa_cons (pv 11) (pa_cons pe_non pa_nil))))) (pe_call (ok__law_take T) (hr.mono (by decide)) (by rfl) T.g__law_take T.F__law_take.kp T.b__law_take .nil pass0 (pa_cons (pv 0) (pa_cons pe_int pa_nil))) (fun _ _ => rfl)) pa_nil))))))
      (pss_one (ps_ret (pe_tup (pa_cons (pv 7) (pa_cons (pv 9) (pa_cons (pv 6) (pa_cons (pv 3) pa_nil)))))))))))))))), ?_⟩
    try dsimp only [cxOf, Cx.nox, Cx.wish, Cx.blk]
    have A0 : At ⟨K, (· = p), F, H⟩ F [.pil p, .dat (.int (m : Int)), .dat (.int w), .un, .un, .un, .un, .un, .un, .un, .un, .un, .un] (L2.start N__law_job [.ref p, .int (m : Int), .int w]) H := at_start (K := K) (M := (· = p)) (N := N__law_job) k (.cons (ent_pil hF (.inl rfl) hn) (.cons (ent_d (.int (m : Int))) (.cons (ent_d (.int w)) .nil))) (apart_one rfl) (Nat.le_of_ble_eq_true rfl)
    -- the rooms
    refine q_asgP (EvPN.dat (epn_lcR (Pm := fun r => 0 ≤ r ∧ r < 9) (P := fun d => ∃ r, d = .int r ∧ (0 ≤ r ∧ r < 4 ∧ r ≤ 2 + w)) ?_ (fun r hr => by omega) (by decide) (Nat.le_of_ble_eq_true rfl) ?_ rfl fun i => ?_)) (fun d hd s H A => ?_) A0
    · refine (epa_cons (ep_take (k := 9) rfl (by walk_at "ev") (by decide) (by decide)) epa_nil).imp ?_
      rintro _ ⟨_, _, rfl, ⟨r, rfl, r0, r1⟩, rfl⟩
      exact ⟨r, rfl, r0, r1⟩
    · intro i hi x hx
      obtain rfl : i = 12 := by simpa using hi
      cases hx
      rfl
    · refine ep_op (EvD.tp (EvN.dat (en_lst (ds := [.int 0, .int 1, .int 2, .int 2, .int 1, .int 2, .int (2 + w)]) (ea_cons ev_int (ea_cons ev_int (ea_cons ev_int (ea_cons ev_int (ea_cons ev_int (ea_cons ev_int (ea_cons (by walk_at "ev") ea_nil))))))) (Nat.le_of_ble_eq_true rfl)))) (ep_take (k := 7) rfl (by walk_at "ev") (by decide) (by decide)) ?_
      rintro _ _ rfl ⟨r, rfl, r0, r1⟩
      obtain ⟨z, hz, hzm⟩ := at_mem (l := [PyData.int 0, .int 1, .int 2, .int 2, .int 1, .int 2, .int (2 + w)]) r0 r1
      refine ⟨z, rd_ixL hz, ?_⟩
      simp only [List.mem_cons, List.not_mem_nil, or_false] at hzm
      rcases hzm with rfl | rfl | rfl | rfl | rfl | rfl | rfl <;> exact ⟨_, rfl, by omega, by omega, by omega⟩
    obtain ⟨ds, rfl, r, hr, hdl, hds⟩ := hd
    obtain ⟨rs, rfl, hrs⟩ := ints_of hds
    rw [List.length_map] at hdl
    have hrl : rs.length ≤ 8 := by omega
    have hr4 : ∀ r ∈ rs, 0 ≤ r ∧ r < 4 := fun r h => ⟨(hrs r h).1, (hrs r h).2.1⟩
    -- most
    refine q_ifA (d0 := .int (m : Int)) (et_test (EvD.b (ev_inI (i := 3) (ns := rs) (by walk_at "eb") (by walk_at "eb")))) (fun _ => by walk_at "ev") rfl (fun s H A => ?_) A
    obtain ⟨m2, em2, hm2, hm3⟩ : ∃ m2 : Nat, (if decide (3 ∈ rs) = true then PyData.int (min (m : Int) 9) else PyData.int (m : Int)) = .int (m2 : Int) ∧ m2 ≤ m ∧ (3 ∈ rs → m2 ≤ 9) := by
      by_cases c : 3 ∈ rs
      · exact ⟨min m 9, by rw [if_pos (decide_eq_true c)]; congr 1; omega, by omega, fun _ => by omega⟩
      · exact ⟨m, by rw [if_neg (by simpa using c)], Nat.le_refl _, fun h => absurd h c⟩
    rw [em2] at A
    -- order, hours, needs
    refine q_asgP (ep_pile (i := 0) rfl (epa_cons (ep_take (k := (m2 : Int) + 1) rfl (by walk_at "ev") (by omega) (by omega)) epa_nil) ?_) (fun d hd s H A => ?_) A
    · rintro _ ⟨_, _, rfl, ⟨r, rfl, r0, r1⟩, rfl⟩
      exact ⟨r.toNat, by rw [Int.toNat_of_nonneg r0], by omega⟩
    obtain ⟨_, ⟨_, _, rfl, ⟨r2, rfl, r20, r21⟩, rfl⟩, n, l, e1, rfl, ho⟩ := hd
    have en : r2 = (n : Int) := by injection e1 with e1; injection e1
    have hn2 : n ≤ m2 := by omega
    refine q_asgP (ep_pile (i := 0) rfl (EvA.tp (ea_cons (x := intsD l) (by walk_at "ev") (ea_cons (x := intsD rs) (by walk_at "ev") ea_nil))) ?_) (fun d hd s H A => ?_) A
    · rintro _ rfl
      exact ⟨n, l, rs, rfl, ho, by omega, hr4, by omega⟩
    obtain ⟨_, rfl, n', l', rs', hs, e2, ho', rfl, hH⟩ := hd
    have e2' : l = l' ∧ rs = rs' := by
      injection e2 with e3 e4
      injection e4 with e4 _
      unfold intsD at e3 e4
      injection e3 with e3
      injection e4 with e4
      exact ⟨(List.map_inj_right fun x y h => by injection h).mp e3, (List.map_inj_right fun x y h => by injection h).mp e4⟩
    obtain ⟨rfl, rfl⟩ := e2'
    obtain rfl : n' = n := by rw [← ho'.len, ho.len]
    have hsl := hH.len
    refine q_asgP (ep_pile (i := 0) rfl (EvA.tp (ea_cons (x := intsD l) (by walk_at "ev") (ea_cons (x := intsD hs) (by walk_at "ev") ea_nil))) ?_) (fun d hd s H A => ?_) A
    · rintro _ rfl
      exact ⟨n', l, hs, rfl, ho, by omega, hsl⟩
    obtain ⟨_, rfl, n2, l2, hs2, ns, lo, e5, ho2, rfl, hN⟩ := hd
    have e5' : l = l2 := by
      injection e5 with e3 e4
      unfold intsD at e3
      injection e3 with e3
      exact (List.map_inj_right fun x y h => by injection h).mp e3
    subst e5'
    -- frees
    refine q_asgP (EvPN.dat (epn_lcL (xs := hs.map .int) (P := fun x d => ∃ h f, x = .int h ∧ d = .int f ∧ 1 ≤ f ∧ f ≤ max 1 h) (by walk_at "ev") (by rw [List.length_map]; omega) (by decide) (Nat.le_of_ble_eq_true rfl) ?_ rfl fun x hx => ?_)) (fun d hd s H A => ?_) A
    · intro i hi x hx
      obtain rfl : i = 10 := by simpa using hi
      cases hx
      rfl
    · obtain ⟨h, _, rfl⟩ := List.mem_map.mp hx
      refine ep_cb (epa_cons (EvD.tp (d := .int 1) (by walk_at "ev")) (epa_cons (ep_op (Post := fun d => ∃ f, d = .int f ∧ f ≤ h) (EvD.tp (d := .int h) (by walk_at "ev")) (ep_op (Post := fun d => ∃ f, d = .int f ∧ 0 ≤ f) (EvD.tp (EvN.dat (en_lst (ds := [.int 0, .int 1, .int 2, .int 9, .int 9]) (ea_cons ev_int (ea_cons ev_int (ea_cons ev_int (ea_cons ev_int (ea_cons ev_int ea_nil))))) (Nat.le_of_ble_eq_true rfl)))) (ep_take (k := 5) rfl (by walk_at "ev") (by decide) (by decide)) ?_) ?_) epa_nil)) ?_
      · rintro _ _ rfl ⟨r, rfl, r0, r1⟩
        obtain ⟨z, hz, hzm⟩ := at_mem (l := [PyData.int 0, .int 1, .int 2, .int 9, .int 9]) r0 r1
        refine ⟨z, rd_ixL hz, ?_⟩
        simp only [List.mem_cons, List.not_mem_nil, or_false] at hzm
        rcases hzm with rfl | rfl | rfl | rfl | rfl <;> exact ⟨_, rfl, by decide⟩
      · rintro _ _ rfl ⟨f, rfl, f0⟩
        exact ⟨_, rd_sub, _, rfl, by omega⟩
      · rintro _ ⟨_, _, rfl, rfl, _, _, rfl, ⟨f, rfl, hf⟩, rfl⟩
        exact ⟨_, rc_max2, h, _, rfl, rfl, by omega, by omega⟩
    obtain ⟨fd, rfl, hfl, hfd⟩ := hd
    obtain ⟨fs, rfl, hfs⟩ := frees_of hH.bd hfl hfd
    rw [List.length_map, List.length_map, hsl] at hfl
    -- slack
    refine q_asgP (P := fun d => ∃ sl : List Int, d = intsD sl ∧ sl.length = 4 ∧ ∀ x ∈ sl, -1 ≤ x ∧ x ≤ 3) ?_ (fun d hd s H A => ?_) A
    · refine ep_op (EvD.tp (EvN.dat (en_lst (ds := [intsD [0, 0, 1, 2], intsD [0, 1, 2, 3], intsD [0, 0, 0, 1], intsD [-1, 0, 1, 3]]) (ea_cons (EvN.dat (en_lst (ea_cons ev_int (ea_cons ev_int (ea_cons ev_int (ea_cons ev_int ea_nil)))) (Nat.le_of_ble_eq_true rfl))) (ea_cons (EvN.dat (en_lst (ea_cons ev_int (ea_cons ev_int (ea_cons ev_int (ea_cons ev_int ea_nil)))) (Nat.le_of_ble_eq_true rfl))) (ea_cons (EvN.dat (en_lst (ea_cons ev_int (ea_cons ev_int (ea_cons ev_int (ea_cons ev_int ea_nil)))) (Nat.le_of_ble_eq_true rfl))) (ea_cons (EvN.dat (en_lst (ea_cons (by walk_at "ev") (ea_cons ev_int (ea_cons ev_int (ea_cons ev_int ea_nil)))) (Nat.le_of_ble_eq_true rfl))) ea_nil)))) (Nat.le_of_ble_eq_true rfl)))) (ep_take (k := 4) rfl (by walk_at "ev") (by decide) (by decide)) ?_
      rintro _ _ rfl ⟨r, rfl, r0, r1⟩
      obtain ⟨z, hz, hzm⟩ := at_mem (l := [intsD [0, 0, 1, 2], intsD [0, 1, 2, 3], intsD [0, 0, 0, 1], intsD [-1, 0, 1, 3]]) r0 r1
      refine ⟨z, rd_ixL hz, ?_⟩
      simp only [List.mem_cons, List.not_mem_nil, or_false] at hzm
      rcases hzm with rfl | rfl | rfl | rfl <;> exact ⟨_, rfl, rfl, by decide⟩
    obtain ⟨sl, rfl, sl4, hsl3⟩ := hd
    -- dues
    refine q_asgN (ds := []) (en_lst ea_nil (Nat.le_of_ble_eq_true rfl)) (fun a s H A => ?_) A
    refine q_for (ds := hs.map .int) (fun i e' => ∃ us x10 x11, e' = [.pil p, .dat (.int (m2 : Int)), .dat (.int w), .dat (intsD rs), .dat (intsD l), .dat (intsD hs), .dat (needsD ns), .dat (intsD fs), .dat (intsD sl), .own a (us.map dueD), x10, x11, .un] ∧ us.length = i ∧ ∀ u ∈ us, ∀ z, u = some z → 0 ≤ z ∧ z ≤ 50) (by walk_at "ev")
      ⟨[], .un, .un, rfl, rfl, (fun _ z => nomatch z)⟩ ?_ ?_ A
    · rintro B' i d e' hd ⟨us, x10, x11, rfl, hul, hus⟩
      rw [List.getElem?_map] at hd
      obtain ⟨hh, hhh, rfl⟩ := Option.map_eq_some_iff.mp hd
      have hil : i < hs.length := (List.getElem?_eq_some_iff.mp hhh).1
      have hhb := hH.bd hh (List.mem_of_getElem? hhh)
      refine ⟨_, tg_name, fun s H A => ?_⟩
      refine q_asgP (P := fun d => ∃ u, d = .int u ∧ 0 ≤ u ∧ u ≤ 50) ?_ (fun d hd s H A => ?_) A
      · refine ep_cb (epa_cons (EvD.tp (d := .int 0) (by walk_at "ev")) (epa_cons (ep_op (Post := fun d => ∃ f, d = .int f ∧ f ≤ hh + 3) (EvD.tp (d := .int hh) (by walk_at "ev")) (ep_op (Post := fun d => ∃ f, d = .int f ∧ f ≤ 3) (EvD.tp (d := intsD sl) (by walk_at "ev")) (ep_take (k := 4) rfl (by walk_at "ev") (by decide) (by decide)) ?_) ?_) epa_nil)) ?_
        · rintro _ _ rfl ⟨r, rfl, r0, r1⟩
          obtain ⟨z, hz, hzm⟩ := at_mem (l := sl.map PyData.int) r0 (by rw [List.length_map, sl4]; exact r1)
          obtain ⟨f, hf, rfl⟩ := List.mem_map.mp hzm
          exact ⟨_, rd_ixL hz, f, rfl, (hsl3 f hf).2⟩
        · rintro _ _ rfl ⟨f, rfl, hf⟩
          exact ⟨_, rd_add, _, rfl, by omega⟩
        · rintro _ ⟨_, _, rfl, rfl, _, _, rfl, ⟨f, rfl, hf⟩, rfl⟩
          exact ⟨_, rc_max2, _, rfl, by omega, by omega⟩
      obtain ⟨u, rfl, u0, u1⟩ := hd
      refine a_appP (P := fun d => ∃ o : Option Int, d = dueD o ∧ ∀ z, o = some z → 0 ≤ z ∧ z ≤ 50) (i := 9) (ds := us.map dueD) rfl ?_ (by rw [List.length_map]; omega) (fun d hd s H A => ?_) A
      · refine ep_op (EvD.tp (EvN.dat (en_lst (ds := [.int u, .int u, .int u, .none]) (ea_cons (by walk_at "ev") (ea_cons (by walk_at "ev") (ea_cons (by walk_at "ev") (ea_cons ev_non ea_nil)))) (Nat.le_of_ble_eq_true rfl)))) (ep_take (k := 4) rfl (by walk_at "ev") (by decide) (by decide)) ?_
        rintro _ _ rfl ⟨r, rfl, r0, r1⟩
        obtain ⟨z, hz, hzm⟩ := at_mem (l := [PyData.int u, .int u, .int u, .none]) r0 r1
        refine ⟨z, rd_ixL hz, ?_⟩
        simp only [List.mem_cons, List.not_mem_nil, or_false] at hzm
        rcases hzm with rfl | rfl | rfl | rfl
        · exact ⟨some u, rfl, fun z hz => by cases hz; exact ⟨u0, u1⟩⟩
        · exact ⟨some u, rfl, fun z hz => by cases hz; exact ⟨u0, u1⟩⟩
        · exact ⟨some u, rfl, fun z hz => by cases hz; exact ⟨u0, u1⟩⟩
        · exact ⟨none, rfl, fun z hz => by cases hz⟩
      obtain ⟨o, rfl, ho3⟩ := hd
      refine ⟨_, ⟨us ++ [o], .dat (.int hh), .dat (.int u), ?_, by rw [List.length_append, hul]; rfl, fun x hx => ?_⟩, A⟩
      · rw [List.map_append]
        rfl
      · rcases List.mem_append.mp hx with z | z
        · exact hus x z
        · rw [List.mem_singleton.mp z]; exact ho3
    · rintro e' ⟨us, x10, x11, rfl, hul, hus⟩ s H A
      rw [List.length_map, hsl] at hul
      have A2 := at_frz (i := 9) (ds := us.map dueD) rfl (fun F H s E => nm_pil E (i := 9) (j := 0) rfl rfl (by decide)) A
      refine a_retP (EvD.tp (ev_tup (ds := [intsD fs, duesD us, needsD ns, intsD rs]) (ea_cons (by walk_at "ev") (ea_cons (by walk_at "ev") (ea_cons (by walk_at "ev") (ea_cons (by walk_at "ev") ea_nil)))) (Nat.le_of_ble_eq_true rfl))) (fun v d s F2 H2 hd nx E2 dq => ?_) A2
      subst hd
      refine q v _ F2 H2 ⟨m, w, ⟨fs, us, ns, rs⟩, rfl, rfl, ?_⟩ nx (env_pil E2 (i := 0) rfl) dq
      refine ⟨⟨by rw [hul, hfl], by show fs.length ≤ 1000; omega, fun f hf => (hfs f hf).1, fun u hu z hz => (hus u hu z hz).1, fun pr hpr => ?_, hN.nd, by have := hN.few; show ns.length < 64; omega, ring_along ho hN.pr, hr4, by show rs.length ≤ 1000; omega⟩, by show fs.length ≤ m; omega, fun h => by have := hm3 h; show fs.length ≤ 9; omega, hrl, fun r hr => (hrs r hr).2.2, fun f hf => by have := (hfs f hf).2; omega, fun u hu z hz => (hus u hu z hz).2, hN.few⟩
      obtain ⟨k', j', h1, h2, h3, h4⟩ := hN.pr pr hpr
      have b1 := (ho.mem).mp (List.mem_of_getElem? h3)
      have b2 := (ho.mem).mp (List.mem_of_getElem? h4)
      show 0 ≤ pr.1 ∧ pr.1 < (fs.length : Int) ∧ 0 ≤ pr.2 ∧ pr.2 < (fs.length : Int) ∧ pr.1 ≠ pr.2
      refine ⟨b1.1, by omega, b2.1, by omega, fun z => ?_⟩
      rw [z] at h3
      have := nd_ix ho.nd h3 h4
      omega
theorem plain_int {i : Int} (h0 : 0 ≤ i) (h1 : i ≤ 1000000000000000000000000) : plainD (.int i) = true := decide_eq_true (Nat.lt_of_le_of_lt (m := 1000000000000000000000000) (by omega) (by decide))
theorem plain_ints {l : List Int} (h : ∀ i ∈ l, 0 ≤ i ∧ i ≤ 1000000000000000000000000) : plainD (intsD l) = true := by
  show plainAll (l.map .int) = true
  refine plainAll_mem fun d hd => ?_
  obtain ⟨i, hi, rfl⟩ := List.mem_map.mp hd
  exact plain_int (h i hi).1 (h i hi).2
theorem size_ints (l : List Int) : sizeD (intsD l) ≤ l.length + 1 := by
  have := sizeAll_flat (xs := l.map PyData.int) (k := 1) fun d hd => by obtain ⟨i, hi, rfl⟩ := List.mem_map.mp hd; exact Nat.le_refl 1
  show sizeAll (l.map PyData.int) + 1 ≤ _
  rw [List.length_map] at this
  omega
theorem depth_ints (l : List Int) : (intsD l).depth ≤ 1 := depth_list fun d hd => by obtain ⟨i, hi, rfl⟩ := List.mem_map.mp hd; exact Nat.le_refl 0
theorem Jb.showy {j : Jb} (h : j.Ok) (hf : ∀ f ∈ j.fs, f ≤ 1000000000000000000000000) (hu : ∀ u ∈ j.us, ∀ i, u = some i → i ≤ 1000000000000000000000000) : Showy j.dat := by
  have hl := h.few
  have hr := h.fewr
  have hn := h.fewn
  have hul := h.len
  refine Showy.of ?_ ?_ ?_
  · show plainAll [intsD j.fs, duesD j.us, needsD j.ns, intsD j.rs] = true
    refine plainAll_mem fun d hd => ?_
    simp only [List.mem_cons, List.not_mem_nil, or_false] at hd
    rcases hd with rfl | rfl | rfl | rfl
    · exact plain_ints fun i hi => ⟨by have := h.free i hi; omega, hf i hi⟩
    · show plainAll (j.us.map dueD) = true
      refine plainAll_mem fun d hd => ?_
      obtain ⟨u, hu2, rfl⟩ := List.mem_map.mp hd
      cases u with
      | none => rfl
      | some i => exact plain_int (h.due _ hu2 i rfl) (hu _ hu2 i rfl)
    · show plainAll (j.ns.map pairD) = true
      refine plainAll_mem fun d hd => ?_
      obtain ⟨p, hp, rfl⟩ := List.mem_map.mp hd
      obtain ⟨a1, a2, a3, a4, _⟩ := h.need p hp
      show (plainD (.int p.1) && (plainD (.int p.2) && true)) = true
      rw [plain_int a1 (by omega), plain_int a3 (by omega)]
      rfl
    · exact plain_ints fun i hi => ⟨(h.room i hi).1, by have := (h.room i hi).2; omega⟩
  · refine Nat.le_trans (depth_tup (k := 3) fun d hd => ?_) (by decide)
    simp only [List.mem_cons, List.not_mem_nil, or_false] at hd
    rcases hd with rfl | rfl | rfl | rfl
    · exact Nat.le_trans (depth_ints _) (by decide)
    · refine Nat.le_trans (depth_list (k := 0) fun d hd => ?_) (by decide)
      obtain ⟨u, hu2, rfl⟩ := List.mem_map.mp hd
      cases u <;> exact Nat.le_refl 0
    · refine Nat.le_trans (depth_list (k := 1) fun d hd => ?_) (by decide)
      obtain ⟨p, hp, rfl⟩ := List.mem_map.mp hd
      exact Nat.le_refl 1
    · exact Nat.le_trans (depth_ints _) (by decide)
  · have s1 := size_ints j.fs
    have s2 := size_ints j.rs
    have s3 := sizeAll_flat (xs := j.us.map dueD) (k := 1) fun d hd => by
      obtain ⟨u, hu2, rfl⟩ := List.mem_map.mp hd
      cases u <;> exact Nat.le_refl 1
    have s4 := sizeAll_flat (xs := j.ns.map pairD) (k := 3) fun d hd => by
      obtain ⟨p, hp, rfl⟩ := List.mem_map.mp hd
      exact Nat.le_refl 3
    rw [List.length_map] at s3 s4
    show sizeD (intsD j.fs) + (sizeAll (j.us.map dueD) + 1 + (sizeAll (j.ns.map pairD) + 1 + (sizeD (intsD j.rs) + 0))) + 1 ≤ 300000
    omega
theorem GJ.showy {m : Nat} {w : Int} {j : Jb} (g : GJ m w j) : Showy j.dat := Jb.showy g.ok (fun f hf => by have := g.fr f hf; omega) (fun u hu i hi => by have := g.du u hu i hi; omega)

structure LB (l : List (Int × Int)) (t : Int) (fd lf : List Int) : Prop where
  inv : BInv l t fd
  cl : ∀ p ∈ l, (p.1 = t ∨ p.1 ∈ fd) → p.1 ∉ lf → p.2 ∈ fd
  lf : ∀ x ∈ lf, x = t ∨ x ∈ fd
def sp__law_behind : Sp := fun vs H Q E => ∃ F v l t, vs = [v, .int t] ∧ Ex F H ∧ Dq F v (needsD l) ∧ l.length ≤ 10000 ∧ ∀ u fd F2 H2, Nx F H F2 H2 → (∀ x, x ∈ fd ↔ Bh l t x) → Dq F2 u (intsD fd) → Q u H2
set_option maxHeartbeats 8000000 in
theorem ok__law_behind (T : Txt K mg A) : FnOk P w K mg base CX0 1 A.f__law_behind A.d__law_behind ["_law_needs_here", "_law_task"] sp__law_behind := by
  refine fnp_ok T.F__law_behind sc__law_behind (fun vs H Q E h => ?_) (fun cdv Ar outer s H vs Q E hr h => ?_)
  · obtain ⟨_, _, _, _, rfl, _⟩ := h; rfl
  · obtain ⟨F, v1, l, t, rfl, k, h1, hz, q⟩ := h
    refine ⟨_, (pss_cons (ps_set (i := 2) sc__law_behind.nd rfl (by first | exact Or.inl rfl | exact Or.inr rfl) (pe_lst pa_nil))
      (pss_cons (ps_set (i := 3) sc__law_behind.nd rfl (by first | exact Or.inl rfl | exact Or.inr rfl) (pe_lst (pa_cons (pv 1) pa_nil)))
      (pss_cons (ps_while PassesOwn.never (pt_cmpR (oNeD (K := K) rfl hr.units) (pv 3) (pe_lst pa_nil) (nomark _)) (pss_cons (ps_set (i := 4) sc__law_behind.nd rfl (by first | exact Or.inl rfl | exact Or.inr rfl) (pe_bm0K (K := K) rfl PySem.F.plainAttrs_list PySem.F.slot_list_pop PySem.F.type_list_pop mt_pop (pv 3)))
      (pss_one (ps_for PassesOwn.never rfl (piL (K := K) rfl (pv 0)) (pgT (K := K) (n := 2) rfl rfl (pgs_cons (pg_name (i := 5) sc__law_behind.nd rfl (by first | exact Or.inl rfl | exact Or.inr rfl)) (pgs_cons (pg_name (i := 6) sc__law_behind.nd rfl (by first | exact Or.inl rfl | exact Or.inr rfl)) pgs_nil))) (pss_one (ps_if (PW.pt (pw_and (pt_cmpR op_eq (pv 5) (pv 4) (nomark _)) (pw_and1 (pt_cmpR (oNi (K := K) rfl) (pv 6) (pv 2) (by rfl))))) (pss_cons (ps_expr (pe_bmK (K := K) rfl PySem.F.plainAttrs_list PySem.F.slot_list_append PySem.F.type_list_append mt_append (pv 2) (pa_cons (pv 6) pa_nil)))
      (pss_one (ps_expr (pe_bmK (K := K) rfl PySem.F.plainAttrs_list PySem.F.slot_list_append PySem.F.type_list_append mt_append (pv 3) (pa_cons (pv 6) pa_nil))))) pss_nil))))))
      (pss_one (ps_ret (pv 2)))))), ?_⟩
    try dsimp only [cxOf, Cx.nox, Cx.wish, Cx.blk]
    have A0 := at_start (K := K) (M := M0) (N := N__law_behind) k (.cons (ent_d h1) (.cons (ent_d (.int t)) .nil)) (apart_no rfl) (Nat.le_of_ble_eq_true rfl)
    refine q_asgN (ds := []) (en_lst ea_nil (Nat.le_of_ble_eq_true rfl)) (fun p s H A => ?_) A0
    refine q_asgN (ds := [.int t]) (en_lst (ea_cons (by walk_at "ev") ea_nil) (Nat.le_of_ble_eq_true rfl)) (fun p2 s H A => ?_) A
    refine q_while (fun m e' => ∃ fd lf x4 x5 x6, e' = [.dat (needsD l), .dat (.int t), .own p (fd.map .int), .own p2 (lf.map .int), x4, x5, x6] ∧ LB l t fd lf ∧ lf.length ≤ fd.length + 1 ∧ m = 2 * (l.length - fd.length) + lf.length)
      _ ⟨[], [t], .un, .un, .un, rfl, ⟨⟨List.nodup_nil, (fun _ z => nomatch z), (fun _ z => nomatch z)⟩, fun p hp h1 h2 => ?_, fun x hx => .inl (List.mem_singleton.mp hx)⟩, by simp, rfl⟩ ?_ A
    · rcases h1 with z | z
      · exact absurd (by rw [z]; exact List.mem_singleton.mpr rfl) h2
      · exact nomatch z
    rintro m e' ⟨fd, lf, x4, x5, x6, rfl, hI, hlf, hm⟩
    have hl := hI.inv.len
    refine ⟨!decide (lf = []), ?_, fun hb s H A => ?_, fun hb s H A => ?_⟩
    · exact et_test (EvD.b (ev_neInts (l := lf) (m := []) (by walk_at "eb") (EvD.b (EvN.dat (en_lst (ds := []) ea_nil (Nat.le_of_ble_eq_true rfl))))))
    · have hb' : ¬ lf = [] := by simpa using hb
      obtain ⟨lf', one, rfl⟩ : ∃ lf' one, lf = lf' ++ [one] := ⟨lf.dropLast, lf.getLast hb', (List.dropLast_concat_getLast hb').symm⟩
      rw [List.length_append, List.length_singleton] at hlf hm
      have hone : one = t ∨ one ∈ fd := hI.lf one (List.mem_append_right _ (List.mem_singleton.mpr rfl))
      refine q_popO (i := 3) (j := 4) (ds := lf'.map .int) (d := .int one) (by show some (Ent.own p2 ((lf' ++ [one]).map .int)) = _; rw [List.map_append]; rfl) (fun s H A => ?_) A
      refine a_for (ds := l.map pairD) (fun i e' => ∃ ad g l2 x5 x6, e' = [.dat (needsD l), .dat (.int t), .own p (g.map .int), .own p2 (l2.map .int), .dat (.int one), x5, x6] ∧ g = fd ++ ad ∧ l2 = lf' ++ ad ∧ BInv l t g ∧ (∀ p ∈ l.take i, p.1 = one → p.2 ∈ g)) (by walk_at "ev") ⟨[], fd, lf', x5, x6, rfl, (List.append_nil _).symm, (List.append_nil _).symm, hI.inv, (fun _ z => nomatch z)⟩ ?_ ?_ A
      · rintro B' i d e' hd ⟨ad, g, l2, y5, y6, rfl, hg, hl2, hA, hc⟩
        rw [List.getElem?_map] at hd
        obtain ⟨pr, hpr, rfl⟩ := Option.map_eq_some_iff.mp hd
        have hmem : pr ∈ l := List.mem_of_getElem? hpr
        have et : l.take (i + 1) = l.take i ++ [pr] := by rw [List.take_add_one, hpr]; rfl
        have hal := hA.len
        have hl3 : l2.length ≤ lf'.length + g.length := by rw [hl2, hg, List.length_append, List.length_append]; omega
        refine ⟨_, tg_tup (tgs_cons tg_name (tgs_cons tg_name tgs_nil)) rfl, fun s H A => ?_⟩
        refine a_when (b := decide (pr.1 = one ∧ pr.2 ∉ g)) ?_ (fun hc2 s H A => ?_) (fun hc2 s H A => ?_) A
        · refine et_and2 (a := decide (pr.1 = one)) (b := !decide (pr.2 ∈ g)) (et_test (EvD.b (ev_eqI (i := pr.1) (j := one) (by walk_at "eb") (by walk_at "eb")))) (fun _ => et_test (EvD.b (ev_niI (i := pr.2) (ns := g) (by walk_at "eb") (by walk_at "eb")))) ?_
          by_cases c1 : pr.1 = one <;> by_cases c3 : pr.2 ∈ g <;> simp [c1, c3]
        · have hc' := of_decide_eq_true hc2
          have hb2 : Bh l t pr.2 := by
            rcases hone with z | z
            · exact .base (by rw [← z, ← hc'.1]; exact hmem)
            · exact .step (hI.inv.bh _ z) (by rw [← hc'.1]; exact hmem)
          refine q_app (i := 2) (ds := g.map .int) (d := .int pr.2) rfl (by walk_at "ev") (by rw [List.length_map]; omega) (fun s H A => ?_) A
          refine a_app (i := 3) (ds := l2.map .int) (d := .int pr.2) rfl (by walk_at "ev") (by rw [List.length_map]; omega) (fun s H A => ?_) A
          refine ⟨_, ⟨ad ++ [pr.2], g ++ [pr.2], l2 ++ [pr.2], .dat (.int pr.1), .dat (.int pr.2), ?_, by rw [hg, List.append_assoc], by rw [hl2, List.append_assoc], ?_, fun p hp e1 => ?_⟩, A⟩
          · rw [List.map_append, List.map_append]
            rfl
          · refine ⟨?_, fun x hx => ?_, fun x hx => ?_⟩
            · rw [List.nodup_append]
              refine ⟨hA.nd, by simp, fun a ha b hb => ?_⟩
              simp at hb
              subst hb
              exact fun z => hc'.2 (z ▸ ha)
            · rcases List.mem_append.mp hx with z | z
              · exact hA.bh x z
              · rw [List.mem_singleton.mp z]; exact hb2
            · rcases List.mem_append.mp hx with z | z
              · exact hA.sub x z
              · rw [List.mem_singleton.mp z]; exact List.mem_map.mpr ⟨pr, hmem, rfl⟩
          · rw [et] at hp
            rcases List.mem_append.mp hp with z | z
            · exact List.mem_append_left _ (hc p z e1)
            · rw [List.mem_singleton.mp z]; exact List.mem_append_right _ (List.mem_singleton.mpr rfl)
        · have hc' := of_decide_eq_false hc2
          refine ⟨_, ⟨ad, g, l2, .dat (.int pr.1), .dat (.int pr.2), rfl, hg, hl2, hA, fun p hp e1 => ?_⟩, A⟩
          rw [et] at hp
          rcases List.mem_append.mp hp with z | z
          · exact hc p z e1
          · rw [List.mem_singleton.mp z] at e1 ⊢
            by_cases c : pr.2 ∈ g
            · exact c
            · exact absurd ⟨e1, c⟩ hc'
      · rintro e' ⟨ad, g, l2, y5, y6, rfl, hg, hl2, hA, hc⟩ s H A
        rw [List.length_map, List.take_length] at hc
        subst hg hl2
        have hal := hA.len
        rw [List.length_append] at hal
        refine ⟨_, ?_, _, ⟨fd ++ ad, lf' ++ ad, .dat (.int one), y5, y6, rfl, ⟨hA, fun p hp h2 h3 => ?_, fun x hx => ?_⟩, by rw [List.length_append, List.length_append]; omega, rfl⟩, A⟩
        · rw [hm, List.length_append, List.length_append]
          omega
        · by_cases c : p.1 = one
          · exact hc p hp c
          · have h4 : p.1 = t ∨ p.1 ∈ fd := by
              rcases h2 with z | z
              · exact .inl z
              · rcases List.mem_append.mp z with z | z
                · exact .inr z
                · exact absurd (List.mem_append_right _ z) h3
            refine List.mem_append_left _ (hI.cl p hp h4 fun z => ?_)
            rcases List.mem_append.mp z with z | z
            · exact h3 (List.mem_append_left _ z)
            · exact c (List.mem_singleton.mp z)
        · rcases List.mem_append.mp hx with z | z
          · exact (hI.lf x (List.mem_append_left _ z)).imp id fun z => List.mem_append_left _ z
          · exact .inr (List.mem_append_right _ z)
    · have hb' : lf = [] := by simpa using hb
      subst hb'
      refine a_retF (i := 2) (ds := fd.map .int) rfl (fun _ _ _ _ z => z) (fun v s F2 H2 nx E2 dq => ?_) A
      have hB : BList l t fd := ⟨hI.inv, fun p hp h => hI.cl p hp h (fun z => nomatch z)⟩
      exact q v fd F2 H2 nx hB.mem dq
theorem ep__law_behind {C : Fx} {ta tb : TE} {e : En} {l : List (Int × Int)} {t : Int} {E : XK} (ha : EvD C ta e (needsD l)) (hb : EvD C tb e (.int t)) (hl : l.length ≤ 10000) : EvP C (tCall sp__law_behind [] E (tCons ta (tCons tb tNil))) e (fun d => ∃ fd, d = intsD fd ∧ ∀ x, x ∈ fd ↔ Bh l t x) := fun s F H k En Q q =>
  ha s F H k En _ fun v F1 H1 n1 d1 => hb s F1 H1 n1.k (En.nx n1) _ fun w F2 H2 n2 d2 => by
    cases d2
    have n12 := n1.trans n2
    exact ⟨F2, v, l, t, rfl, n2.k, Dq.up d1 n2.f, hl, fun u fd F3 H3 n3 h1 h2 => q u _ F3 H3 ⟨fd, rfl, h1⟩ (Nx.toM (n12.trans n3)) (En.nx (n12.trans n3)) h2⟩

theorem take_succ_sum {rs : List Int} {k : Nat} : (rs.take (k + 1)).sum = (rs.take k).sum + rs.getD k 0 := by
  rw [List.take_add_one, List.sum_append, List.getD_eq_getElem?_getD]
  cases rs[k]? with
  | none => rfl
  | some x => show _ + (x + 0) = _ + x; omega
theorem roomTo_succ {rs : List Int} {h : Int} (h1 : 1 ≤ h) : roomTo rs h = roomTo rs (h - 1) + roomAt rs h := by
  unfold roomTo roomAt
  have e1 : h.toNat = (h - 1).toNat + 1 := by omega
  rw [e1, take_succ_sum]
  by_cases c : h ≤ (rs.length : Int)
  · rw [if_pos c]
    omega
  · rw [if_neg c]
    have e2 : rs.getD (h - 1).toNat 0 = 0 := by rw [List.getD_eq_getElem?_getD, List.getElem?_eq_none (by omega)]; rfl
    rw [e2]
    omega
def sp__law_sum : Sp := fun vs H Q E => ∃ F v rs a b, vs = [v, .int a, .int b] ∧ Ex F H ∧ Dq F v (intsD rs) ∧ rs.length ≤ 100 ∧ 1 ≤ a ∧ a ≤ 100 ∧ -1000 ≤ b ∧ ∀ F2 H2, Nx F H F2 H2 → Q (.int (roomFrom rs a b)) H2
set_option maxHeartbeats 8000000 in
theorem ok__law_sum (T : Txt K mg A) : FnOk P w K mg base CX0 2 A.f__law_sum A.d__law_sum ["_law_rooms", "_law_first", "_law_last"] sp__law_sum := by
  refine fnp_ok T.F__law_sum sc__law_sum (fun vs H Q E h => ?_) (fun cdv Ar outer s H vs Q E hr h => ?_)
  · obtain ⟨_, _, _, _, _, rfl, _⟩ := h; rfl
  · obtain ⟨F, v1, rs, a, b, rfl, k, h1, hz, a1, a2, b1, q⟩ := h
    refine ⟨_, (pss_cons (ps_set (i := 3) sc__law_sum.nd rfl (by first | exact Or.inl rfl | exact Or.inr rfl) pe_int)
      (pss_cons (ps_for PassesOwn.never rfl (pi_range2 (by rfl) T.m_range (pa_cons (pv 1) (pa_cons (pe_op op_add (pe_callB (call_mn2 rfl) (by rfl) T.m_min (by decide +kernel) (pa_cons (pv 2) (pa_cons pe_int pa_nil))) pe_int) pa_nil))) (pg_name (i := 4) sc__law_sum.nd rfl (by first | exact Or.inl rfl | exact Or.inr rfl)) (pss_one (ps_set (i := 3) sc__law_sum.nd rfl (by first | exact Or.inl rfl | exact Or.inr rfl) (pe_op op_add (pv 3) (pe_call (ok__law_room T) (hr.mono (by decide)) (by rfl) T.g__law_room T.F__law_room.kp T.b__law_room .nil pass0 (pa_cons (pv 0) (pa_cons (pv 4) pa_nil)))))))
      (pss_one (ps_ret (pe_op op_add (pv 3) (pe_op op_mul pe_int (pe_callB (call_mx2 rfl) (by rfl) T.m_max (by decide +kernel) (pa_cons pe_int (pa_cons (pe_op op_sub (pv 2) (pe_callB (call_mx2 rfl) (by rfl) T.m_max (by decide +kernel) (pa_cons pe_int (pa_cons (pe_op op_sub (pv 1) pe_int) pa_nil)))) pa_nil))))))))), ?_⟩
    try dsimp only [cxOf, Cx.nox, Cx.wish, Cx.blk]
    have A0 := at_start (K := K) (M := M0) (N := N__law_sum) k (.cons (ent_d h1) (.cons (ent_d (.int a)) (.cons (ent_d (.int b)) .nil))) (apart_no rfl) (Nat.le_of_ble_eq_true rfl)
    refine q_asg (d := .int 0) (by walk_at "ev") (fun s H A => ?_) A0
    refine q_forR2 (lo := a) (m := min b 200 + 1) (fun i e' => ∃ x4, e' = [.dat (intsD rs), .dat (.int a), .dat (.int b), .dat (.int (roomTo rs (a - 1 + (i : Int)) - roomTo rs (a - 1))), x4]) (ea_cons (by walk_at "ev") (ea_cons (by walk_at "ev") ea_nil)) ⟨by omega, by omega, by omega, by omega⟩ ⟨.un, ?_⟩ (fun i e' h => by obtain ⟨x4, rfl⟩ := h; exact Nat.le_of_ble_eq_true rfl) ?_ ?_ A
    · rw [show a - 1 + ((0 : Nat) : Int) = a - 1 by omega, Int.sub_self]
      rfl
    · rintro i e' hi ⟨x4, rfl⟩ s H A
      refine a_asg (ev_add (by walk_at "eb") (EvD.b (ev_spRoom (rs := rs) (h := a + (i : Int)) (by walk_at "ev") (by walk_at "ev") (by omega)))) (fun s H A => ?_) A
      refine ⟨_, ⟨.dat (.int (a + (i : Int))), ?_⟩, A⟩
      have e1 := roomTo_succ (rs := rs) (h := a + (i : Int)) (by omega)
      rw [show a - 1 + ((i + 1 : Nat) : Int) = a + (i : Int) by omega, e1, show a + (i : Int) - 1 = a - 1 + (i : Int) by omega]
      rw [show roomTo rs (a - 1 + (i : Int)) + roomAt rs (a + (i : Int)) - roomTo rs (a - 1) = roomTo rs (a - 1 + (i : Int)) - roomTo rs (a - 1) + roomAt rs (a + (i : Int)) by omega]
      rfl
    · rintro e' ⟨x4, rfl⟩ s H A
      refine a_ret (ev_add (by walk_at "eb") (EvD.b (ev_mul (i := 2) (j := max 0 (b - max 200 (a - 1))) (by walk_at "eb") (by walk_at "eb") (.inl ⟨by decide, by decide⟩)))) (fun v F2 H2 nx d => ?_) A
      cases d
      have e0 : roomTo rs (a - 1 + ((min b 200 + 1 - a).toNat : Int)) - roomTo rs (a - 1) + 2 * max 0 (b - max 200 (a - 1)) = roomFrom rs a b := by
        unfold roomFrom
        by_cases c : b < a
        · rw [if_pos c, show a - 1 + ((min b 200 + 1 - a).toNat : Int) = a - 1 by omega]
          omega
        · rw [if_neg c, show a - 1 + ((min b 200 + 1 - a).toNat : Int) = min b 200 by omega]
          by_cases c2 : b ≤ 200
          · rw [show min b 200 = b by omega]
            omega
          · rw [show min b 200 = 200 by omega]
            unfold roomTo
            rw [List.take_of_length_le (by omega), List.take_of_length_le (l := rs) (i := b.toNat) (by omega)]
            omega
      rw [e0]
      exact q F2 H2 nx
theorem ev__law_sum {C : Fx} {ta tb tc : TE} {e : En} {rs : List Int} {a b : Int} {E : XK} (ha : EvD C ta e (intsD rs)) (hb : EvD C tb e (.int a)) (hc : EvD C tc e (.int b)) (hz : rs.length ≤ 100) (a1 : 1 ≤ a) (a2 : a ≤ 100) (b1 : -1000 ≤ b) : EvD C (tCall sp__law_sum [] E (tCons ta (tCons tb (tCons tc tNil)))) e (.int (roomFrom rs a b)) := fun s F H k En Q q =>
  ha s F H k En _ fun v F1 H1 n1 d1 => hb s F1 H1 n1.k (En.nx n1) _ fun w F2 H2 n2 d2 => hc s F2 H2 n2.k ((En.nx n1).nx n2) _ fun u F3 H3 n3 d3 => by
    cases d2
    cases d3
    exact ⟨F3, v, rs, a, b, rfl, n3.k, Dq.up d1 (n2.f.trans n3.f), hz, a1, a2, b1, fun F4 H4 n4 => q _ F4 H4 (((n1.trans n2).trans n3).trans n4) (.int _)⟩

def sp__law_good : Sp := spP (fun ds => ∃ j : Jb, ds = [j.dat] ∧ GJ 12 1 j) (fun _ d => d = .bool true)
theorem p20 : (10 : Int) ^ (20 : Int).toNat = 100000000000000000000 := by decide +kernel
def isBh (l : List (Int × Int)) (t : Int) : PyData → PyData
  | .int b => .bool (decide (b ∈ behindL l t))
  | _ => .none
def isIn (l : List Int) : PyData → PyData
  | .int b => .bool (decide (b ∈ l))
  | _ => .none
set_option maxHeartbeats 32000000 in
theorem ok__law_good (T : Txt K mg A) : FnG P w K mg base CX0 7 A.f__law_good A.d__law_good ["_law_pile_here", "_law_job_here"] sp__law_good := by
  refine fun_okG T.F__law_good sc__law_good (fun vs H Q E h => ?_) (fun cdv Ar outer s H vs Q E hg hr h => ?_)
  · obtain ⟨F, p, vs', ds, rfl, _, _, _, hd, ⟨j, rfl, _⟩, _⟩ := h
    have := dpa_len hd
    simpa using this
  · obtain ⟨F, p, vs', ds, rfl, k, hF, hn, hd, ⟨j, rfl, hj⟩, q⟩ := h
    obtain ⟨v1, hv, rfl⟩ : ∃ v1, Dq F v1 j.dat ∧ vs' = [v1] := by
      cases hd with
      | cons a b => cases b; exact ⟨_, a, rfl⟩
    have ok := hj.ok
    have hs := hj.showy
    have hl := ok.fewn
    have hf := ok.few
    refine ⟨_, (pss_cons (ps_set (i := 2) sc__law_good.nd rfl (by first | exact Or.inl rfl | exact Or.inr rfl) (pe_callTy (cStrD (K := K) rfl hg hr.units) (by rfl) T.m_str (by decide +kernel) (pa_cons (pv 1) pa_nil)))
      (pss_cons (ps_set (i := 3) sc__law_good.nd rfl (by first | exact Or.inl rfl | exact Or.inr rfl) (pe_listRg rfl (by rfl) T.m_list (prg_1 (by rfl) T.m_range (pe_callB (cLen (K := K) rfl) (by rfl) T.m_len (by decide +kernel) (pa_cons (pe_ix (ixT (K := K) rfl) (pv 1) pe_int (fun _ _ => rfl)) pa_nil)))))
      (pss_cons (ps_for PassesOwn.never rfl (piL (K := K) rfl (pv 3)) (pg_name (i := 4) sc__law_good.nd rfl (by first | exact Or.inl rfl | exact Or.inr rfl)) (pss_cons (ps_set (i := 5) sc__law_good.nd rfl (by first | exact Or.inl rfl | exact Or.inr rfl) (pe_call (ok__law_behind T) (hr.mono (by decide)) (by rfl) T.g__law_behind T.F__law_behind.kp T.b__law_behind .nil pass0 (pa_cons (pe_ix (ixT (K := K) rfl) (pv 1) pe_int (fun _ _ => rfl)) (pa_cons (pv 4) pa_nil))))
      (pss_cons (ps_setLc (i := 6) (own := [("_law_other", 10)]) rfl sc__law_good.nd rfl rfl (sw_true rfl rfl rfl (by decide +kernel)) (piL (K := K) rfl (pv 3)) (blkOk_by (own := [("_law_other", 10)]) (N := N__law_good) (sc := defScope s__law_good) (by decide +kernel)) (fun _ _ _ _ _ => (pg_name (i := 10) sc__law_good.nd rfl (by first | exact Or.inl rfl | exact Or.inr rfl))) (fun _ _ _ _ _ => pts_nil) (fun _ _ _ _ _ => (pe_call (ok_is_behind T) (hr.mono (by decide)) (by rfl) T.g_is_behind T.F_is_behind.kp T.b_is_behind .nil pass0 (pa_cons (pv 1) (pa_cons (pv 4) (pa_cons (pv 10) pa_nil))))))
      (pss_one (ps_if (PW.pt (pw_or (pt_cmpR (oNeD (K := K) rfl hr.units) (pv 6) (pe_lc (own := [("_law_other", 10)]) rfl sc__law_good.nd (piL (K := K) rfl (pv 3)) (blkOk_by (own := [("_law_other", 10)]) (N := N__law_good) (sc := defScope s__law_good) (by decide +kernel)) (fun _ _ _ _ _ => (pg_name (i := 10) sc__law_good.nd rfl (by first | exact Or.inl rfl | exact Or.inr rfl))) (fun _ _ _ _ _ => pts_nil) (fun _ _ _ _ _ => (pe_cmpR (oIn (K := K) rfl) (pv 10) (pv 5) (by rfl)))) (nomark _)) (pw_or1 (pt_cmpR (oNeD (K := K) rfl hr.units) (pe_lc (own := [("_law_one", 11)]) rfl sc__law_good.nd (piL (K := K) rfl (pv 6)) (blkOk_by (own := [("_law_one", 11)]) (N := N__law_good) (sc := defScope s__law_good) (by decide +kernel)) (fun _ _ _ _ _ => (pg_name (i := 11) sc__law_good.nd rfl (by first | exact Or.inl rfl | exact Or.inr rfl))) (fun _ _ _ _ _ => (pts_one (pt_not (pt_val (pe_callB (cIsi (K := K) rfl) (by rfl) T.m_isinstance (by decide +kernel) (pa_cons (pv 11) (pa_cons (pe_bltn (v := .ty "bool") (by rfl) T.m_bool (by decide +kernel) rfl) pa_nil))))))) (fun _ _ _ _ _ => (pv 11))) (pe_lst pa_nil) (nomark _))))) (pss_one (ps_ret pe_bl)) pss_nil)))))
      (pss_cons (ps_for PassesOwn.never rfl (pi_range1 (by rfl) T.m_range (pa_cons pe_int pa_nil)) (pg_name (i := 7) sc__law_good.nd rfl (by first | exact Or.inl rfl | exact Or.inr rfl)) (pss_cons (ps_set (i := 8) sc__law_good.nd rfl (by first | exact Or.inl rfl | exact Or.inr rfl) (pe_op op_add pe_int (pe_call (ok__law_take T) (hr.mono (by decide)) (by rfl) T.g__law_take T.F__law_take.kp T.b__law_take .nil pass0 (pa_cons (pv 0) (pa_cons pe_int pa_nil)))))
      (pss_cons (ps_set (i := 9) sc__law_good.nd rfl (by first | exact Or.inl rfl | exact Or.inr rfl) (pe_op op_add (pe_op op_sub (pe_call (ok__law_take T) (hr.mono (by decide)) (by rfl) T.g__law_take T.F__law_take.kp T.b__law_take .nil pass0 (pa_cons (pv 0) (pa_cons pe_int pa_nil))) pe_int) (pe_ix (ixL (K := K) rfl) (pe_lst (pa_cons pe_int (pa_cons pe_int (pa_cons (pe_op op_pow pe_int pe_int) (pa_cons pe_int pa_nil))))) (pe_call (ok__law_take T) (hr.mono (by decide)) (by rfl) T.g__law_take T.F__law_take.kp T.b__law_take .nil pass0 (pa_cons (pv 0) (pa_cons pe_int pa_nil))) (fun _ _ => rfl))))
      (pss_one (ps_if (pt_cmpR op_ne (pe_call (ok_room T) (hr.mono (by decide)) (by rfl) T.g_room T.F_room.kp T.b_room .nil pass0 (pa_cons (pv 1) (pa_cons (pv 8) (pa_cons (pv 9) pa_nil)))) (pe_call (ok__law_sum T) (hr.mono (by decide)) (by rfl) T.g__law_sum T.F__law_sum.kp T.b__law_sum .nil pass0 (pa_cons (pe_ix (ixT (K := K) rfl) (pv 1) pe_int (fun _ _ => rfl)) (pa_cons (pv 8) (pa_cons (pv 9) pa_nil)))) (nomark _)) (pss_one (ps_ret pe_bl)) pss_nil)))))
      (pss_one (ps_ret (pe_cmpR op_eq (pe_callTy (cStrD (K := K) rfl hg hr.units) (by rfl) T.m_str (by decide +kernel) (pa_cons (pv 1) pa_nil)) (pv 2) (nomark _)))))))), ?_⟩
    try dsimp only [cxOf, Cx.nox, Cx.wish, Cx.blk]
    have A0 : At ⟨K, (· = p), F, H⟩ F [.pil p, .dat j.dat, .un, .un, .un, .un, .un, .un, .un, .un, .un, .un] (L2.start N__law_good [.ref p, v1]) H := at_start (K := K) (M := (· = p)) (N := N__law_good) k (.cons (ent_pil hF (.inl rfl) hn) (.cons (ent_d hv) .nil)) (apart_one rfl) (Nat.le_of_ble_eq_true rfl)
    obtain ⟨kept, hkept⟩ : ∃ k, k = j.dat.shown := ⟨_, rfl⟩
    refine q_asg (d := .str kept) (EvD.is (ev_show (x := j.dat) (by walk_at "eb") (.inr rfl) hs) (by rw [hkept])) (fun s H A => ?_) A0
    obtain ⟨tl, htl, htm⟩ : ∃ tl : List Int, (List.range j.fs.length).map (fun i => PyData.int (i : Nat)) = tl.map .int ∧ ∀ i ∈ tl, 0 ≤ i ∧ i < (j.fs.length : Int) := by
      refine ⟨(List.range j.fs.length).map fun i => ((i : Nat) : Int), by rw [List.map_map]; rfl, fun i hi => ?_⟩
      obtain ⟨k, hk, rfl⟩ := List.mem_map.mp hi
      have := List.mem_range.mp hk
      omega
    have htn : tl.length = j.fs.length := by
      have := congrArg List.length htl
      rw [List.length_map, List.length_map, List.length_range] at this
      exact this.symm
    refine q_asg (d := intsD tl) ?_ (fun s H A => ?_) A
    · refine EvD.is (EvN.dat (en_listRg (n := j.fs.length) ?_ (by omega))) ?_
      · refine EvD.is (ev_lenL (ds := j.fs.map .int) ?_) ?_
        · exact EvD.b (ev_t0 (d := intsD j.fs) (ds := [duesD j.us, needsD j.ns, intsD j.rs]) (by walk_at "ev"))
        · rw [List.length_map]
      · rw [htl]
        rfl
    refine q_for (ds := tl.map .int) (fun i e' => ∃ x4 x5 x6, e' = [.pil p, .dat j.dat, .dat (.str kept), .dat (intsD tl), x4, x5, x6, .un, .un, .un, .un, .un]) (by walk_at "ev") ⟨.un, .un, .un, rfl⟩ ?_ ?_ A
    · rintro B' i d e' hd ⟨x4, x5, x6, rfl⟩
      rw [List.getElem?_map] at hd
      obtain ⟨t, ht, rfl⟩ := Option.map_eq_some_iff.mp hd
      obtain ⟨t0, t1⟩ := htm t (List.mem_of_getElem? ht)
      refine ⟨_, tg_name, fun s H A => ?_⟩
      refine q_asgP (ep__law_behind (l := j.ns) (t := t) (ev_t2 (x := intsD j.fs) (y := duesD j.us) (ds := [intsD j.rs]) (by walk_at "ev")) (by walk_at "ev") (by omega)) (fun d hd s H A => ?_) A
      obtain ⟨fd, rfl, hfd⟩ := hd
      refine q_asg (d := .list ((tl.map fun b => decide (b ∈ behindL j.ns t)).map .bool)) (EvD.is (EvN.dat (en_lc0 (ds := tl.map .int) (isBh j.ns t) (wok_name (by decide)) (by walk_at "ev") (by rw [List.length_map]; omega) fun d hd => ?_)) ?_) (fun s H A => ?_) A
      · obtain ⟨b, hb, rfl⟩ := List.mem_map.mp hd
        obtain ⟨b0, b1⟩ := htm b hb
        exact ⟨_, tg_name, ev_is_behind (j := j) (a := t) (b := b) (by walk_at "ev") (by walk_at "ev") (by walk_at "ev") ok t0 t1 b0 b1⟩
      · rw [List.map_map, List.map_map]
        rfl
      refine a_when (b := false) (et_or2 (a := false) (b := false) (EvT.is (et_test (EvD.b (ev_neBls (l := tl.map fun b => decide (b ∈ behindL j.ns t)) (m := tl.map fun b => decide (b ∈ fd)) (by walk_at "eb") (EvD.b (EvD.is (EvN.dat (en_lc0 (ds := tl.map .int) (isIn fd) (wok_name (by decide)) (by walk_at "ev") (by rw [List.length_map]; omega) fun d hd => ?_)) ?_))))) ?_) (fun _ => EvT.is (et_test (EvD.b (ev_neInts (l := []) (m := []) (EvD.b (EvD.is (EvN.dat (en_lc (ds := (tl.map fun b => decide (b ∈ behindL j.ns t)).map .bool) (fun d => !isBool d) id (wok_name (by decide)) (by walk_at "ev") (by rw [List.length_map, List.length_map]; omega) fun d hd => ?_)) ?_)) (EvD.b (EvN.dat (en_lst (ds := []) ea_nil (Nat.le_of_ble_eq_true rfl))))))) rfl) rfl) (fun hb => by cases hb) (fun _ s H A => ?_) A
      · obtain ⟨b, hb, rfl⟩ := List.mem_map.mp hd
        exact ⟨_, tg_name, ev_inI (i := b) (ns := fd) (by walk_at "eb") (by walk_at "eb")⟩
      · rw [List.map_map, List.map_map]
        rfl
      · have e1 : (tl.map fun b => decide (b ∈ behindL j.ns t)) = tl.map fun b => decide (b ∈ fd) := List.map_congr_left fun b _ => by
          rw [decide_eq_decide, mem_behindL, hfd]
        rw [e1, decide_eq_true rfl]
        rfl
      · refine ⟨_, tg_name, et_not (et_B (by walk_at "eb")), fun _ => ?_⟩
        show EvD _ _ _ d
        walk_at "ev"
      · have e2 : ∀ l : List Bool, (l.map PyData.bool).filter (fun d => !isBool d) = [] := fun l => by
          induction l with
          | nil => rfl
          | cons a l ih => exact ih
        rw [e2]
        rfl
      · exact ⟨_, ⟨.dat (.int t), .dat (intsD fd), _, rfl⟩, A⟩
    · rintro e' ⟨x4, x5, x6, rfl⟩ s H A
      refine q_forR1 (m := 6) (fun i e' => ∃ x7 x8 x9, e' = [.pil p, .dat j.dat, .dat (.str kept), .dat (intsD tl), x4, x5, x6, x7, x8, x9, .un, .un]) (ea_cons ev_int ea_nil) ⟨by decide, by decide⟩ ⟨.un, .un, .un, rfl⟩ (fun i e' h => by obtain ⟨x7, x8, x9, rfl⟩ := h; exact Nat.le_of_ble_eq_true rfl) ?_ ?_ A
      · rintro i e' hi ⟨x7, x8, x9, rfl⟩ s H A
        refine q_asgP (P := fun d => ∃ a, d = .int a ∧ 1 ≤ a ∧ a ≤ 30) (ep_op (EvD.tp (d := .int 1) (by walk_at "ev")) (ep_take (k := 30) rfl (by walk_at "ev") (by decide) (by decide)) ?_) (fun d hd s H A => ?_) A
        · rintro _ _ rfl ⟨r, rfl, r0, r1⟩
          exact ⟨_, rd_add, _, rfl, by omega, by omega⟩
        obtain ⟨a, rfl, a1, a2⟩ := hd
        refine q_asgP (P := fun d => ∃ b, d = .int b ∧ -1000 ≤ b) (ep_op (P1 := fun d => ∃ b, d = .int b ∧ -100 ≤ b) (P2 := fun d => ∃ b, d = .int b ∧ 0 ≤ b) (ep_op (ep_take (k := 60) rfl (by walk_at "ev") (by decide) (by decide)) (EvD.tp (d := .int 9) (by walk_at "ev")) ?_) (ep_op (EvD.tp (EvN.dat (en_lst (ds := [.int 0, .int 0, .int 100000000000000000000, .int 0]) (ea_cons ev_int (ea_cons ev_int (ea_cons (EvD.is (ev_pow (EvD.b ev_int) (EvD.b ev_int) ⟨by decide, by decide, by decide⟩) (by rw [p20])) (ea_cons ev_int ea_nil)))) (Nat.le_of_ble_eq_true rfl)))) (ep_take (k := 4) rfl (by walk_at "ev") (by decide) (by decide)) ?_) ?_) (fun d hd s H A => ?_) A
        · rintro _ _ ⟨r, rfl, r0, r1⟩ rfl
          exact ⟨_, rd_sub, _, rfl, by omega⟩
        · rintro _ _ rfl ⟨r, rfl, r0, r1⟩
          obtain ⟨z, hz, hzm⟩ := at_mem (l := [PyData.int 0, .int 0, .int 100000000000000000000, .int 0]) r0 r1
          refine ⟨z, rd_ixL hz, ?_⟩
          simp only [List.mem_cons, List.not_mem_nil, or_false] at hzm
          rcases hzm with rfl | rfl | rfl | rfl <;> exact ⟨_, rfl, by decide⟩
        · rintro _ _ ⟨b, rfl, b0⟩ ⟨c, rfl, c0⟩
          exact ⟨_, rd_add, _, rfl, by omega⟩
        obtain ⟨b, rfl, b1⟩ := hd
        refine a_when (b := false) (EvT.is (et_test (EvD.b (ev_neI (i := roomFrom j.rs a b) (j := roomFrom j.rs a b) (EvD.b (ev_room (j := j) (a := a) (b := b) (by walk_at "ev") (by walk_at "ev") (by walk_at "ev") ok a1)) (EvD.b (ev__law_sum (rs := j.rs) (a := a) (b := b) (ev_t3 (x := intsD j.fs) (y := duesD j.us) (z := needsD j.ns) (ds := []) (by walk_at "ev")) (by walk_at "ev") (by walk_at "ev") (by have := hj.rl; omega) a1 (by omega) b1))))) (by rw [decide_eq_true rfl]; rfl)) (fun hb => by cases hb) (fun _ s H A => ?_) A
        exact ⟨_, ⟨_, _, _, rfl⟩, A⟩
      · rintro e' ⟨x7, x8, x9, rfl⟩ s H A
        refine a_retP (EvD.tp (d := .bool true) (EvD.is (ev_eqS (i := kept) (j := kept) (EvD.b (EvD.is (ev_show (x := j.dat) (by walk_at "eb") (.inr rfl) hs) (by rw [hkept]))) (by walk_at "eb")) (by rw [decide_eq_true rfl]))) (fun v d s F2 H2 hd nx E2 dq => ?_) A
        subst hd
        exact q v _ F2 H2 rfl nx (env_pil E2 (i := 0) rfl) dq
theorem ep__law_good {C : Fx} {e : En} {i : Nat} {p : Addr} {tb : TE} {E : XK} (hi : e[i]? = some (.pil p)) (hb : EvP C tb e (fun d => ∃ j : Jb, d = j.dat ∧ GJ 12 1 j)) : EvP C (tCall sp__law_good [] E (tCons (tVar i) (tCons tb tNil))) e (· = .bool true) :=
  (ep_pile hi (epa_cons hb epa_nil) (by rintro _ ⟨_, _, rfl, ⟨j, rfl, hj⟩, rfl⟩; exact ⟨j, rfl, hj⟩)).imp fun d hd => hd.choose_spec.2

theorem ring_nil : hasRing [] = false := by
  unfold hasRing
  rw [ringFix_end rfl]
  rfl
theorem ok_flat {rs : List Int} (h : ∀ r ∈ rs, 0 ≤ r ∧ r < 4) (hl : rs.length ≤ 1000) : Jb.Ok ⟨[], [], [], rs⟩ := ⟨rfl, Nat.zero_le _, (fun _ z => nomatch z), (fun _ z => nomatch z), (fun _ z => nomatch z), List.nodup_nil, (show (0 : Nat) < 64 by decide), ring_nil, h, hl⟩
def sp_law (K : PySem.W.Frag) : Sp := fun vs H Q E => ∃ (a : Addr) (ns : List Int), vs = [.ref a] ∧ SqL K H a (ns.map V.int) ∧ ns.length ≤ 63 ∧ ∀ H2, Q (.bl true) H2
set_option maxHeartbeats 8000000 in
theorem ok_law (T : Txt K mg A) : FnG P w K mg base CX0 8 A.f_law A.d_law ["_law_script"] (sp_law K) := by
  refine fun_okG T.F_law sc_law (fun vs H Q E h => ?_) (fun cdv Ar outer s H vs Q E hg hr h => ?_)
  · obtain ⟨_, _, rfl, _⟩ := h; rfl
  · obtain ⟨a, ns, rfl, hS, hz, q⟩ := h
    refine ⟨_, (pss_cons (ps_for PassesOwn.never rfl (pi_range1 (by rfl) T.m_range (pa_cons (pe_callB (call_mx2 rfl) (by rfl) T.m_max (by decide +kernel) (pa_cons pe_int (pa_cons (pe_callB (call_mn2 rfl) (by rfl) T.m_min (by decide +kernel) (pa_cons (pe_callB (cLen (K := K) rfl) (by rfl) T.m_len (by decide +kernel) (pa_cons (pv 0) pa_nil)) (pa_cons pe_int pa_nil))) pa_nil))) pa_nil)) (pg_name (i := 1) sc_law.nd rfl (by first | exact Or.inl rfl | exact Or.inr rfl)) (pss_cons (ps_set (i := 2) sc_law.nd rfl (by first | exact Or.inl rfl | exact Or.inr rfl) (pe_call (ok__law_pile T) (hr.mono (by decide)) (by rfl) T.g__law_pile T.F__law_pile.kp T.b__law_pile .nil pass0 (pa_cons (pv 0) (pa_cons (pv 1) pa_nil))))
      (pss_one (ps_if (pt_not (pt_val (pe_callG (ok__law_good T) hg (hr.mono (by decide)) (by rfl) T.g__law_good T.F__law_good.kp T.b__law_good pass0 (pa_cons (pv 2) (pa_cons (pe_call (ok__law_job T) (hr.mono (by decide)) (by rfl) T.g__law_job T.F__law_job.kp T.b__law_job .nil pass0 (pa_cons (pv 2) (pa_cons pe_int (pa_cons pe_int pa_nil)))) pa_nil))))) (pss_one (ps_ret pe_bl)) pss_nil))))
      (pss_one (ps_ret (pe_and (pe_cmpR op_eq (pe_call (ok_room T) (hr.mono (by decide)) (by rfl) T.g_room T.F_room.kp T.b_room .nil pass0 (pa_cons (pe_tup (pa_cons (pe_lst pa_nil) (pa_cons (pe_lst pa_nil) (pa_cons (pe_lst pa_nil) (pa_cons (pe_lst pa_nil) pa_nil))))) (pa_cons pe_int (pa_cons pe_int pa_nil)))) pe_int (nomark _)) (pe_one (pe_cmpR op_eq (pe_call (ok_room T) (hr.mono (by decide)) (by rfl) T.g_room T.F_room.kp T.b_room .nil pass0 (pa_cons (pe_tup (pa_cons (pe_lst pa_nil) (pa_cons (pe_lst pa_nil) (pa_cons (pe_lst pa_nil) (pa_cons (pe_lst (pa_cons pe_int (pa_cons pe_int pa_nil))) pa_nil))))) (pa_cons pe_int (pa_cons pe_int pa_nil)))) pe_int (nomark _))))))), ?_⟩
    try dsimp only [cxOf, Cx.nox, Cx.wish, Cx.blk]
    have A0 : At ⟨K, M0, fun _ => none, H⟩ (fun _ => none) [.val (.ref a), .un, .un] (L2.start N_law [.ref a]) H := at_start (K := K) (M := M0) (N := N_law) (F := fun _ => none) (fun _ _ h => by cases h) (.cons ent_v .nil) (apart_no rfl) (Nat.le_of_ble_eq_true rfl)
    refine q_forV (m := max 2 (min (ns.length : Int) 8)) (fun i e' => ∃ x1 x2, e' = [.val (.ref a), x1, x2]) (turns28 (scr_slot (i := 0) rfl A0) hS) ⟨by omega, by omega⟩ ⟨.un, .un, rfl⟩ (fun i e' h => by obtain ⟨x1, x2, rfl⟩ := h; exact Nat.le_of_ble_eq_true rfl) ?_ ?_ A0
    · rintro i e' hi ⟨x1, x2, rfl⟩ s H1 A
      have hs0 : s[0]? = some (some (.ref a)) := scr_slot (i := 0) rfl A
      have hs1 : s[1]? = some (some (.int (i : Int))) := by obtain ⟨F, n, b, E⟩ := A; obtain ⟨v, h1, h2⟩ := E.ent 1 _ rfl; cases h2; exact h1
      have hq1 : SqL K H1 a (ns.map V.int) := by obtain ⟨F, n, b, E⟩ := A; exact Evl.ex_l (Nx.h0 n) hS
      refine ⟨.ref a, hs0, .int (i : Int), hs1, a, ns, (i : Int), rfl, hq1, hz, by omega, by omega, fun p n H2 n0 h1 h2 h3 => ?_⟩
      have A2 := at_pile (i := 2) (fun _ z => z) A h1 h2 h3 n0 (Nat.le_of_ble_eq_true rfl)
      refine a_whenP (P := fun b => (PyData.bool (!b)) = .bool true) (ept_not (ept_B (ep__law_good (i := 2) (p := p) rfl ((ep_pile (i := 2) rfl (EvA.tp (ea_cons (x := .int 12) (by walk_at "ev") (ea_cons (x := .int 1) (by walk_at "ev") ea_nil))) (by rintro _ rfl; exact ⟨12, 1, rfl, by decide, by decide, by decide⟩)).imp ?_)) (fun d hd => ⟨true, hd⟩))) (fun hb => by cases hb) (fun _ s H A => ?_) A2
      · rintro d ⟨_, rfl, m, w, j, e1, rfl, hg⟩
        injection e1 with e1 e2
        injection e2 with e2 _
        injection e1 with e1
        injection e2 with e2
        obtain rfl : m = 12 := by omega
        subst e2
        exact ⟨j, rfl, hg⟩
      · exact ⟨_, ⟨_, _, rfl⟩, A⟩
    · rintro e' ⟨x1, x2, rfl⟩ s H1 A
      refine a_ret (ev_and2 (a := true) (b := true) (EvD.b (EvD.is (ev_eqI (i := 0) (j := 0) (EvD.b (EvD.is (ev_room (j := ⟨[], [], [], []⟩) (a := 1) (b := 0) (ev_tup (ea_cons (EvN.dat (en_lst (ds := []) ea_nil (Nat.le_of_ble_eq_true rfl))) (ea_cons (EvN.dat (en_lst (ds := []) ea_nil (Nat.le_of_ble_eq_true rfl))) (ea_cons (EvN.dat (en_lst (ds := []) ea_nil (Nat.le_of_ble_eq_true rfl))) (ea_cons (EvN.dat (en_lst (ds := []) ea_nil (Nat.le_of_ble_eq_true rfl))) ea_nil)))) (Nat.le_of_ble_eq_true rfl)) (by walk_at "ev") (by walk_at "ev") (ok_flat (fun _ z => nomatch z) (by decide)) (by decide)) (congrArg PyData.int (show roomFrom [] 1 0 = 0 by decide)))) (by walk_at "eb")) rfl)) (fun _ => EvD.is (ev_eqI (i := 5) (j := 5) (EvD.b (EvD.is (ev_room (j := ⟨[], [], [], [3, 0]⟩) (a := 1) (b := 3) (ev_tup (ea_cons (EvN.dat (en_lst (ds := []) ea_nil (Nat.le_of_ble_eq_true rfl))) (ea_cons (EvN.dat (en_lst (ds := []) ea_nil (Nat.le_of_ble_eq_true rfl))) (ea_cons (EvN.dat (en_lst (ds := []) ea_nil (Nat.le_of_ble_eq_true rfl))) (ea_cons (EvN.dat (en_lst (ds := [.int 3, .int 0]) (ea_cons ev_int (ea_cons ev_int ea_nil)) (Nat.le_of_ble_eq_true rfl))) ea_nil)))) (Nat.le_of_ble_eq_true rfl)) (by walk_at "ev") (by walk_at "ev") (ok_flat (by decide) (by decide)) (by decide)) (congrArg PyData.int (show roomFrom [3, 0] 1 3 = 5 by decide)))) (by walk_at "eb")) rfl) rfl) (fun v F2 H2 nx d => ?_) A
      cases d
      exact q H2

end
end Dd
namespace Hd
open PySem PySem.Spec PyProof.Rows L2 Dd
def dd_is_whole : He.DefD := ⟨("is_whole", none), "is_whole", "is_whole", defArgs s_is_whole, defBody s_is_whole, defScope s_is_whole, [], []⟩
def dd_is_from : He.DefD := ⟨("is_from", none), "is_from", "is_from", defArgs s_is_from, defBody s_is_from, defScope s_is_from, [], []⟩
def dd_is_below : He.DefD := ⟨("is_below", none), "is_below", "is_below", defArgs s_is_below, defBody s_is_below, defScope s_is_below, [], []⟩
def dd_is_due : He.DefD := ⟨("is_due", none), "is_due", "is_due", defArgs s_is_due, defBody s_is_due, defScope s_is_due, [], []⟩
def dd_is_need : He.DefD := ⟨("is_need", none), "is_need", "is_need", defArgs s_is_need, defBody s_is_need, defScope s_is_need, [], []⟩
def dd_are_rooms : He.DefD := ⟨("are_rooms", none), "are_rooms", "are_rooms", defArgs s_are_rooms, defBody s_are_rooms, defScope s_are_rooms, [], []⟩
def dd_has_ring : He.DefD := ⟨("has_ring", none), "has_ring", "has_ring", defArgs s_has_ring, defBody s_has_ring, defScope s_has_ring, [], []⟩
def dd_are_parts : He.DefD := ⟨("are_parts", none), "are_parts", "are_parts", defArgs s_are_parts, defBody s_are_parts, defScope s_are_parts, [], []⟩
def dd_is_job : He.DefD := ⟨("is_job", none), "is_job", "is_job", defArgs s_is_job, defBody s_is_job, defScope s_is_job, [], []⟩
def dd_look_at_job : He.DefD := ⟨("look_at_job", none), "look_at_job", "look_at_job", defArgs s_look_at_job, defBody s_look_at_job, defScope s_look_at_job, [], []⟩
def dd_look_at_task : He.DefD := ⟨("look_at_task", none), "look_at_task", "look_at_task", defArgs s_look_at_task, defBody s_look_at_task, defScope s_look_at_task, [], []⟩
def dd_tasks_behind : He.DefD := ⟨("tasks_behind", none), "tasks_behind", "tasks_behind", defArgs s_tasks_behind, defBody s_tasks_behind, defScope s_tasks_behind, [], []⟩
def dd_is_behind : He.DefD := ⟨("is_behind", none), "is_behind", "is_behind", defArgs s_is_behind, defBody s_is_behind, defScope s_is_behind, [], []⟩
def dd_room_from : He.DefD := ⟨("room_from", none), "room_from", "room_from", defArgs s_room_from, defBody s_room_from, defScope s_room_from, [], []⟩
def dd_room : He.DefD := ⟨("room", none), "room", "room", defArgs s_room, defBody s_room, defScope s_room, [], []⟩
def dd__law_mixed : He.DefD := ⟨("_law_mixed", none), "_law_mixed", "_law_mixed", defArgs s__law_mixed, defBody s__law_mixed, defScope s__law_mixed, [], []⟩
def dd__law_pile : He.DefD := ⟨("_law_pile", none), "_law_pile", "_law_pile", defArgs s__law_pile, defBody s__law_pile, defScope s__law_pile, [], []⟩
def dd__law_take : He.DefD := ⟨("_law_take", none), "_law_take", "_law_take", defArgs s__law_take, defBody s__law_take, defScope s__law_take, [], []⟩
def dd__law_order : He.DefD := ⟨("_law_order", none), "_law_order", "_law_order", defArgs s__law_order, defBody s__law_order, defScope s__law_order, [], []⟩
def dd__law_room : He.DefD := ⟨("_law_room", none), "_law_room", "_law_room", defArgs s__law_room, defBody s__law_room, defScope s__law_room, [], []⟩
def dd__law_hours : He.DefD := ⟨("_law_hours", none), "_law_hours", "_law_hours", defArgs s__law_hours, defBody s__law_hours, defScope s__law_hours, [], []⟩
def dd__law_needs : He.DefD := ⟨("_law_needs", none), "_law_needs", "_law_needs", defArgs s__law_needs, defBody s__law_needs, defScope s__law_needs, [], []⟩
def dd__law_job : He.DefD := ⟨("_law_job", none), "_law_job", "_law_job", defArgs s__law_job, defBody s__law_job, defScope s__law_job, [], []⟩
def dd__law_behind : He.DefD := ⟨("_law_behind", none), "_law_behind", "_law_behind", defArgs s__law_behind, defBody s__law_behind, defScope s__law_behind, [], []⟩
def dd__law_sum : He.DefD := ⟨("_law_sum", none), "_law_sum", "_law_sum", defArgs s__law_sum, defBody s__law_sum, defScope s__law_sum, [], []⟩
def dd__law_good : He.DefD := ⟨("_law_good", none), "_law_good", "_law_good", defArgs s__law_good, defBody s__law_good, defScope s__law_good, [], []⟩
def dd_law : He.DefD := ⟨("law", none), "law", "law", defArgs s_law, defBody s_law, defScope s_law, [], []⟩
def fn : List He.DefD := [dd_is_whole, dd_is_from, dd_is_below, dd_is_due, dd_is_need, dd_are_rooms, dd_has_ring, dd_are_parts, dd_is_job, dd_look_at_job, dd_look_at_task, dd_tasks_behind, dd_is_behind, dd_room_from, dd_room, dd__law_mixed, dd__law_pile, dd__law_take, dd__law_order, dd__law_room, dd__law_hours, dd__law_needs, dd__law_job, dd__law_behind, dd__law_sum, dd__law_good, dd_law]
def fa : List He.Fa := [.glo "is_whole", .glo "is_from", .glo "is_below", .glo "is_due", .glo "is_need", .glo "are_rooms", .glo "has_ring", .glo "are_parts", .glo "is_job", .glo "look_at_job", .glo "look_at_task", .glo "tasks_behind", .glo "is_behind", .glo "room_from", .glo "room", .glo "_law_mixed", .glo "_law_pile", .glo "_law_take", .glo "_law_order", .glo "_law_room", .glo "_law_hours", .glo "_law_needs", .glo "_law_job", .glo "_law_behind", .glo "_law_sum", .glo "_law_good", .glo "law", .free "all", .free "bool", .free "int", .free "isinstance", .free "len", .free "list", .free "max", .free "min", .free "range", .free "set", .free "str", .free "sum", .free "tuple", .int "MOST_ROOM" 3, .int "USUAL_ROOM" 2]
abbrev R : PySem.W.OpenRow := PySem.W.OpenLaw.row PySem.Challenge.rw_duepairs_k02_behind_and_room
abbrev hk : PySem.W.Hook := He.hookD 4 fa fn
def ob (s : PySem.W.SharedT) : He.AlD := He.obsDG 4 fa fn (HandSHeadRun.getT s)
theorem ob_eq (s : PySem.W.SharedT) : ob s = hk.obs s.abs := He.obsDG_eq (HandSHeadRun.getT_eq s)
def loose0 : List Str := ["JobError", "NoJob", "NoTask", "NoHour", "MOST_ROOM", "USUAL_ROOM", "is_whole", "is_from", "is_below", "is_due", "is_need", "are_rooms", "has_ring", "are_parts", "is_job", "look_at_job", "look_at_task", "tasks_behind", "is_behind", "room_from", "room", "_law_mixed", "_law_pile", "_law_take", "_law_order", "_law_room", "_law_hours", "_law_needs", "_law_job", "_law_behind", "_law_sum", "_law_good"]
abbrev loose : List Str := loose0
theorem run (w : World) : HandSHeadRun.RunEq R (PySem.W.view R.prog [35]) hk ob 3000 loose w := by
  intro os
  kernel_rfl
theorem facts {P : Program} {w : World} {K : PySem.W.Frag} {h : Heap} {mg : Str → Option Value} {f : Addr} (X : K.In h) (G : h.Ns mainGlobals mg) (hfa : mg ("law" : Str) = some (.ref f)) (c : He.SaysD fa fn K) :
    ∃ fd : FuncData, (∀ (s : Shared) (v : Value), BindsTo s fd ⟨[v], []⟩ [("_law_script", v)]) ∧ ∀ base : Heap, K.In base → base.Ns mainGlobals mg → FnG P w K mg base CX0 8 f fd ["_law_script"] (sp_law K) := by
  obtain ⟨q_is_whole, F_is_whole⟩ := c.def_ 0 (d := dd_is_whole) rfl
  obtain ⟨q_is_from, F_is_from⟩ := c.def_ 1 (d := dd_is_from) rfl
  obtain ⟨q_is_below, F_is_below⟩ := c.def_ 2 (d := dd_is_below) rfl
  obtain ⟨q_is_due, F_is_due⟩ := c.def_ 3 (d := dd_is_due) rfl
  obtain ⟨q_is_need, F_is_need⟩ := c.def_ 4 (d := dd_is_need) rfl
  obtain ⟨q_are_rooms, F_are_rooms⟩ := c.def_ 5 (d := dd_are_rooms) rfl
  obtain ⟨q_has_ring, F_has_ring⟩ := c.def_ 6 (d := dd_has_ring) rfl
  obtain ⟨q_are_parts, F_are_parts⟩ := c.def_ 7 (d := dd_are_parts) rfl
  obtain ⟨q_is_job, F_is_job⟩ := c.def_ 8 (d := dd_is_job) rfl
  obtain ⟨q_look_at_job, F_look_at_job⟩ := c.def_ 9 (d := dd_look_at_job) rfl
  obtain ⟨q_look_at_task, F_look_at_task⟩ := c.def_ 10 (d := dd_look_at_task) rfl
  obtain ⟨q_tasks_behind, F_tasks_behind⟩ := c.def_ 11 (d := dd_tasks_behind) rfl
  obtain ⟨q_is_behind, F_is_behind⟩ := c.def_ 12 (d := dd_is_behind) rfl
  obtain ⟨q_room_from, F_room_from⟩ := c.def_ 13 (d := dd_room_from) rfl
  obtain ⟨q_room, F_room⟩ := c.def_ 14 (d := dd_room) rfl
  obtain ⟨q__law_mixed, F__law_mixed⟩ := c.def_ 15 (d := dd__law_mixed) rfl
  obtain ⟨q__law_pile, F__law_pile⟩ := c.def_ 16 (d := dd__law_pile) rfl
  obtain ⟨q__law_take, F__law_take⟩ := c.def_ 17 (d := dd__law_take) rfl
  obtain ⟨q__law_order, F__law_order⟩ := c.def_ 18 (d := dd__law_order) rfl
  obtain ⟨q__law_room, F__law_room⟩ := c.def_ 19 (d := dd__law_room) rfl
  obtain ⟨q__law_hours, F__law_hours⟩ := c.def_ 20 (d := dd__law_hours) rfl
  obtain ⟨q__law_needs, F__law_needs⟩ := c.def_ 21 (d := dd__law_needs) rfl
  obtain ⟨q__law_job, F__law_job⟩ := c.def_ 22 (d := dd__law_job) rfl
  obtain ⟨q__law_behind, F__law_behind⟩ := c.def_ 23 (d := dd__law_behind) rfl
  obtain ⟨q__law_sum, F__law_sum⟩ := c.def_ 24 (d := dd__law_sum) rfl
  obtain ⟨q__law_good, F__law_good⟩ := c.def_ 25 (d := dd__law_good) rfl
  obtain ⟨q_law, F_law⟩ := c.def_ 26 (d := dd_law) rfl
  obtain ⟨t_MOST_ROOM, c_MOST_ROOM⟩ := He.int_ok X G (c.fact 40 rfl)
  obtain ⟨t_USUAL_ROOM, c_USUAL_ROOM⟩ := He.int_ok X G (c.fact 41 rfl)
  have T : Txt K mg { f_is_whole := He.ga K "is_whole", d_is_whole := q_is_whole, f_is_from := He.ga K "is_from", d_is_from := q_is_from, f_is_below := He.ga K "is_below", d_is_below := q_is_below, f_is_due := He.ga K "is_due", d_is_due := q_is_due, f_is_need := He.ga K "is_need", d_is_need := q_is_need, f_are_rooms := He.ga K "are_rooms", d_are_rooms := q_are_rooms, f_has_ring := He.ga K "has_ring", d_has_ring := q_has_ring, f_are_parts := He.ga K "are_parts", d_are_parts := q_are_parts, f_is_job := He.ga K "is_job", d_is_job := q_is_job, f_look_at_job := He.ga K "look_at_job", d_look_at_job := q_look_at_job, f_look_at_task := He.ga K "look_at_task", d_look_at_task := q_look_at_task, f_tasks_behind := He.ga K "tasks_behind", d_tasks_behind := q_tasks_behind, f_is_behind := He.ga K "is_behind", d_is_behind := q_is_behind, f_room_from := He.ga K "room_from", d_room_from := q_room_from, f_room := He.ga K "room", d_room := q_room, f__law_mixed := He.ga K "_law_mixed", d__law_mixed := q__law_mixed, f__law_pile := He.ga K "_law_pile", d__law_pile := q__law_pile, f__law_take := He.ga K "_law_take", d__law_take := q__law_take, f__law_order := He.ga K "_law_order", d__law_order := q__law_order, f__law_room := He.ga K "_law_room", d__law_room := q__law_room, f__law_hours := He.ga K "_law_hours", d__law_hours := q__law_hours, f__law_needs := He.ga K "_law_needs", d__law_needs := q__law_needs, f__law_job := He.ga K "_law_job", d__law_job := q__law_job, f__law_behind := He.ga K "_law_behind", d__law_behind := q__law_behind, f__law_sum := He.ga K "_law_sum", d__law_sum := q__law_sum, f__law_good := He.ga K "_law_good", d__law_good := q__law_good, f_law := He.ga K "law", d_law := q_law, a_JobError := He.ga K "JobError", a_NoJob := He.ga K "NoJob", a_NoTask := He.ga K "NoTask", a_NoHour := He.ga K "NoHour", k_MOST_ROOM := t_MOST_ROOM, k_USUAL_ROOM := t_USUAL_ROOM } := {
    F_is_whole := F_is_whole,
    g_is_whole := He.glo_ok X G (c.fact 0 rfl),
    b_is_whole := FunD.bindsN F_is_whole fun _ _ _ _ _ _ us hl => match us, hl with | [_], _ => rfl,
    F_is_from := F_is_from,
    g_is_from := He.glo_ok X G (c.fact 1 rfl),
    b_is_from := FunD.bindsN F_is_from fun _ _ _ _ _ _ us hl => match us, hl with | [_, _], _ => rfl,
    F_is_below := F_is_below,
    g_is_below := He.glo_ok X G (c.fact 2 rfl),
    b_is_below := FunD.bindsN F_is_below fun _ _ _ _ _ _ us hl => match us, hl with | [_, _], _ => rfl,
    F_is_due := F_is_due,
    g_is_due := He.glo_ok X G (c.fact 3 rfl),
    b_is_due := FunD.bindsN F_is_due fun _ _ _ _ _ _ us hl => match us, hl with | [_], _ => rfl,
    F_is_need := F_is_need,
    g_is_need := He.glo_ok X G (c.fact 4 rfl),
    b_is_need := FunD.bindsN F_is_need fun _ _ _ _ _ _ us hl => match us, hl with | [_, _], _ => rfl,
    F_are_rooms := F_are_rooms,
    g_are_rooms := He.glo_ok X G (c.fact 5 rfl),
    b_are_rooms := FunD.bindsN F_are_rooms fun _ _ _ _ _ _ us hl => match us, hl with | [_], _ => rfl,
    F_has_ring := F_has_ring,
    g_has_ring := He.glo_ok X G (c.fact 6 rfl),
    b_has_ring := FunD.bindsN F_has_ring fun _ _ _ _ _ _ us hl => match us, hl with | [_], _ => rfl,
    F_are_parts := F_are_parts,
    g_are_parts := He.glo_ok X G (c.fact 7 rfl),
    b_are_parts := FunD.bindsN F_are_parts fun _ _ _ _ _ _ us hl => match us, hl with | [_], _ => rfl,
    F_is_job := F_is_job,
    g_is_job := He.glo_ok X G (c.fact 8 rfl),
    b_is_job := FunD.bindsN F_is_job fun _ _ _ _ _ _ us hl => match us, hl with | [_], _ => rfl,
    F_look_at_job := F_look_at_job,
    g_look_at_job := He.glo_ok X G (c.fact 9 rfl),
    b_look_at_job := FunD.bindsN F_look_at_job fun _ _ _ _ _ _ us hl => match us, hl with | [_], _ => rfl,
    F_look_at_task := F_look_at_task,
    g_look_at_task := He.glo_ok X G (c.fact 10 rfl),
    b_look_at_task := FunD.bindsN F_look_at_task fun _ _ _ _ _ _ us hl => match us, hl with | [_, _], _ => rfl,
    F_tasks_behind := F_tasks_behind,
    g_tasks_behind := He.glo_ok X G (c.fact 11 rfl),
    b_tasks_behind := FunD.bindsN F_tasks_behind fun _ _ _ _ _ _ us hl => match us, hl with | [_, _], _ => rfl,
    F_is_behind := F_is_behind,
    g_is_behind := He.glo_ok X G (c.fact 12 rfl),
    b_is_behind := FunD.bindsN F_is_behind fun _ _ _ _ _ _ us hl => match us, hl with | [_, _, _], _ => rfl,
    F_room_from := F_room_from,
    g_room_from := He.glo_ok X G (c.fact 13 rfl),
    b_room_from := FunD.bindsN F_room_from fun _ _ _ _ _ _ us hl => match us, hl with | [_, _, _], _ => rfl,
    F_room := F_room,
    g_room := He.glo_ok X G (c.fact 14 rfl),
    b_room := FunD.bindsN F_room fun _ _ _ _ _ _ us hl => match us, hl with | [_, _, _], _ => rfl,
    F__law_mixed := F__law_mixed,
    g__law_mixed := He.glo_ok X G (c.fact 15 rfl),
    b__law_mixed := FunD.bindsN F__law_mixed fun _ _ _ _ _ _ us hl => match us, hl with | [_, _], _ => rfl,
    F__law_pile := F__law_pile,
    g__law_pile := He.glo_ok X G (c.fact 16 rfl),
    b__law_pile := FunD.bindsN F__law_pile fun _ _ _ _ _ _ us hl => match us, hl with | [_, _], _ => rfl,
    F__law_take := F__law_take,
    g__law_take := He.glo_ok X G (c.fact 17 rfl),
    b__law_take := FunD.bindsN F__law_take fun _ _ _ _ _ _ us hl => match us, hl with | [_, _], _ => rfl,
    F__law_order := F__law_order,
    g__law_order := He.glo_ok X G (c.fact 18 rfl),
    b__law_order := FunD.bindsN F__law_order fun _ _ _ _ _ _ us hl => match us, hl with | [_, _], _ => rfl,
    F__law_room := F__law_room,
    g__law_room := He.glo_ok X G (c.fact 19 rfl),
    b__law_room := FunD.bindsN F__law_room fun _ _ _ _ _ _ us hl => match us, hl with | [_, _], _ => rfl,
    F__law_hours := F__law_hours,
    g__law_hours := He.glo_ok X G (c.fact 20 rfl),
    b__law_hours := FunD.bindsN F__law_hours fun _ _ _ _ _ _ us hl => match us, hl with | [_, _, _], _ => rfl,
    F__law_needs := F__law_needs,
    g__law_needs := He.glo_ok X G (c.fact 21 rfl),
    b__law_needs := FunD.bindsN F__law_needs fun _ _ _ _ _ _ us hl => match us, hl with | [_, _, _], _ => rfl,
    F__law_job := F__law_job,
    g__law_job := He.glo_ok X G (c.fact 22 rfl),
    b__law_job := FunD.bindsN F__law_job fun _ _ _ _ _ _ us hl => match us, hl with | [_, _, _], _ => rfl,
    F__law_behind := F__law_behind,
    g__law_behind := He.glo_ok X G (c.fact 23 rfl),
    b__law_behind := FunD.bindsN F__law_behind fun _ _ _ _ _ _ us hl => match us, hl with | [_, _], _ => rfl,
    F__law_sum := F__law_sum,
    g__law_sum := He.glo_ok X G (c.fact 24 rfl),
    b__law_sum := FunD.bindsN F__law_sum fun _ _ _ _ _ _ us hl => match us, hl with | [_, _, _], _ => rfl,
    F__law_good := F__law_good,
    g__law_good := He.glo_ok X G (c.fact 25 rfl),
    b__law_good := FunD.bindsN F__law_good fun _ _ _ _ _ _ us hl => match us, hl with | [_, _], _ => rfl,
    F_law := F_law,
    g_law := He.glo_ok X G (c.fact 26 rfl),
    b_law := FunD.bindsN F_law fun _ _ _ _ _ _ us hl => match us, hl with | [_], _ => rfl,
    c_MOST_ROOM := c_MOST_ROOM,
    c_USUAL_ROOM := c_USUAL_ROOM,
    m_all := He.free_ok X G (c.fact 27 rfl),
    m_bool := He.free_ok X G (c.fact 28 rfl),
    m_int := He.free_ok X G (c.fact 29 rfl),
    m_isinstance := He.free_ok X G (c.fact 30 rfl),
    m_len := He.free_ok X G (c.fact 31 rfl),
    m_list := He.free_ok X G (c.fact 32 rfl),
    m_max := He.free_ok X G (c.fact 33 rfl),
    m_min := He.free_ok X G (c.fact 34 rfl),
    m_range := He.free_ok X G (c.fact 35 rfl),
    m_set := He.free_ok X G (c.fact 36 rfl),
    m_str := He.free_ok X G (c.fact 37 rfl),
    m_sum := He.free_ok X G (c.fact 38 rfl),
    m_tuple := He.free_ok X G (c.fact 39 rfl) }
  have e := hfa.symm.trans (He.glo_ok X G (c.fact 26 (f := .glo "law") rfl))
  cases e
  have b := FunD.bindsA (ps := ["_law_script"]) F_law fun _ _ _ _ _ _ us hl => match us, hl with | [_], _ => rfl
  exact ⟨q_law, fun s v => b s [v] rfl, fun base _ _ => ok_law T⟩
end Hd
open PySem PySem.W PySem.Calls PyProof.Rows
set_option maxHeartbeats 0 in
theorem PySem.Challenge.cw_duepairs_k02_behind_and_room_holds : PySem.Challenge.rw_duepairs_k02_behind_and_room.Holds := by
  w_on; o_law
  refine HandSHeadRun.head_any (r := OpenLaw.row PySem.Challenge.rw_duepairs_k02_behind_and_room) (q := view (OpenLaw.row PySem.Challenge.rw_duepairs_k02_behind_and_room).prog [35]) (H := Hd.hk) (ob := Hd.ob) (M := 3000) (loose := Hd.loose) (d := HandSHeadRun.topDef (OpenLaw.row PySem.Challenge.rw_duepairs_k02_behind_and_room).prog 35) (kwd := []) Hd.ob_eq
    (by kernel_rfl) (fun s => by kernel_rfl) Hd.run (by kernel_rfl) (by kernel_rfl) (by kernel_rfl) (by rfl) (by first | assumption | decide +kernel) (by decide +kernel) ⟨rfl, rfl, rfl, rfl, rfl, by decide +kernel⟩ ?hw ?hc
  case hw => w_witness2
  case hc =>
    refine Dd.walk_ofG (l := PySem.Challenge.rw_duepairs_k02_behind_and_room) (n := 63) (k := 8) (v0 := "_law_script") rfl (by decide) (by kernel_rfl) ⟨rfl, by decide, by decide⟩ ?F
    intro w mg fa h Y G hmg0
    obtain ⟨K, KX, c⟩ := Y
    have hmg : mg ("law" : PySem.Str) = some (.ref fa) := by
      have e : (HandSHeadRun.topDef (OpenLaw.row PySem.Challenge.rw_duepairs_k02_behind_and_room).prog 35).name = ("law" : PySem.Str) := by kernel_rfl
      rw [← e]
      exact hmg0
    obtain ⟨fd, hb, hF⟩ := Hd.facts (P := (PySem.Challenge.rw_duepairs_k02_behind_and_room).prog) (w := w) KX G hmg c
    exact ⟨K, fd, Dd.sp_law K, KX, hb, fun H a ns hl hS => ⟨a, ns, rfl, hS, hl, fun _ => rfl⟩, hF⟩
