import PyProof.Rows.All
import Wide.All
import OpenK.AllK
import Wide.FinOn
import HandS.ForMost
import HandS.ForExc
import HandS.Evl
import HandS.IsInst
import HandS.More
import HandS.TupAny
import HandS.Deep
import HandS.TupSets
import HandS.DictComp
import HandS.SortInts
import HandS.SetFor
import HandS.Wide
import HandS.EndBits
import HandS.Conv
import HandS.Head0
import HandS.Head1
import HandS.Head2
import HandS.HeadEnd
import HandS.HeadHook1
import HandS.HeadHook2
import HandS.Defaults
import PyProof.ReprRoads
import HandS.NoneIn
import HandS.Lambda
import HandS.EndTab
import HandS.HeadWalk
import HandS.ExcIs
import KE.KExcIs
import HandS.Style
import HandS.Walk
import HandS.CallSlots
import HandS.SortRule
import HandS.Iter
import KE.KLam
import KE.SortKeyHeap
import HandS.ExcOwn
import HandS.ExcInit
import HandS.TryOnly
import KE.KDictWalk
import HandS.DictTup
import PyProof.WalkInts
import HandS.Flow
import HandS.Text
import HandS.ExcField
import PyProof.StrOps2
import HandS.Codes
import PySem.Challenge.RW_duepairs_k63_texts_of_no_lines
set_option Elab.async false
set_option linter.all false
set_option maxRecDepth 100000
set_option maxHeartbeats 4000000
/-! Data in a heap; steps of the world. -/
namespace R
open PySem PySem.Spec PyProof.Rows L2
open Evl (Ex)
/-- the text's facts that the interpreter wants: the written part, where the classes stand, the tables of code objects -/
structure Gs where
  K : PySem.W.Frag
  cl : Str → Addr
/-- the table of the one def that makes a lambda stands at the name ?tab (0: there is none) -/
def lamTab : Str := "?tab"
def lamQ : Str := "by_dues.<locals>.<lambda>"
def Gs.T (G : Gs) : List (Addr × Str) := if G.cl lamTab = 0 then [] else [(G.cl lamTab, lamQ)]
/-- a caught exception's object, its class and dict -/
def ExK (cls : Value) (d : Option Addr) (a : Addr) : HO := .ext fun h => ∃ (oe : Obj) (vs : Array Value), h.get? a = some oe ∧ Zc cls d oe ∧ oe.data = .fields vs
/-- .. as data: its class's name, its attributes -/
def excD (c : Str) (fs : List (Str × PyData)) : PyData := .dict ((.str "", .str c) :: fs.map fun p => (.str p.1, p.2))
/-- what is known of a class of exceptions -/
def btys : List String := ["int", "bool", "tuple", "list", "str"]
structure XcOk (G : Gs) (c : Str) : Prop where
  ex : ExcC G.K (G.cl c)
  bt : ∀ T ∈ btys, PySem.W.kitOne G.K (.ref (G.cl c)) (.type T) = some false
mutual
/-- a value of the heap F read as data: lists and tuples that stand in F by themselves -/
inductive Dq (G : Gs) (F : Hp) : V → PyData → Prop
  | non : Dq G F .non .none
  | bl (b : Bool) : Dq G F (.bl b) (.bool b)
  | int (i : Int) : Dq G F (.int i) (.int i)
  | str (x : Str) : Dq G F (.str x) (.str x)
  | lst {a : Addr} {xs : List V} {ds : List PyData} : F a = some (.lst xs) → DqAll G F xs ds → Dq G F (.ref a) (.list ds)
  | tup {a : Addr} {xs : List V} {ds : List PyData} : F a = some (.tup xs) → DqAll G F xs ds → Dq G F (.ref a) (.tuple ds)
  | exc {a : Addr} {c : Str} : F a = some (ExK (.ref (G.cl c)) none a) → XcOk G c → Dq G F (.ref a) (excD c [])
  | exf {a b : Addr} {c : Str} {ns : List Str} {vs : List V} {ds : List PyData} : F a = some (ExK (.ref (G.cl c)) (some b) a) → F b = some (.xd (ns.zip vs)) → ns.length = vs.length → DqAll G F vs ds → XcOk G c → Dq G F (.ref a) (excD c (ns.zip ds))
inductive DqAll (G : Gs) (F : Hp) : List V → List PyData → Prop
  | nil : DqAll G F [] []
  | cons {v : V} {vs : List V} {d : PyData} {ds : List PyData} : Dq G F v d → DqAll G F vs ds → DqAll G F (v :: vs) (d :: ds)
end
variable {G : Gs} {F H F2 H2 F3 H3 : Hp} {M : Addr → Prop}
theorem ex_free (e : Ex F H) {p : Addr} (h : H p = none) : F p = none := Evl.fresh_back e h
theorem sqL {a : Addr} {xs : List V} {K : PySem.W.Frag} (h : F a = some (.lst xs)) : SqL K F a xs := .inl (.inl h)
theorem sqT {a : Addr} {xs : List V} {K : PySem.W.Frag} (h : F a = some (.tup xs)) : SqT K F a xs := .inl (.inl h)
mutual
/-- data without an exception in it -/
def nx : PyData → Bool
  | .list ds => nxs ds
  | .tuple ds => nxs ds
  | .dict _ => false
  | _ => true
def nxs : List PyData → Bool
  | [] => true
  | d :: ds => nx d && nxs ds
end
mutual
theorem nx_lay : ∀ {d : PyData}, d.canLay0 = true → nx d = true
  | .none, _ => by simp [nx]
  | .bool _, _ => by simp [nx]
  | .int _, _ => by simp [nx]
  | .str _, _ => by simp [nx]
  | .list ds, h => by
    simp only [PyData.canLay0] at h
    simp only [nx]
    exact nxs_lay h
  | .tuple ds, h => by
    simp only [PyData.canLay0] at h
    simp only [nx]
    exact nxs_lay h
  | .dict _, h => by simp [PyData.canLay0] at h
theorem nxs_lay : ∀ {ds : List PyData}, PyData.canLayAll0 ds = true → nxs ds = true
  | [], _ => by simp [nxs]
  | d :: ds, h => by
    simp only [PyData.canLayAll0, Bool.and_eq_true] at h
    simp only [nxs, Bool.and_eq_true]
    exact ⟨nx_lay h.1, nxs_lay h.2⟩
end
theorem nx_shaped {d : PyData} (h : SeqAt.shaped d = true) : nx d = true := by
  unfold SeqAt.shaped at h
  rw [Bool.and_eq_true] at h
  exact nx_lay h.1
mutual
theorem Dq.p {K : PySem.W.Frag} : ∀ {v : V} {d : PyData}, Dq G F v d → nx d = true → L2.Dp K F v d
  | _, _, .non, _ => .non
  | _, _, .bl b, _ => .bl b
  | _, _, .int i, _ => .int i
  | _, _, .str x, _ => .str x
  | _, _, .lst h1 h2, q => .lst (sqL h1) (DqAll.p h2 (by simpa only [nx] using q))
  | _, _, .tup h1 h2, q => .tup (sqT h1) (DqAll.p h2 (by simpa only [nx] using q))
  | _, _, .exc _ _, q => by simp [excD, nx] at q
  | _, _, .exf _ _ _ _ _, q => by simp [excD, nx] at q
theorem DqAll.p {K : PySem.W.Frag} : ∀ {vs : List V} {ds : List PyData}, DqAll G F vs ds → nxs ds = true → L2.DpAll K F vs ds
  | _, _, .nil, _ => .nil
  | _, _, .cons h1 h2, q => by
    simp only [nxs, Bool.and_eq_true] at q
    exact .cons (Dq.p h1 q.1) (DqAll.p h2 q.2)
end
mutual
theorem dq_up (e : Ex F F2) : ∀ {v : V} {d : PyData}, Dq G F v d → Dq G F2 v d
  | _, _, .non => .non
  | _, _, .bl b => .bl b
  | _, _, .int i => .int i
  | _, _, .str x => .str x
  | _, _, .lst h1 h2 => .lst (e _ _ h1) (dqa_up e h2)
  | _, _, .tup h1 h2 => .tup (e _ _ h1) (dqa_up e h2)
  | _, _, .exc h1 x => .exc (e _ _ h1) x
  | _, _, .exf h1 h2 h3 h4 x => .exf (e _ _ h1) (e _ _ h2) h3 (dqa_up e h4) x
theorem dqa_up (e : Ex F F2) : ∀ {vs : List V} {ds : List PyData}, DqAll G F vs ds → DqAll G F2 vs ds
  | _, _, .nil => .nil
  | _, _, .cons h1 h2 => .cons (dq_up e h1) (dqa_up e h2)
end
theorem dq_non {v : V} (h : Dq G F v .none) : v = .non := by cases h; rfl
theorem dq_bl {v : V} {b : Bool} (h : Dq G F v (.bool b)) : v = .bl b := by cases h; rfl
theorem dq_int {v : V} {i : Int} (h : Dq G F v (.int i)) : v = .int i := by cases h; rfl
theorem dq_str {v : V} {x : Str} (h : Dq G F v (.str x)) : v = .str x := by cases h; rfl
theorem dq_lst {v : V} {ds : List PyData} (h : Dq G F v (.list ds)) : ∃ a xs, v = .ref a ∧ F a = some (.lst xs) ∧ DqAll G F xs ds := by
  cases h with
  | lst hs ha => exact ⟨_, _, rfl, hs, ha⟩
theorem dq_tup {v : V} {ds : List PyData} (h : Dq G F v (.tuple ds)) : ∃ a xs, v = .ref a ∧ F a = some (.tup xs) ∧ DqAll G F xs ds := by
  cases h with
  | tup hs ha => exact ⟨_, _, rfl, hs, ha⟩
theorem dqa_len : ∀ {vs : List V} {ds : List PyData}, DqAll G F vs ds → vs.length = ds.length
  | _, _, .nil => rfl
  | _, _, .cons _ h2 => congrArg (· + 1) (dqa_len h2)
theorem dqa_get : ∀ {vs : List V} {ds : List PyData} {i : Nat} {d : PyData}, DqAll G F vs ds → ds[i]? = some d → ∃ v, vs[i]? = some v ∧ Dq G F v d
  | _, _, _, _, .nil, e => by simp at e
  | _, _, 0, _, .cons h1 h2, e => by simp at e; subst e; exact ⟨_, rfl, h1⟩
  | _, _, i + 1, x, .cons h1 h2, e => by
    obtain ⟨v, q1, q2⟩ := dqa_get (i := i) (d := x) h2 (by simpa using e)
    exact ⟨v, by simpa using q1, q2⟩
theorem dqa_app : ∀ {vs ws : List V} {ds es : List PyData}, DqAll G F vs ds → DqAll G F ws es → DqAll G F (vs ++ ws) (ds ++ es)
  | _, _, _, _, .nil, g => g
  | _, _, _, _, .cons h1 h2, g => .cons h1 (dqa_app h2 g)
theorem dqa_set {v : V} {d : PyData} (q : Dq G F v d) : ∀ {vs : List V} {ds : List PyData} (i : Nat), DqAll G F vs ds → DqAll G F (vs.set i v) (ds.set i d)
  | _, _, _, .nil => .nil
  | _, _, 0, .cons _ h2 => .cons q h2
  | _, _, i + 1, .cons h1 h2 => .cons h1 (dqa_set q i h2)
theorem dqa_take : ∀ {vs : List V} {ds : List PyData} (n : Nat), DqAll G F vs ds → DqAll G F (vs.take n) (ds.take n)
  | _, _, 0, _ => .nil
  | _, _, n + 1, .nil => .nil
  | _, _, n + 1, .cons h1 h2 => .cons h1 (dqa_take n h2)
theorem dqa_drop : ∀ {vs : List V} {ds : List PyData} (n : Nat), DqAll G F vs ds → DqAll G F (vs.drop n) (ds.drop n)
  | _, _, 0, h => h
  | _, _, n + 1, .nil => .nil
  | _, _, n + 1, .cons h1 h2 => dqa_drop n h2
theorem dqa_map {α : Type} {f : α → PyData} {g : α → V} (hfg : ∀ a v, Dq G F v (f a) → v = g a) : ∀ {vs : List V} {ns : List α}, DqAll G F vs (ns.map f) → vs = ns.map g
  | _, [], h => by cases h; rfl
  | _, n :: ns, h => by
    cases h with
    | cons h1 h2 => rw [hfg n _ h1, dqa_map hfg h2]; rfl
theorem dqa_of {α : Type} {f : α → PyData} {g : α → V} (hfg : ∀ a, Dq G F (g a) (f a)) : ∀ (ns : List α), DqAll G F (ns.map g) (ns.map f)
  | [] => .nil
  | n :: ns => .cons (hfg n) (dqa_of hfg ns)
theorem dqa_ints' {vs : List V} {ns : List Int} (h : DqAll G F vs (ns.map PyData.int)) : vs = ns.map V.int := dqa_map (fun _ _ h => dq_int h) h
theorem dqa_bls' {vs : List V} {ns : List Bool} (h : DqAll G F vs (ns.map PyData.bool)) : vs = ns.map V.bl := dqa_map (fun _ _ h => dq_bl h) h
theorem dqa_strs' {vs : List V} {ns : List Str} (h : DqAll G F vs (ns.map PyData.str)) : vs = ns.map V.str := dqa_map (fun _ _ h => dq_str h) h
theorem dqa_at {vs : List V} {ds : List PyData} {i : Int} {d : PyData} (h : DqAll G F vs ds) (e : atI ds i = some d) : ∃ v, atI vs i = some v ∧ Dq G F v d := by
  unfold atI at e ⊢
  rw [dqa_len h]
  cases q : ixN ds.length i with
  | none => rw [q] at e; cases e
  | some j =>
    rw [q] at e
    exact dqa_get h e
/-! data without a list in it stands by tuples alone -/
mutual
def lf : PyData → Bool
  | .list _ => false
  | .tuple ds => lfs ds
  | .dict _ => false
  | _ => true
def lfs : List PyData → Bool
  | [] => true
  | d :: ds => lf d && lfs ds
end
/-- F without the lists at l -/
def cutF (F : Hp) (l : List Addr) : Hp := fun a => if a ∈ l then none else F a
theorem cutF_ex {l : List Addr} : Ex (cutF F l) F := fun a o h => by
  unfold cutF at h
  split at h
  · cases h
  · exact h
theorem tup_cut {l : List Addr} {a : Addr} {xs : List V} (hl : ∀ a ∈ l, ∃ ys, F a = some (.lst ys)) (h : F a = some (.tup xs)) : cutF F l a = some (.tup xs) := by
  unfold cutF
  split
  · rename_i hm
    obtain ⟨ys, hy⟩ := hl a hm
    rw [h] at hy; cases hy
  · exact h
mutual
theorem dq_cut {l : List Addr} (hl : ∀ a ∈ l, ∃ ys, F a = some (.lst ys)) : ∀ {v : V} {d : PyData}, Dq G F v d → lf d = true → Dq G (cutF F l) v d
  | _, _, .non, _ => .non
  | _, _, .bl b, _ => .bl b
  | _, _, .int i, _ => .int i
  | _, _, .str x, _ => .str x
  | _, _, .lst h1 h2, q => by simp [lf] at q
  | _, _, .tup h1 h2, q => .tup (tup_cut hl h1) (dqa_cut hl h2 (by simpa [lf] using q))
  | _, _, .exc h1 _, q => by simp [excD, lf] at q
  | _, _, .exf _ _ _ _ _, q => by simp [excD, lf] at q
theorem dqa_cut {l : List Addr} (hl : ∀ a ∈ l, ∃ ys, F a = some (.lst ys)) : ∀ {vs : List V} {ds : List PyData}, DqAll G F vs ds → lfs ds = true → DqAll G (cutF F l) vs ds
  | _, _, .nil, _ => .nil
  | _, _, .cons (d := d) (ds := ds) h1 h2, q => by
    have q' : lf d = true ∧ lfs ds = true := by simpa [lfs] using q
    exact .cons (dq_cut hl h1 q'.1) (dqa_cut hl h2 q'.2)
end
/-! ### steps of the world -/
/-- no table of code objects -/
def noT : HO → Bool
  | .tbl _ => false
  | _ => true
/-- neither that nor what is told by a word of one's own -/
def plnO : HO → Bool
  | .tbl _ => false
  | .ext _ => false
  | _ => true
abbrev TabS := LamX.TabS
theorem tab_wr {p P : Addr} {q : Str} {o : HO} (hp : ∀ u, H p = some u → plnO u = true) (t : TabS H P q) : TabS (upd H p o) P q := by
  obtain ⟨ps, h1, h2, h3⟩ := t
  have n : P ≠ p := fun z => by
    subst z
    have := hp _ h1
    cases this
  refine ⟨ps, by rw [upd_ne n]; exact h1, h2, fun pos cv hc => ?_⟩
  obtain ⟨c, e1, e2⟩ := h3 pos cv hc
  refine ⟨c, e1, ?_⟩
  rw [upd_ne fun z => by
    subst z
    have := hp _ e2
    unfold LamX.CodeO at this
    cases this]
  exact e2
/-- the one table, nothing of the kind is frozen -/
def TbF (F H : Hp) (P : Addr) (_q : Str) : Prop := TabS H P lamQ ∧ (∀ a ps, F a ≠ some (.tbl ps)) ∧ ∀ a ps, H a = some (.tbl ps) → a = P
theorem upd_only {H : Hp} {p P : Addr} {o : HO} (h : ∀ a ps, H a = some (.tbl ps) → a = P) (ho : noT o = true) : ∀ a ps, upd H p o a = some (.tbl ps) → a = P := fun a ps z => by
  by_cases c : a = p
  · subst c
    rw [upd_same] at z
    cases z
    cases ho
  · rw [upd_ne c] at z
    exact h a ps z
theorem upd_nt {F : Hp} {p : Addr} {o : HO} (h : ∀ a ps, F a ≠ some (.tbl ps)) (ho : noT o = true) : ∀ a ps, upd F p o a ≠ some (.tbl ps) := fun a ps z => by
  by_cases c : a = p
  · subst c
    rw [upd_same] at z
    cases z
    cases ho
  · rw [upd_ne c] at z
    exact h a ps z
theorem TbF.ne {P p : Addr} {q : Str} (t : TbF F H P q) {u : HO} (h : H p = some u) (hu : noT u = true) : P ≠ p := fun z => by
  subst z
  obtain ⟨⟨ps, h1, _⟩, _⟩ := t
  rw [h] at h1
  cases h1
  cases hu
theorem TbF.new {P p : Addr} {q : Str} (t : TbF F H P q) (h : H p = none) : P ≠ p := fun z => by
  subst z
  obtain ⟨⟨ps, h1, _⟩, _⟩ := t
  rw [h] at h1
  cases h1
/-- what can be changed: neither a tuple nor a table -/
def noU : HO → Bool
  | .tbl _ => false
  | .tup _ => false
  | _ => true
theorem noU_T {o : HO} (h : noU o = true) : noT o = true := by cases o <;> first | rfl | cases h
/-- one step of the world: H grows to H2 but at M, the frozen part F grows to F2 -/
structure NxM (M : Addr → Prop) (F H F2 H2 : Hp) : Prop where
  h : ∀ a o, ¬ M a → H a = some o → noT o = true → H2 a = some o
  f : Ex F F2
  k : Ex F2 H2
  ap : ∀ a o, ¬ M a → F a = none → H a = some o → noU o = true → F2 a = none
  th : ∀ a, H a ≠ none → H2 a ≠ none
  tb : ∀ P q, TbF F H P q → TbF F2 H2 P q
def M0 : Addr → Prop := fun _ => False
abbrev Nx := NxM M0
theorem ne_some {a : Addr} {o : HO} (h : H a = some o) : H a ≠ none := by rw [h]; simp
theorem NxM.refl (k : Ex F H) : NxM M F H F H := ⟨fun _ _ _ h _ => h, Ex.refl F, k, fun _ _ _ h _ _ => h, fun _ h => h, fun _ _ h => h⟩
theorem NxM.trans {F1 H1 : Hp} (a : NxM M F H F1 H1) (b : NxM M F1 H1 F2 H2) : NxM M F H F2 H2 :=
  ⟨fun x o n h w => b.h x o n (a.h x o n h w) w, a.f.trans b.f, b.k, fun x o m h1 h2 w => b.ap x o m (a.ap x o m h1 h2 w) (a.h x o m h2 (noU_T w)) w, fun x h => b.th x (a.th x h), fun P q h => b.tb P q (a.tb P q h)⟩
/-- .. the second one may write what is new -/
theorem NxM.then {M' : Addr → Prop} {F1 H1 : Hp} (a : NxM M F H F1 H1) (b : NxM M' F1 H1 F2 H2) (s : ∀ x, M' x → M x ∨ H x = none) : NxM M F H F2 H2 :=
  ⟨fun x o n h w => b.h x o (fun z => (s x z).elim n fun w => by rw [h] at w; cases w) (a.h x o n h w) w, a.f.trans b.f, b.k, fun x o m h1 h2 w => b.ap x o (fun z => (s x z).elim m (ne_some h2)) (a.ap x o m h1 h2 w) (a.h x o m h2 (noU_T w)) w, fun x h => b.th x (a.th x h), fun P q h => b.tb P q (a.tb P q h)⟩
theorem NxM.to {M' : Addr → Prop} (n : NxM M F H F2 H2) (s : ∀ a, M a → M' a) : NxM M' F H F2 H2 := ⟨fun a o q e => n.h a o (fun z => q (s a z)) e, n.f, n.k, fun a o m => n.ap a o fun z => m (s a z), n.th, n.tb⟩
theorem Nx.toM (n : Nx F H F2 H2) : NxM M F H F2 H2 := n.to fun _ z => z.elim
theorem th_none (n : NxM M F H F2 H2) {a : Addr} (h : H2 a = none) : H a = none := by
  cases q : H a with
  | none => rfl
  | some o => exact absurd h (n.th a (ne_some q))
/-- a new object, frozen at once -/
theorem Nx.new {p : Addr} {o : HO} (k : Ex F H) (h : H p = none) (ho : noT o = true := by rfl) : Nx F H (upd F p o) (upd H p o) := by
  have hF := ex_free k h
  refine ⟨fun a u _ e _ => ?_, Evl.Ex.new hF, fun a u e => ?_, fun a u _ h1 h2 _ => ?_, fun a h2 => ?_, fun P q t => ⟨tab_wr (fun u hu => by rw [h] at hu; cases hu) t.1, upd_nt t.2.1 ho, upd_only t.2.2 ho⟩⟩
  · rw [upd_ne (ne_of_none e h)]; exact e
  · by_cases c : a = p
    · subst c; rw [upd_same] at e ⊢; exact e
    · rw [upd_ne c] at e ⊢; exact k a u e
  · have c : a ≠ p := fun z => by subst z; rw [h] at h2; cases h2
    rw [upd_ne c]; exact h1
  · have c : a ≠ p := fun z => by subst z; exact h2 h
    rw [upd_ne c]; exact h2
/-- a new object that may be changed later -/
theorem Nx.mut {p : Addr} {o : HO} (k : Ex F H) (h : H p = none) (ho : noT o = true := by rfl) : Nx F H F (upd H p o) := by
  have hF := ex_free k h
  refine ⟨fun a u _ e _ => ?_, Ex.refl F, fun a u e => ?_, fun _ _ _ h1 _ _ => h1, fun a h2 => ?_, fun P q t => ⟨tab_wr (fun u hu => by rw [h] at hu; cases hu) t.1, t.2.1, upd_only t.2.2 ho⟩⟩
  · rw [upd_ne (ne_of_none e h)]; exact e
  · rw [upd_ne (ne_of_none e hF)]; exact k a u e
  · have c : a ≠ p := fun z => by subst z; exact h2 h
    rw [upd_ne c]; exact h2
/-- a change at an address that is not frozen -/
theorem NxM.wr {p : Addr} {o u0 : HO} (k : Ex F H) (hm : M p) (h : F p = none) (h0 : H p = some u0) (hu : plnO u0 = true) (ho : noT o = true := by rfl) : NxM M F H F (upd H p o) := by
  refine ⟨fun a u hn e _ => ?_, Ex.refl F, fun a u e => ?_, fun _ _ _ h1 _ _ => h1, fun a h2 => ?_, fun P q t => ⟨tab_wr (fun u h1 => by rw [h0] at h1; cases h1; exact hu) t.1, t.2.1, upd_only t.2.2 ho⟩⟩
  · have c : a ≠ p := fun z => by subst z; exact hn hm
    rw [upd_ne c]; exact e
  · rw [upd_ne (ne_of_none e h)]; exact k a u e
  · by_cases c : a = p
    · subst c; rw [upd_same]; simp
    · rw [upd_ne c]; exact h2
/-- what stands at p is frozen from here on -/
theorem NxM.fz {p : Addr} {o : HO} (k : Ex F H) (hm : M p) (h : H p = some o) (hF : F p = none) (ho : noT o = true) : NxM M F H (upd F p o) H := by
  refine ⟨fun _ _ _ e _ => e, Evl.Ex.new hF, fun a u e => ?_, fun a _ m h1 h2 _ => ?_, fun _ h => h, fun P q t => ⟨t.1, upd_nt t.2.1 ho, t.2.2⟩⟩
  · by_cases c : a = p
    · subst c; rw [upd_same] at e; cases e; exact h
    · rw [upd_ne c] at e; exact k a u e
  · have c : a ≠ p := fun z => by subst z; exact m hm
    rw [upd_ne c]; exact h1
end R

/-! Trees of things that are owned; slots; steps of a def. -/
namespace R
open PySem PySem.Spec PyProof.Rows L2
open Evl (Ex)
variable {G : Gs} {F H F2 H2 F3 H3 : Hp} {M : Addr → Prop}
/-- what a slot holds: nothing, frozen data, a list of data of one's own, a list or tuple of trees, a dict, an object -/
inductive Tr where
  | un
  | dat (d : PyData)
  | own (ds : List PyData)
  | lst (ts : List Tr)
  | tup (ts : List Tr)
  | dic (kvs : List (Key × PyData))
  | dit (kvs : List (List Key × PyData))
  | obj (c : Str) (fs : List (Str × Tr))
  | scr (ns : List Int)
def KvR {κ : Type} (G : Gs) (F : Hp) : List (κ × V) → List (κ × PyData) → Prop
  | [], [] => True
  | (k, v) :: r, (k', d) :: r' => k = k' ∧ Dq G F v d ∧ KvR G F r r'
  | _, _ => False
theorem KvR.up {κ : Type} (e : Ex F F2) : ∀ {vs : List (κ × V)} {xs : List (κ × PyData)}, KvR G F vs xs → KvR G F2 vs xs
  | [], [], _ => trivial
  | (_, _) :: _, (_, _) :: _, ⟨q, h1, h2⟩ => ⟨q, dq_up e h1, KvR.up e h2⟩
  | [], _ :: _, h => h.elim
  | _ :: _, [], h => h.elim
mutual
inductive TR (G : Gs) (F H : Hp) : V → Tr → List Addr → Prop
  | un (v : V) : TR G F H v .un []
  | dat {v : V} {d : PyData} : Dq G F v d → TR G F H v (.dat d) []
  | own {a : Addr} {xs : List V} {ds : List PyData} : F a = none → H a = some (.lst xs) → DqAll G F xs ds → TR G F H (.ref a) (.own ds) [a]
  | lst {a : Addr} {xs : List V} {ts : List Tr} {l : List Addr} : F a = none → H a = some (.lst xs) → TRs G F H xs ts l → TR G F H (.ref a) (.lst ts) (a :: l)
  | tup {a : Addr} {xs : List V} {ts : List Tr} {l : List Addr} : F a = some (.tup xs) → TRs G F H xs ts l → TR G F H (.ref a) (.tup ts) l
  | dic {a : Addr} {ks : List (Key × V)} {kvs : List (Key × PyData)} : F a = none → H a = some (.dK ks) → KvR G F ks kvs → TR G F H (.ref a) (.dic kvs) [a]
  | dit {a : Addr} {ks : List (List Key × V)} {kvs : List (List Key × PyData)} : F a = none → H a = some (.dT ks) → KvR G F ks kvs → TR G F H (.ref a) (.dit kvs) [a]
  | obj {a dx : Addr} {c : Str} {vs : List (Str × V)} {fs : List (Str × Tr)} {l : List Addr} : F a = none → F dx = none → H a = some (.ins (G.cl c) dx vs) → H dx = some (.own a) → FRs G F H vs fs l → TR G F H (.ref a) (.obj c fs) (a :: dx :: l)
  | scr {a : Addr} {ns : List Int} : SqL G.K F a (ns.map V.int) → TR G F H (.ref a) (.scr ns) []
inductive TRs (G : Gs) (F H : Hp) : List V → List Tr → List Addr → Prop
  | nil : TRs G F H [] [] []
  | cons {v : V} {vs : List V} {t : Tr} {ts : List Tr} {l m : List Addr} : TR G F H v t l → TRs G F H vs ts m → TRs G F H (v :: vs) (t :: ts) (l ++ m)
inductive FRs (G : Gs) (F H : Hp) : List (Str × V) → List (Str × Tr) → List Addr → Prop
  | nil : FRs G F H [] [] []
  | cons {n : Str} {v : V} {vs : List (Str × V)} {t : Tr} {ts : List (Str × Tr)} {l m : List Addr} : TR G F H v t l → FRs G F H vs ts m → FRs G F H ((n, v) :: vs) ((n, t) :: ts) (l ++ m)
end
mutual
theorem TR.nx (n : NxM M F H F2 H2) : ∀ {v : V} {t : Tr} {l : List Addr}, TR G F H v t l → (∀ a ∈ l, ¬ M a) → TR G F2 H2 v t l
  | _, _, _, .un v, _ => .un v
  | _, _, _, .dat h, _ => .dat (dq_up n.f h)
  | _, _, _, .own h1 h2 h3, m => .own (n.ap _ _ (m _ (List.mem_singleton.mpr rfl)) h1 h2 rfl) (n.h _ _ (m _ (List.mem_singleton.mpr rfl)) h2 rfl) (dqa_up n.f h3)
  | _, _, _, .lst h1 h2 h3, m => .lst (n.ap _ _ (m _ List.mem_cons_self) h1 h2 rfl) (n.h _ _ (m _ List.mem_cons_self) h2 rfl) (TRs.nx n h3 fun a ha => m a (List.mem_cons_of_mem _ ha))
  | _, _, _, .tup h1 h2, m => .tup (n.f _ _ h1) (TRs.nx n h2 m)
  | _, _, _, .dic h1 h2 h3, m => .dic (n.ap _ _ (m _ (List.mem_singleton.mpr rfl)) h1 h2 rfl) (n.h _ _ (m _ (List.mem_singleton.mpr rfl)) h2 rfl) (h3.up n.f)
  | _, _, _, .dit h1 h2 h3, m => .dit (n.ap _ _ (m _ (List.mem_singleton.mpr rfl)) h1 h2 rfl) (n.h _ _ (m _ (List.mem_singleton.mpr rfl)) h2 rfl) (h3.up n.f)
  | _, _, _, .obj h1 h2 h3 h4 h5, m => .obj (n.ap _ _ (m _ List.mem_cons_self) h1 h3 rfl) (n.ap _ _ (m _ (List.mem_cons_of_mem _ List.mem_cons_self)) h2 h4 rfl) (n.h _ _ (m _ List.mem_cons_self) h3 rfl) (n.h _ _ (m _ (List.mem_cons_of_mem _ List.mem_cons_self)) h4 rfl)
      (FRs.nx n h5 fun a ha => m a (List.mem_cons_of_mem _ (List.mem_cons_of_mem _ ha)))
  | _, _, _, .scr h, _ => .scr (Evl.ex_l n.f h)
theorem TRs.nx (n : NxM M F H F2 H2) : ∀ {vs : List V} {ts : List Tr} {l : List Addr}, TRs G F H vs ts l → (∀ a ∈ l, ¬ M a) → TRs G F2 H2 vs ts l
  | _, _, _, .nil, _ => .nil
  | _, _, _, .cons h1 h2, m => .cons (TR.nx n h1 fun a ha => m a (List.mem_append_left _ ha)) (TRs.nx n h2 fun a ha => m a (List.mem_append_right _ ha))
theorem FRs.nx (n : NxM M F H F2 H2) : ∀ {vs : List (Str × V)} {ts : List (Str × Tr)} {l : List Addr}, FRs G F H vs ts l → (∀ a ∈ l, ¬ M a) → FRs G F2 H2 vs ts l
  | _, _, _, .nil, _ => .nil
  | _, _, _, .cons h1 h2, m => .cons (TR.nx n h1 fun a ha => m a (List.mem_append_left _ ha)) (FRs.nx n h2 fun a ha => m a (List.mem_append_right _ ha))
end
mutual
theorem TR.adr : ∀ {v : V} {t : Tr} {l : List Addr}, TR G F H v t l → ∀ a ∈ l, F a = none ∧ H a ≠ none
  | _, _, _, .un v, _, z => nomatch z
  | _, _, _, .dat h, _, z => nomatch z
  | _, _, _, .own h1 h2 h3, b, z => by rw [List.mem_singleton.mp z]; exact ⟨h1, ne_some h2⟩
  | _, _, _, .lst h1 h2 h3, b, z => by
    rcases List.mem_cons.mp z with rfl | z
    · exact ⟨h1, ne_some h2⟩
    · exact TRs.adr h3 b z
  | _, _, _, .tup h1 h2, b, z => TRs.adr h2 b z
  | _, _, _, .dic h1 h2 h3, b, z => by rw [List.mem_singleton.mp z]; exact ⟨h1, ne_some h2⟩
  | _, _, _, .dit h1 h2 h3, b, z => by rw [List.mem_singleton.mp z]; exact ⟨h1, ne_some h2⟩
  | _, _, _, .obj h1 h2 h3 h4 h5, b, z => by
    rcases List.mem_cons.mp z with rfl | z
    · exact ⟨h1, ne_some h3⟩
    · rcases List.mem_cons.mp z with rfl | z
      · exact ⟨h2, ne_some h4⟩
      · exact FRs.adr h5 b z
  | _, _, _, .scr h, _, z => nomatch z
theorem TRs.adr : ∀ {vs : List V} {ts : List Tr} {l : List Addr}, TRs G F H vs ts l → ∀ a ∈ l, F a = none ∧ H a ≠ none
  | _, _, _, .nil, _, z => nomatch z
  | _, _, _, .cons h1 h2, b, z => by
    rcases List.mem_append.mp z with z | z
    · exact TR.adr h1 b z
    · exact TRs.adr h2 b z
theorem FRs.adr : ∀ {vs : List (Str × V)} {ts : List (Str × Tr)} {l : List Addr}, FRs G F H vs ts l → ∀ a ∈ l, F a = none ∧ H a ≠ none
  | _, _, _, .nil, _, z => nomatch z
  | _, _, _, .cons h1 h2, b, z => by
    rcases List.mem_append.mp z with z | z
    · exact TR.adr h1 b z
    · exact FRs.adr h2 b z
end
mutual
theorem TR.ntb : ∀ {v : V} {t : Tr} {l : List Addr}, TR G F H v t l → ∀ a ∈ l, ∀ ps, H a ≠ some (.tbl ps)
  | _, _, _, .un v, _, z => nomatch z
  | _, _, _, .dat h, _, z => nomatch z
  | _, _, _, .own h1 h2 h3, b, z => by rw [List.mem_singleton.mp z]; exact fun ps y => by rw [h2] at y; cases y
  | _, _, _, .lst h1 h2 h3, b, z => by
    rcases List.mem_cons.mp z with rfl | z
    · exact fun ps y => by rw [h2] at y; cases y
    · exact TRs.ntb h3 b z
  | _, _, _, .tup h1 h2, b, z => TRs.ntb h2 b z
  | _, _, _, .dic h1 h2 h3, b, z => by rw [List.mem_singleton.mp z]; exact fun ps y => by rw [h2] at y; cases y
  | _, _, _, .dit h1 h2 h3, b, z => by rw [List.mem_singleton.mp z]; exact fun ps y => by rw [h2] at y; cases y
  | _, _, _, .obj h1 h2 h3 h4 h5, b, z => by
    rcases List.mem_cons.mp z with rfl | z
    · exact fun ps y => by rw [h3] at y; cases y
    · rcases List.mem_cons.mp z with rfl | z
      · exact fun ps y => by rw [h4] at y; cases y
      · exact FRs.ntb h5 b z
  | _, _, _, .scr h, _, z => nomatch z
theorem TRs.ntb : ∀ {vs : List V} {ts : List Tr} {l : List Addr}, TRs G F H vs ts l → ∀ a ∈ l, ∀ ps, H a ≠ some (.tbl ps)
  | _, _, _, .nil, _, z => nomatch z
  | _, _, _, .cons h1 h2, b, z => by
    rcases List.mem_append.mp z with z | z
    · exact TR.ntb h1 b z
    · exact TRs.ntb h2 b z
theorem FRs.ntb : ∀ {vs : List (Str × V)} {ts : List (Str × Tr)} {l : List Addr}, FRs G F H vs ts l → ∀ a ∈ l, ∀ ps, H a ≠ some (.tbl ps)
  | _, _, _, .nil, _, z => nomatch z
  | _, _, _, .cons h1 h2, b, z => by
    rcases List.mem_append.mp z with z | z
    · exact TR.ntb h1 b z
    · exact FRs.ntb h2 b z
end
/-- a slot: o: one's own; r: held, to be read only -/
inductive Sl where
  | o (t : Tr)
  | r (t : Tr)
@[reducible] def Sl.t : Sl → Tr
  | .o t => t
  | .r t => t
def SlR (G : Gs) (F H : Hp) (s : Option (Option V)) (t : Tr) (l : List Addr) : Prop := (t = .un ∧ l = []) ∨ ∃ v, s = some (some v) ∧ TR G F H v t l
theorem SlR.nx {s : Option (Option V)} {t : Tr} {l : List Addr} (n : NxM M F H F2 H2) (h : SlR G F H s t l) (m : ∀ a ∈ l, ¬ M a) : SlR G F2 H2 s t l := by
  rcases h with h | ⟨v, h1, h2⟩
  · exact .inl h
  · exact .inr ⟨v, h1, h2.nx n m⟩
theorem SlR.adr {s : Option (Option V)} {t : Tr} {l : List Addr} (h : SlR G F H s t l) : ∀ a ∈ l, F a = none ∧ H a ≠ none := by
  rcases h with ⟨_, rfl⟩ | ⟨v, h1, h2⟩
  · exact fun _ z => nomatch z
  · exact h2.adr
theorem SlR.to {s : Option (Option V)} {t : Tr} {l : List Addr} (h : SlR G F H s t l) (n : t ≠ .un) : ∃ v, s = some (some v) ∧ TR G F H v t l := by
  rcases h with h | h
  · exact absurd h.1 n
  · exact h
abbrev En := List Sl
abbrev Ls := List (List Addr)
structure Env (G : Gs) (F H : Hp) (s : L2.St) (e : En) (ls : Ls) : Prop where
  len : s.length = e.length
  lenl : ls.length = e.length
  ent : ∀ (i : Nat) x l, e[i]? = some x → ls[i]? = some l → SlR G F H s[i]? x.t l
  nd : ∀ (i : Nat) l, ls[i]? = some l → l.Nodup
  ap : ∀ (i j : Nat) l m a, i ≠ j → ls[i]? = some l → ls[j]? = some m → a ∈ l → a ∉ m
  tb : ∀ p ∈ G.T, TbF F H p.1 p.2
def Ow (e : En) (ls : Ls) (a : Addr) : Prop := ∃ (i : Nat) (t : Tr) (l : List Addr), e[i]? = some (.o t) ∧ ls[i]? = some l ∧ a ∈ l
def All (ls : Ls) (a : Addr) : Prop := ∃ (i : Nat) (l : List Addr), ls[i]? = some l ∧ a ∈ l
theorem Ow.all {e : En} {ls : Ls} {a : Addr} (h : Ow e ls a) : All ls a := let ⟨i, _, l, _, h2, h4⟩ := h; ⟨i, l, h2, h4⟩
variable {s s2 s3 : L2.St} {e e2 e3 : En} {ls ls2 ls3 : Ls}
theorem Env.at (E : Env G F H s e ls) {i : Nat} {x : Sl} (h : e[i]? = some x) : ∃ l, ls[i]? = some l ∧ SlR G F H s[i]? x.t l := by
  have hi : i < ls.length := by rw [E.lenl]; exact (List.getElem?_eq_some_iff.mp h).1
  exact ⟨_, List.getElem?_eq_getElem hi, E.ent i x _ h (List.getElem?_eq_getElem hi)⟩
theorem Env.adr (E : Env G F H s e ls) {a : Addr} (h : All ls a) : F a = none ∧ H a ≠ none := by
  obtain ⟨i, l, h1, h2⟩ := h
  have hi : i < e.length := by rw [← E.lenl]; exact (List.getElem?_eq_some_iff.mp h1).1
  exact (E.ent i _ l (List.getElem?_eq_getElem hi) h1).adr a h2
theorem Env.ntb (E : Env G F H s e ls) {a : Addr} (h : All ls a) : ∀ ps, H a ≠ some (.tbl ps) := by
  obtain ⟨i, l, h1, h2⟩ := h
  have hi : i < e.length := by rw [← E.lenl]; exact (List.getElem?_eq_some_iff.mp h1).1
  rcases E.ent i _ l (List.getElem?_eq_getElem hi) h1 with ⟨_, z⟩ | ⟨v, _, w⟩
  · rw [z] at h2; cases h2
  · exact w.ntb a h2
theorem Env.nx (E : Env G F H s e ls) (n : NxM M F H F2 H2) (m : ∀ a, All ls a → ¬ M a) : Env G F2 H2 s e ls :=
  ⟨E.len, E.lenl, fun i x l h1 h2 => (E.ent i x l h1 h2).nx n fun a ha => m a ⟨i, l, h2, ha⟩, E.nd, E.ap, fun p hp => n.tb _ _ (E.tb p hp)⟩
theorem Env.n0 (E : Env G F H s e ls) (n : Nx F H F2 H2) : Env G F2 H2 s e ls := E.nx n fun _ _ z => z
/-- one construct: what it changes is owned; what is held stays -/
structure Stp (e : En) (ls : Ls) (F H : Hp) (s : L2.St) (e2 : En) (ls2 : Ls) (F2 H2 : Hp) (s2 : L2.St) : Prop where
  nx : NxM (Ow e ls) F H F2 H2
  ln : e2.length = e.length
  ow : ∀ a, Ow e2 ls2 a → Ow e ls a ∨ H a = none
  al : ∀ a, All ls2 a → All ls a ∨ H a = none
  ro : ∀ (i : Nat) t, e[i]? = some (.r t) → e2[i]? = some (.r t) ∧ s2[i]? = s[i]? ∧ ls2[i]? = ls[i]?
theorem Stp.refl (k : Ex F H) : Stp e ls F H s e ls F H s := ⟨NxM.refl k, rfl, fun _ h => .inl h, fun _ h => .inl h, fun _ _ h => ⟨h, rfl, rfl⟩⟩
theorem Stp.n0 (n : Nx F H F2 H2) : Stp e ls F H s e ls F2 H2 s := ⟨n.toM, rfl, fun _ h => .inl h, fun _ h => .inl h, fun _ _ h => ⟨h, rfl, rfl⟩⟩
theorem Stp.k (t : Stp e ls F H s e2 ls2 F2 H2 s2) : Ex F2 H2 := t.nx.k
theorem Stp.trans (a : Stp e ls F H s e2 ls2 F2 H2 s2) (b : Stp e2 ls2 F2 H2 s2 e3 ls3 F3 H3 s3) : Stp e ls F H s e3 ls3 F3 H3 s3 where
  nx := a.nx.then b.nx a.ow
  ln := b.ln.trans a.ln
  ow := fun x h => by
    rcases b.ow x h with h | h
    · exact a.ow x h
    · exact .inr (th_none a.nx h)
  al := fun x h => by
    rcases b.al x h with h | h
    · exact a.al x h
    · exact .inr (th_none a.nx h)
  ro := fun i x h => by
    obtain ⟨h1, h2, h3⟩ := a.ro i x h
    obtain ⟨g1, g2, g3⟩ := b.ro i x h1
    exact ⟨g1, g2.trans h2, g3.trans h3⟩
/-- what is apart from the slots stands through a step -/
theorem Stp.tr {v : V} {t : Tr} {l : List Addr} (a : Stp e ls F H s e2 ls2 F2 H2 s2) (h : TR G F H v t l) (hl : ∀ a ∈ l, ¬ All ls a) : TR G F2 H2 v t l ∧ ∀ a ∈ l, ¬ All ls2 a :=
  ⟨h.nx a.nx fun x hx hm => hl x hx hm.all, fun x hx hm => by
    rcases a.al x hm with z | z
    · exact hl x hx z
    · exact (h.adr x hx).2 z⟩
theorem set_at {α : Type} {l : List α} {i j : Nat} {x y : α} (q : (l.set i y)[j]? = some x) : (j = i ∧ x = y) ∨ (j ≠ i ∧ l[j]? = some x) := by
  by_cases c : i = j
  · subst c
    rw [List.getElem?_set_self'] at q
    cases h : l[i]? with
    | none => rw [h] at q; cases q
    | some z => rw [h] at q; cases q; exact .inl ⟨rfl, rfl⟩
  · rw [List.getElem?_set_ne c] at q
    exact .inr ⟨fun z => c z.symm, q⟩
theorem all_set {i : Nat} {l : List Addr} {a : Addr} (h : All (ls.set i l) a) : a ∈ l ∨ All ls a := by
  obtain ⟨j, m, h1, h2⟩ := h
  rcases set_at h1 with ⟨_, rfl⟩ | ⟨_, r⟩
  · exact .inl h2
  · exact .inr ⟨j, m, r, h2⟩
theorem ow_set {i : Nat} {x : Sl} {l : List Addr} {a : Addr} (h : Ow (e.set i x) (ls.set i l) a) : a ∈ l ∨ Ow e ls a := by
  obtain ⟨j, y, m, h1, h2, h4⟩ := h
  rcases set_at h2 with ⟨_, rfl⟩ | ⟨c, r⟩
  · exact .inl h4
  · rcases set_at h1 with ⟨c2, _⟩ | ⟨_, r1⟩
    · exact absurd c2 c
    · exact .inr ⟨j, y, m, r1, r, h4⟩
theorem set_len {α : Type} {l : List α} {i : Nat} {x : α} : (l.set i x).length = l.length := List.length_set
/-- slot i is set to a value that is apart from the rest -/
theorem Env.set {i : Nat} {v : V} {t : Tr} {l : List Addr} (E : Env G F H s e ls) (hi : i < e.length) (h : TR G F H v t l) (nd : l.Nodup) (hn : ∀ a ∈ l, ∀ (j : Nat) m, j ≠ i → ls[j]? = some m → a ∉ m) : Env G F H (s.set i (some v)) (e.set i (.o t)) (ls.set i l) := by
  refine ⟨by rw [set_len, set_len, E.len], by rw [set_len, set_len, E.lenl], fun j y m q1 q2 => ?_, fun j m q => ?_, fun j k m m' a njk q1 q2 ha => ?_, E.tb⟩
  · rcases set_at q1 with ⟨rfl, rfl⟩ | ⟨c, r⟩
    · rcases set_at q2 with ⟨_, rfl⟩ | ⟨c, _⟩
      · exact .inr ⟨v, by rw [List.getElem?_set_self (by rw [E.len]; exact hi)], h⟩
      · exact absurd rfl c
    · rcases set_at q2 with ⟨c2, _⟩ | ⟨_, r2⟩
      · exact absurd c2 c
      · rw [List.getElem?_set_ne (Ne.symm c)]; exact E.ent j y m r r2
  · rcases set_at q with ⟨_, rfl⟩ | ⟨_, r⟩
    · exact nd
    · exact E.nd j m r
  · rcases set_at q1 with ⟨rfl, rfl⟩ | ⟨c1, r1⟩
    · rcases set_at q2 with ⟨rfl, _⟩ | ⟨c2, r2⟩
      · exact absurd rfl njk
      · exact hn a ha k m' c2 r2
    · rcases set_at q2 with ⟨rfl, rfl⟩ | ⟨c2, r2⟩
      · exact fun w => hn a w j m c1 r1 ha
      · exact E.ap j k m m' a njk r1 r2 ha
/-- .. as a step: slot i is not held -/
theorem Stp.set {i : Nat} {v : V} {t : Tr} {l : List Addr} (T : Stp e ls F H s e2 ls2 F2 H2 s2) (hr : ∀ y, e2[i]? ≠ some (.r y)) (hl : ∀ a ∈ l, Ow e ls a ∨ H a = none) : Stp e ls F H s (e2.set i (.o t)) (ls2.set i l) F2 H2 (s2.set i (some v)) := by
  refine ⟨T.nx, by rw [set_len]; exact T.ln, fun a h => ?_, fun a h => ?_, fun j y h => ?_⟩
  · rcases ow_set h with z | z
    · exact hl a z
    · exact T.ow a z
  · rcases all_set h with z | z
    · rcases hl a z with w | w
      · exact .inl w.all
      · exact .inr w
    · exact T.al a z
  · obtain ⟨h1, h2, h3⟩ := T.ro j y h
    have c : i ≠ j := fun z => by subst z; exact hr y h1
    rw [List.getElem?_set_ne c, List.getElem?_set_ne c, List.getElem?_set_ne c]
    exact ⟨h1, h2, h3⟩
/-- the tree in slot i changes; the value stays -/
theorem Env.slot {i : Nat} {t : Tr} {l : List Addr} {u : V} (E : Env G F H s e ls) (hx : e[i]? = some (.o t)) (hl : ls[i]? = some l) (hs : s[i]? = some (some u)) {y : Tr} {l' : List Addr}
    (n : NxM (· ∈ l) F H F2 H2) (hy : TR G F2 H2 u y l') (nd : l'.Nodup) (sub : ∀ a ∈ l', a ∈ l ∨ H a = none) : Stp e ls F H s (e.set i (.o y)) (ls.set i l') F2 H2 s ∧ Env G F2 H2 s (e.set i (.o y)) (ls.set i l') := by
  have ow : ∀ a ∈ l, Ow e ls a := fun a ha => ⟨i, t, l, hx, hl, ha⟩
  have sb : ∀ a ∈ l', Ow e ls a ∨ H a = none := fun a ha => (sub a ha).imp (ow a) id
  have far : ∀ (j : Nat) m a, j ≠ i → ls[j]? = some m → a ∈ m → a ∉ l' := fun j m a hj hm ham w => by
    rcases sub a w with z | z
    · exact E.ap j i m l a hj hm hl ham z
    · exact (E.adr ⟨j, m, hm, ham⟩).2 z
  refine ⟨⟨n.to fun a ha => ow a ha, by rw [set_len], fun a h => ?_, fun a h => ?_, fun j z hj => ?_⟩, ⟨by rw [set_len, E.len], by rw [set_len, set_len, E.lenl], fun j z m q1 q2 => ?_, fun j m q => ?_, fun j k' m m' a njk q1 q2 ha => ?_, fun p hp => n.tb _ _ (E.tb p hp)⟩⟩
  · rcases ow_set h with z | z
    · exact sb a z
    · exact .inl z
  · rcases all_set h with z | z
    · exact (sb a z).imp Ow.all id
    · exact .inl z
  · have c : i ≠ j := fun z => by subst z; rw [hx] at hj; cases hj
    rw [List.getElem?_set_ne c, List.getElem?_set_ne c]
    exact ⟨hj, rfl, rfl⟩
  · rcases set_at q1 with ⟨rfl, rfl⟩ | ⟨c, r⟩
    · rcases set_at q2 with ⟨_, rfl⟩ | ⟨c, _⟩
      · exact .inr ⟨u, hs, hy⟩
      · exact absurd rfl c
    · rcases set_at q2 with ⟨c2, _⟩ | ⟨_, q⟩
      · exact absurd c2 c
      · exact (E.ent j z m r q).nx n fun a ha hb => E.ap j i m l a c q hl ha hb
  · rcases set_at q with ⟨_, rfl⟩ | ⟨_, r⟩
    · exact nd
    · exact E.nd j m r
  · rcases set_at q1 with ⟨rfl, rfl⟩ | ⟨c1, w1⟩
    · rcases set_at q2 with ⟨rfl, _⟩ | ⟨c2, w2⟩
      · exact absurd rfl njk
      · exact fun w => far k' m' a c2 w2 w ha
    · rcases set_at q2 with ⟨rfl, rfl⟩ | ⟨c2, w2⟩
      · exact far j m a c1 w1 ha
      · exact E.ap j k' m m' a njk w1 w2 ha
/-! ### holding -/
def holdE (i : Nat) (e : En) : En := match e[i]? with
  | some (.o t) => e.set i (.r t)
  | _ => e
/-- e2 is behind holdE i e -/
def unholdE (i : Nat) (e e2 : En) : En := match e[i]? with
  | some (.o t) => e2.set i (.o t)
  | _ => e2
theorem hold_ow {i : Nat} {a : Addr} (h : Ow (holdE i e) ls a) : Ow e ls a := by
  unfold holdE at h
  split at h
  · rename_i t q
    obtain ⟨j, y, m, h1, h2, h3⟩ := h
    rcases set_at h1 with ⟨_, z⟩ | ⟨_, r⟩
    · cases z
    · exact ⟨j, y, m, r, h2, h3⟩
  · exact h
theorem Env.hold {i : Nat} (E : Env G F H s e ls) : Env G F H s (holdE i e) ls := by
  unfold holdE
  split
  · rename_i t q
    refine ⟨by rw [set_len, E.len], by rw [set_len, E.lenl], fun j y m q1 q2 => ?_, E.nd, E.ap, E.tb⟩
    rcases set_at q1 with ⟨rfl, rfl⟩ | ⟨_, r⟩
    · exact E.ent j (.o t) m q q2
    · exact E.ent j y m r q2
  · exact E
theorem Env.unhold {i : Nat} (E : Env G F2 H2 s2 e2 ls2) (T : Stp (holdE i e) ls F H s e2 ls2 F2 H2 s2) : Env G F2 H2 s2 (unholdE i e e2) ls2 ∧ Stp e ls F H s (unholdE i e e2) ls2 F2 H2 s2 := by
  unfold unholdE
  cases q : e[i]? with
  | none =>
    have hh : holdE i e = e := by unfold holdE; rw [q]
    rw [hh] at T
    exact ⟨E, T⟩
  | some x =>
    cases x with
    | r t =>
      have hh : holdE i e = e := by unfold holdE; rw [q]
      rw [hh] at T
      exact ⟨E, T⟩
    | o t =>
      have hh : holdE i e = e.set i (.r t) := by unfold holdE; rw [q]
      have hi : i < e.length := (List.getElem?_eq_some_iff.mp q).1
      have ho := @hold_ow e ls i
      rw [hh] at T ho
      obtain ⟨g1, g2, g3⟩ := T.ro i t (List.getElem?_set_self hi)
      dsimp only
      refine ⟨⟨by rw [set_len, E.len], by rw [set_len, E.lenl], fun j y m q1 q2 => ?_, E.nd, E.ap, E.tb⟩, ⟨T.nx.to fun a ha => ho ha, by rw [set_len, T.ln, set_len], fun a h => ?_, T.al, fun j y hj => ?_⟩⟩
      · rcases set_at q1 with ⟨rfl, rfl⟩ | ⟨_, r⟩
        · exact E.ent j (.r t) m g1 q2
        · exact E.ent j y m r q2
      · obtain ⟨j, y, m, h1, h2, h3⟩ := h
        rcases set_at h1 with ⟨rfl, _⟩ | ⟨_, r⟩
        · exact .inl ⟨j, t, m, q, by rw [← g3]; exact h2, h3⟩
        · exact (T.ow a ⟨j, y, m, r, h2, h3⟩).imp ho id
      · have c : i ≠ j := fun z => by subst z; rw [q] at hj; cases hj
        obtain ⟨k1, k2, k3⟩ := T.ro j y (by rw [List.getElem?_set_ne c]; exact hj)
        exact ⟨by rw [List.getElem?_set_ne c]; exact k1, k2, k3⟩
end R

/-! Places in trees. -/
namespace R
open PySem PySem.Spec PyProof.Rows L2
open Evl (Ex)
variable {G : Gs} {F H F2 H2 F3 H3 : Hp} {M : Addr → Prop}
variable {s s2 s3 : L2.St} {e e2 e3 : En} {ls ls2 ls3 : Ls}
inductive Ps where
  | f (n : Str)
  | k (n : Nat)
abbrev Pa := List Ps
def putF (f : Str) (x : Tr) : List (Str × Tr) → List (Str × Tr)
  | [] => []
  | (n, y) :: r => if n = f then (n, x) :: r else (n, y) :: putF f x r
def Tr.get : Pa → Tr → Option Tr
  | [], t => some t
  | .k n :: p, .tup ts => match ts[n]? with
    | some t => Tr.get p t
    | none => none
  | .k n :: p, .lst ts => match ts[n]? with
    | some t => Tr.get p t
    | none => none
  | .f x :: p, .obj _ fs => match fs.lookup x with
    | some t => Tr.get p t
    | none => none
  | _, _ => none
def Tr.put (y : Tr) : Pa → Tr → Tr
  | [], _ => y
  | .k n :: p, .tup ts => match ts[n]? with
    | some t => .tup (ts.set n (Tr.put y p t))
    | none => .tup ts
  | .k n :: p, .lst ts => match ts[n]? with
    | some t => .lst (ts.set n (Tr.put y p t))
    | none => .lst ts
  | .f x :: p, .obj c fs => match fs.lookup x with
    | some t => .obj c (putF x (Tr.put y p t) fs)
    | none => .obj c fs
  | _, t => t
/-- from value u along p to value v -/
def PvR (F H : Hp) : Pa → V → V → Prop
  | [], u, v => u = v
  | .k n :: p, u, v => ∃ a xs w, u = .ref a ∧ (F a = some (.tup xs) ∨ (F a = none ∧ H a = some (.lst xs))) ∧ xs[n]? = some w ∧ PvR F H p w v
  | .f x :: p, u, v => ∃ a C dx vs w, u = .ref a ∧ H a = some (.ins C dx vs) ∧ vs.lookup x = some w ∧ PvR F H p w v
theorem PvR.app {q : Pa} {w : V} : ∀ {p : Pa} {u v : V}, PvR F H p u v → PvR F H q v w → PvR F H (p ++ q) u w
  | [], _, _, h, g => by cases (show _ = _ from h); exact g
  | .k n :: p, _, _, ⟨a, xs, w', h1, h2, h3, h4⟩, g => ⟨a, xs, w', h1, h2, h3, PvR.app h4 g⟩
  | .f x :: p, _, _, ⟨a, C, dx, vs, w', h1, h2, h3, h4⟩, g => ⟨a, C, dx, vs, w', h1, h2, h3, PvR.app h4 g⟩
theorem TRs.get : ∀ {vs : List V} {ts : List Tr} {l : List Addr} {n : Nat} {t : Tr}, TRs G F H vs ts l → ts[n]? = some t → ∃ v l1, vs[n]? = some v ∧ TR G F H v t l1 ∧ ∀ a ∈ l1, a ∈ l
  | _, _, _, _, _, .nil, q => by simp at q
  | _, _, _, 0, _, .cons h1 h2, q => by
    simp at q; subst q
    exact ⟨_, _, rfl, h1, fun a ha => List.mem_append_left _ ha⟩
  | _, _, _, n + 1, t, .cons h1 h2, q => by
    obtain ⟨w, m, g1, g2, g3⟩ := TRs.get (n := n) (t := t) h2 (by simpa using q)
    exact ⟨w, m, by simpa using g1, g2, fun a ha => List.mem_append_right _ (g3 a ha)⟩
theorem FRs.get {f : Str} : ∀ {vs : List (Str × V)} {ts : List (Str × Tr)} {l : List Addr} {t : Tr}, FRs G F H vs ts l → ts.lookup f = some t → ∃ v l1, vs.lookup f = some v ∧ TR G F H v t l1 ∧ ∀ a ∈ l1, a ∈ l
  | _, _, _, _, .nil, q => by simp at q
  | _, _, _, t, .cons (n := n) h1 h2, q => by
    by_cases c : f = n
    · subst c
      simp at q; subst q
      exact ⟨_, _, by simp, h1, fun a ha => List.mem_append_left _ ha⟩
    · have c2 : (f == n) = false := by simpa using c
      rw [List.lookup_cons, c2] at q
      obtain ⟨w, m, g1, g2, g3⟩ := FRs.get h2 q
      exact ⟨w, m, by rw [List.lookup_cons, c2]; exact g1, g2, fun a ha => List.mem_append_right _ (g3 a ha)⟩
/-- reading at a place -/
theorem TR.get : ∀ {p : Pa} {u : V} {t t1 : Tr} {l : List Addr}, TR G F H u t l → Tr.get p t = some t1 → ∃ v l1, PvR F H p u v ∧ TR G F H v t1 l1 ∧ ∀ a ∈ l1, a ∈ l
  | [], u, t, _, l, h, q => by cases q; exact ⟨u, l, rfl, h, fun _ z => z⟩
  | .k n :: p, u, t, t1, l, h, q => by
    cases h with
    | tup h1 h2 =>
      rename_i a xs ts
      simp only [Tr.get] at q
      cases g : ts[n]? with
      | none => rw [g] at q; cases q
      | some t' =>
        rw [g] at q
        obtain ⟨w, m, g1, g2, g3⟩ := h2.get g
        obtain ⟨v, l1, k1, k2, k3⟩ := TR.get (p := p) g2 q
        exact ⟨v, l1, ⟨a, xs, w, rfl, .inl h1, g1, k1⟩, k2, fun a ha => g3 a (k3 a ha)⟩
    | lst h1 h2 h3 =>
      rename_i a xs ts l
      simp only [Tr.get] at q
      cases g : ts[n]? with
      | none => rw [g] at q; cases q
      | some t' =>
        rw [g] at q
        obtain ⟨w, m, g1, g2, g3⟩ := h3.get g
        obtain ⟨v, l1, k1, k2, k3⟩ := TR.get (p := p) g2 q
        exact ⟨v, l1, ⟨a, xs, w, rfl, .inr ⟨h1, h2⟩, g1, k1⟩, k2, fun a ha => List.mem_cons_of_mem _ (g3 a (k3 a ha))⟩
    | _ => cases q
  | .f x :: p, u, t, t1, l, h, q => by
    cases h with
    | obj h1 h2 h3 h4 h5 =>
      rename_i a dx c vs fs l
      simp only [Tr.get] at q
      cases g : fs.lookup x with
      | none => rw [g] at q; cases q
      | some t' =>
        rw [g] at q
        obtain ⟨w, m, g1, g2, g3⟩ := h5.get g
        obtain ⟨v, l1, k1, k2, k3⟩ := TR.get (p := p) g2 q
        exact ⟨v, l1, ⟨a, _, dx, vs, w, rfl, h3, g1, k1⟩, k2, fun a ha => List.mem_cons_of_mem _ (List.mem_cons_of_mem _ (g3 a (k3 a ha)))⟩
    | _ => cases q
/-- what may be done at a part: it is turned to t2 -/
def Turn (G : Gs) (F H : Hp) (v : V) (l1 l : List Addr) (R : Hp → Hp → Tr → List Addr → Prop) : Prop :=
  ∀ F2 H2 t2 l2, NxM (· ∈ l1) F H F2 H2 → TR G F2 H2 v t2 l2 → l2.Nodup → (∀ a ∈ l2, a ∈ l1 ∨ a ∉ l) → ∃ l', R F2 H2 t2 l' ∧ l'.Nodup ∧ (∀ a ∈ l', a ∈ l ∨ a ∈ l2) ∧ ∀ a ∈ l', a ∈ l1 → a ∈ l2
theorem nodup_app {l m : List Addr} (h1 : l.Nodup) (h2 : m.Nodup) (h3 : ∀ a ∈ l, a ∉ m) : (l ++ m).Nodup := List.nodup_append.mpr ⟨h1, h2, fun a ha b hb e => h3 a ha (e ▸ hb)⟩
theorem nodup_l {l m : List Addr} (h : (l ++ m).Nodup) : l.Nodup := (List.nodup_append.mp h).1
theorem nodup_r {l m : List Addr} (h : (l ++ m).Nodup) : m.Nodup := (List.nodup_append.mp h).2.1
theorem nodup_x {l m : List Addr} (h : (l ++ m).Nodup) : ∀ a ∈ l, a ∉ m := fun a ha hb => (List.nodup_append.mp h).2.2 a ha a hb rfl
theorem TRs.lens : ∀ {vs : List V} {ts : List Tr} {l : List Addr} {n : Nat} {v : V} {t : Tr}, TRs G F H vs ts l → l.Nodup → ts[n]? = some t → vs[n]? = some v →
    ∃ l1, TR G F H v t l1 ∧ l1.Nodup ∧ (∀ a ∈ l1, a ∈ l) ∧ Turn G F H v l1 l fun F2 H2 t2 l' => TRs G F2 H2 vs (ts.set n t2) l'
  | _, _, _, _, _, _, .nil, _, q, _ => by simp at q
  | _, _, _, 0, _, _, .cons (l := l) (m := m) h1 h2, nd, q1, q2 => by
    simp at q1 q2
    subst q1 q2
    refine ⟨l, h1, nodup_l nd, fun a ha => List.mem_append_left _ ha, fun F2 H2 t2 l2 n p nd2 sub => ⟨l2 ++ m, .cons p (h2.nx n fun a ha hb => nodup_x nd a hb ha), nodup_app nd2 (nodup_r nd) fun a ha hb => ?_, fun a ha => ?_, fun a ha hb => ?_⟩⟩
    · rcases sub a ha with z | z
      · exact nodup_x nd a z hb
      · exact z (List.mem_append_right _ hb)
    · rcases List.mem_append.mp ha with z | z
      · exact .inr z
      · exact .inl (List.mem_append_right _ z)
    · rcases List.mem_append.mp ha with z | z
      · exact z
      · exact absurd z (nodup_x nd a hb)
  | _, _, _, n + 1, w, y, .cons (l := l) (m := m) h1 h2, nd, q1, q2 => by
    obtain ⟨m1, g1, g0, g2, g3⟩ := TRs.lens (n := n) (v := w) (t := y) h2 (nodup_r nd) (by simpa using q1) (by simpa using q2)
    refine ⟨m1, g1, g0, fun a ha => List.mem_append_right _ (g2 a ha), fun F2 H2 t2 l2 nx p nd2 sub => ?_⟩
    obtain ⟨l', r1, r2, r3, r4⟩ := g3 F2 H2 t2 l2 nx p nd2 (fun a ha => (sub a ha).imp id fun z w => z (List.mem_append_right _ w))
    refine ⟨l ++ l', .cons (h1.nx nx fun a ha hb => nodup_x nd a ha (g2 a hb)) r1, nodup_app (nodup_l nd) r2 fun a ha hb => ?_, fun a ha => ?_, fun a ha hb => ?_⟩
    · rcases r3 a hb with z | z
      · exact nodup_x nd a ha z
      · rcases sub a z with w | w
        · exact nodup_x nd a ha (g2 a w)
        · exact w (List.mem_append_left _ ha)
    · rcases List.mem_append.mp ha with z | z
      · exact .inl (List.mem_append_left _ z)
      · exact (r3 a z).imp (List.mem_append_right _) id
    · rcases List.mem_append.mp ha with z | z
      · exact absurd (g2 a hb) (nodup_x nd a z)
      · exact r4 a z hb
theorem FRs.lens {f : Str} : ∀ {vs : List (Str × V)} {ts : List (Str × Tr)} {l : List Addr} {v : V} {t : Tr}, FRs G F H vs ts l → l.Nodup → ts.lookup f = some t → vs.lookup f = some v →
    ∃ l1, TR G F H v t l1 ∧ l1.Nodup ∧ (∀ a ∈ l1, a ∈ l) ∧ Turn G F H v l1 l fun F2 H2 t2 l' => FRs G F2 H2 vs (putF f t2 ts) l'
  | _, _, _, _, _, .nil, _, q, _ => by simp at q
  | _, _, _, w, y, .cons (n := n) (v := v0) (t := t0) (ts := ts) (vs := vs) (l := l) (m := m) h1 h2, nd, q1, q2 => by
    by_cases c : n = f
    · subst c
      simp at q1 q2
      subst q1 q2
      refine ⟨l, h1, nodup_l nd, fun a ha => List.mem_append_left _ ha, fun F2 H2 t2 l2 nx p nd2 sub => ⟨l2 ++ m, ?_, nodup_app nd2 (nodup_r nd) fun a ha hb => ?_, fun a ha => ?_, fun a ha hb => ?_⟩⟩
      · show FRs G F2 H2 ((n, v0) :: vs) (putF n t2 ((n, t0) :: ts)) (l2 ++ m)
        unfold putF; rw [if_pos rfl]
        exact .cons p (h2.nx nx fun a ha hb => nodup_x nd a hb ha)
      · rcases sub a ha with z | z
        · exact nodup_x nd a z hb
        · exact z (List.mem_append_right _ hb)
      · rcases List.mem_append.mp ha with z | z
        · exact .inr z
        · exact .inl (List.mem_append_right _ z)
      · rcases List.mem_append.mp ha with z | z
        · exact z
        · exact absurd z (nodup_x nd a hb)
    · have c2 : (f == n) = false := by simpa using fun z => c z.symm
      rw [List.lookup_cons, c2] at q1 q2
      obtain ⟨m1, g1, g0, g2, g3⟩ := FRs.lens (v := w) (t := y) h2 (nodup_r nd) q1 q2
      refine ⟨m1, g1, g0, fun a ha => List.mem_append_right _ (g2 a ha), fun F2 H2 t2 l2 nx p nd2 sub => ?_⟩
      obtain ⟨l', r1, r2, r3, r4⟩ := g3 F2 H2 t2 l2 nx p nd2 (fun a ha => (sub a ha).imp id fun z w => z (List.mem_append_right _ w))
      refine ⟨l ++ l', ?_, nodup_app (nodup_l nd) r2 fun a ha hb => ?_, fun a ha => ?_, fun a ha hb => ?_⟩
      · show FRs G F2 H2 ((n, v0) :: vs) (putF f t2 ((n, t0) :: ts)) (l ++ l')
        unfold putF; rw [if_neg c]
        exact .cons (h1.nx nx fun a ha hb => nodup_x nd a ha (g2 a hb)) r1
      · rcases r3 a hb with z | z
        · exact nodup_x nd a ha z
        · rcases sub a z with w | w
          · exact nodup_x nd a ha (g2 a w)
          · exact w (List.mem_append_left _ ha)
      · rcases List.mem_append.mp ha with z | z
        · exact .inl (List.mem_append_left _ z)
        · exact (r3 a z).imp (List.mem_append_right _) id
      · rcases List.mem_append.mp ha with z | z
        · exact absurd (g2 a hb) (nodup_x nd a z)
        · exact r4 a z hb
/-- changing at a place -/
theorem TR.lens : ∀ {p : Pa} {u v : V} {t t1 : Tr} {l : List Addr}, TR G F H u t l → l.Nodup → Tr.get p t = some t1 → PvR F H p u v →
    ∃ l1, TR G F H v t1 l1 ∧ l1.Nodup ∧ (∀ a ∈ l1, a ∈ l) ∧ Turn G F H v l1 l fun F2 H2 t2 l' => TR G F2 H2 u (Tr.put t2 p t) l'
  | [], u, v, t, _, l, h, nd, q, hv => by
    cases q
    cases (show u = v from hv)
    exact ⟨l, h, nd, fun _ z => z, fun F2 H2 t2 l2 _ p nd2 sub => ⟨l2, p, nd2, fun _ z => .inr z, fun _ z _ => z⟩⟩
  | .k n :: p, u, v, t, t1, l, h, nd, q, hv => by
    obtain ⟨a', xs', w, hu, hx, hw, hp⟩ := hv
    cases h with
    | tup h1 h2 =>
      rename_i a xs ts
      cases hu
      have hx' : xs' = xs := by
        rcases hx with z | z
        · rw [h1] at z; cases z; rfl
        · rw [h1] at z; cases z.1
      subst hx'
      simp only [Tr.get] at q
      cases g : ts[n]? with
      | none => rw [g] at q; cases q
      | some t' =>
        rw [g] at q
        obtain ⟨m1, g1, g0, g2, g3⟩ := h2.lens nd g hw
        obtain ⟨l1, k1, k0, k2, k3⟩ := TR.lens (p := p) g1 g0 q hp
        refine ⟨l1, k1, k0, fun a ha => g2 a (k2 a ha), fun F2 H2 t2 l2 nx pp nd2 sub => ?_⟩
        obtain ⟨m', r1, r2, r3, r4⟩ := k3 F2 H2 t2 l2 nx pp nd2 (fun a ha => (sub a ha).imp id fun z w => z (g2 a w))
        obtain ⟨l', z1, z2, z3, z4⟩ := g3 F2 H2 _ m' (nx.to fun a ha => k2 a ha) r1 r2 (fun a ha => by
          by_cases c1 : a ∈ m1
          · exact .inl c1
          · refine .inr fun w => ?_
            rcases r3 a ha with z | z
            · exact c1 z
            · rcases sub a z with y | y
              · exact c1 (k2 a y)
              · exact y w)
        have z3' : ∀ a ∈ l', a ∈ l ∨ a ∈ l2 := fun a ha => (z3 a ha).elim .inl fun z => (r3 a z).elim (fun y => .inl (g2 a y)) .inr
        refine ⟨l', ?_, z2, z3', fun a ha hb => r4 a (z4 a ha (k2 a hb)) hb⟩
        simp only [Tr.put]
        rw [g]
        exact .tup (nx.f _ _ h1) z1
    | lst h1 h2 h3 =>
      rename_i a xs ts l
      cases hu
      have hx' : xs' = xs := by
        rcases hx with z | z
        · rw [h1] at z; cases z
        · rw [h2] at z; cases z.2; rfl
      subst hx'
      simp only [Tr.get] at q
      cases g : ts[n]? with
      | none => rw [g] at q; cases q
      | some t' =>
        rw [g] at q
        have nd' := List.nodup_cons.mp nd
        obtain ⟨m1, g1, g0, g2, g3⟩ := h3.lens nd'.2 g hw
        obtain ⟨l1, k1, k0, k2, k3⟩ := TR.lens (p := p) g1 g0 q hp
        refine ⟨l1, k1, k0, fun a ha => List.mem_cons_of_mem _ (g2 a (k2 a ha)), fun F2 H2 t2 l2 nx pp nd2 sub => ?_⟩
        obtain ⟨m', r1, r2, r3, r4⟩ := k3 F2 H2 t2 l2 nx pp nd2 (fun a ha => (sub a ha).imp id fun z w => z (List.mem_cons_of_mem _ (g2 a w)))
        obtain ⟨l', z1, z2, z3, z4⟩ := g3 F2 H2 _ m' (nx.to fun a ha => k2 a ha) r1 r2 (fun a ha => by
          by_cases c1 : a ∈ m1
          · exact .inl c1
          · refine .inr fun w => ?_
            rcases r3 a ha with z | z
            · exact c1 z
            · rcases sub a z with y | y
              · exact c1 (k2 a y)
              · exact y (List.mem_cons_of_mem _ w))
        have z3' : ∀ a ∈ l', a ∈ _ ∨ a ∈ l2 := fun a ha => (z3 a ha).elim .inl fun z => (r3 a z).elim (fun y => .inl (g2 a y)) .inr
        have na : a' ∉ l1 := fun w => nd'.1 (g2 a' (k2 a' w))
        refine ⟨a' :: l', ?_, List.nodup_cons.mpr ⟨fun w => ?_, z2⟩, fun b hb => ?_, fun b hb hc => ?_⟩
        · simp only [Tr.put]
          rw [g]
          exact .lst (nx.ap a' _ na h1 h2 rfl) (nx.h a' _ na h2 rfl) z1
        · rcases z3' a' w with z | z
          · exact nd'.1 z
          · exact (sub a' z).elim na fun y => y List.mem_cons_self
        · rcases List.mem_cons.mp hb with rfl | hb
          · exact .inl List.mem_cons_self
          · exact (z3' b hb).imp (List.mem_cons_of_mem _) id
        · rcases List.mem_cons.mp hb with rfl | hb
          · exact absurd hc na
          · exact r4 b (z4 b hb (k2 b hc)) hc
    | _ => cases q
  | .f x :: p, u, v, t, t1, l, h, nd, q, hv => by
    obtain ⟨a', C', dx', vs', w, hu, hx, hw, hp⟩ := hv
    cases h with
    | obj h1 h2 h3 h4 h5 =>
      rename_i a dx c vs fs l
      cases hu
      rw [h3] at hx
      cases hx
      simp only [Tr.get] at q
      cases g : fs.lookup x with
      | none => rw [g] at q; cases q
      | some t' =>
        rw [g] at q
        have nd1 := List.nodup_cons.mp nd
        have nd2' := List.nodup_cons.mp nd1.2
        obtain ⟨m1, g1, g0, g2, g3⟩ := h5.lens nd2'.2 g hw
        obtain ⟨l1, k1, k0, k2, k3⟩ := TR.lens (p := p) g1 g0 q hp
        refine ⟨l1, k1, k0, fun a ha => List.mem_cons_of_mem _ (List.mem_cons_of_mem _ (g2 a (k2 a ha))), fun F2 H2 t2 l2 nx pp nd2 sub => ?_⟩
        obtain ⟨m', r1, r2, r3, r4⟩ := k3 F2 H2 t2 l2 nx pp nd2 (fun a ha => (sub a ha).imp id fun z w => z (List.mem_cons_of_mem _ (List.mem_cons_of_mem _ (g2 a w))))
        obtain ⟨l', z1, z2, z3, z4⟩ := g3 F2 H2 _ m' (nx.to fun a ha => k2 a ha) r1 r2 (fun a ha => by
          by_cases c1 : a ∈ m1
          · exact .inl c1
          · refine .inr fun w => ?_
            rcases r3 a ha with z | z
            · exact c1 z
            · rcases sub a z with y | y
              · exact c1 (k2 a y)
              · exact y (List.mem_cons_of_mem _ (List.mem_cons_of_mem _ w)))
        have z3' : ∀ a ∈ l', a ∈ _ ∨ a ∈ l2 := fun a ha => (z3 a ha).elim .inl fun z => (r3 a z).elim (fun y => .inl (g2 a y)) .inr
        have na : a' ∉ l1 := fun w => nd1.1 (List.mem_cons_of_mem _ (g2 a' (k2 a' w)))
        have nx' : dx' ∉ l1 := fun w => nd2'.1 (g2 dx' (k2 dx' w))
        refine ⟨a' :: dx' :: l', ?_, List.nodup_cons.mpr ⟨fun w => ?_, List.nodup_cons.mpr ⟨fun w => ?_, z2⟩⟩, fun b hb => ?_, fun b hb hc => ?_⟩
        · simp only [Tr.put]
          rw [g]
          exact .obj (nx.ap a' _ na h1 h3 rfl) (nx.ap dx' _ nx' h2 h4 rfl) (nx.h a' _ na h3 rfl) (nx.h dx' _ nx' h4 rfl) z1
        · rcases List.mem_cons.mp w with z | z
          · exact nd1.1 (z ▸ List.mem_cons_self)
          · rcases z3' a' z with z | z
            · exact nd1.1 (List.mem_cons_of_mem _ z)
            · exact (sub a' z).elim na fun y => y List.mem_cons_self
        · rcases z3' dx' w with z | z
          · exact nd2'.1 z
          · exact (sub dx' z).elim nx' fun y => y (List.mem_cons_of_mem _ List.mem_cons_self)
        · rcases List.mem_cons.mp hb with rfl | hb
          · exact .inl List.mem_cons_self
          · rcases List.mem_cons.mp hb with rfl | hb
            · exact .inl (List.mem_cons_of_mem _ List.mem_cons_self)
            · exact (z3' b hb).imp (fun z => List.mem_cons_of_mem _ (List.mem_cons_of_mem _ z)) id
        · rcases List.mem_cons.mp hb with rfl | hb
          · exact absurd hc na
          · rcases List.mem_cons.mp hb with rfl | hb
            · exact absurd hc nx'
            · exact r4 b (z4 b hb (k2 b hc)) hc
    | _ => cases q
/-! ### places in the slots -/
def getPl (e : En) (i : Nat) (p : Pa) : Option Tr := match e[i]? with
  | some x => Tr.get p x.t
  | none => none
/-- .. to be changed -/
def putPl (e : En) (i : Nat) (p : Pa) (y : Tr) : En := match e[i]? with
  | some (.o t) => e.set i (.o (Tr.put y p t))
  | _ => e
def isO (e : En) (i : Nat) : Bool := match e[i]? with
  | some (.o _) => true
  | _ => false
/-- the value at a place -/
def PlR (F H : Hp) (s : L2.St) (v : V) (i : Nat) (p : Pa) : Prop := ∃ u, s[i]? = some (some u) ∧ PvR F H p u v
theorem get_un {p : Pa} {t : Tr} (h : Tr.get p .un = some t) : t = .un := by
  cases p with
  | nil => cases h; rfl
  | cons q p => cases q <;> cases h
theorem Env.getV (E : Env G F H s e ls) {i : Nat} {p : Pa} {t : Tr} (h : getPl e i p = some t) (hn : t ≠ .un) : ∃ x u l, e[i]? = some x ∧ Tr.get p x.t = some t ∧ s[i]? = some (some u) ∧ ls[i]? = some l ∧ TR G F H u x.t l := by
  unfold getPl at h
  cases q : e[i]? with
  | none => rw [q] at h; cases h
  | some x =>
    rw [q] at h
    obtain ⟨l, h1, h2⟩ := E.at q
    obtain ⟨u, h3, h4⟩ := h2.to (fun z => by dsimp only at h; rw [z] at h; exact hn (get_un h))
    exact ⟨x, u, l, rfl, h, h3, h1, h4⟩
theorem PvR.uniq : ∀ {p : Pa} {u v w : V}, PvR F H p u v → PvR F H p u w → v = w
  | [], _, _, _, h1, h2 => by cases (show _ = _ from h1); exact h2
  | .k n :: p, _, _, _, ⟨a, xs, z, e, h1, h2, h3⟩, ⟨b, ys, y, e', g1, g2, g3⟩ => by
    cases e; cases e'
    have : xs = ys := by
      rcases h1 with h1 | h1 <;> rcases g1 with g1 | g1
      · rw [h1] at g1; cases g1; rfl
      · rw [h1] at g1; cases g1.1
      · rw [g1] at h1; cases h1.1
      · rw [h1.2] at g1; cases g1.2; rfl
    subst this
    rw [h2] at g2; cases g2
    exact PvR.uniq h3 g3
  | .f x :: p, _, _, _, ⟨a, C, dx, vs, z, e, h1, h2, h3⟩, ⟨b, C', dx', ys, y, e', g1, g2, g3⟩ => by
    cases e; cases e'
    rw [h1] at g1; cases g1
    rw [h2] at g2; cases g2
    exact PvR.uniq h3 g3
/-- reading at a place -/
theorem Env.get (E : Env G F H s e ls) {i : Nat} {p : Pa} {t : Tr} {v : V} (h : getPl e i p = some t) (hn : t ≠ .un) (hp : PlR F H s v i p) : ∃ l, TR G F H v t l ∧ ∀ a ∈ l, All ls a := by
  obtain ⟨x, u, l, h1, h2, h3, h4, h5⟩ := E.getV h hn
  obtain ⟨u', g1, g2⟩ := hp
  rw [h3] at g1; cases g1
  obtain ⟨v', l1, r1, r2, r3⟩ := h5.get h2
  cases g2.uniq r1
  exact ⟨l1, r2, fun a ha => ⟨i, l, h4, r3 a ha⟩⟩
/-- changing at a place, seen from a start -/
theorem Env.lensT {F0 H0 : Hp} {s0 : L2.St} {e0 : En} {ls0 : Ls} (E : Env G F H s e ls) (T : Stp e0 ls0 F0 H0 s0 e ls F H s) {i : Nat} {p : Pa} {t : Tr} {v : V} (h : getPl e i p = some t) (hn : t ≠ .un) (ho : isO e i = true) (hp : PlR F H s v i p) :
    ∃ l1, TR G F H v t l1 ∧ l1.Nodup ∧ (∀ a ∈ l1, Ow e ls a) ∧ ∀ F2 H2 t2 l2, NxM (· ∈ l1) F H F2 H2 → TR G F2 H2 v t2 l2 → l2.Nodup → (∀ a ∈ l2, a ∈ l1 ∨ ((Ow e0 ls0 a ∨ H0 a = none) ∧ ¬ All ls a)) →
      ∃ ls2, Stp e0 ls0 F0 H0 s0 (putPl e i p t2) ls2 F2 H2 s ∧ Env G F2 H2 s (putPl e i p t2) ls2 ∧ ∀ a ∈ l1, All ls2 a → a ∈ l2 := by
  obtain ⟨x, u, l, h1, h2, h3, h4, h5⟩ := E.getV h hn
  obtain ⟨u', g1, g2⟩ := hp
  rw [h3] at g1; cases g1
  cases x with
  | r t' => unfold isO at ho; rw [h1] at ho; cases ho
  | o t' =>
    obtain ⟨l1, r1, r0, r2, r3⟩ := h5.lens (E.nd _ _ h4) h2 g2
    have ow : ∀ a ∈ l, Ow e ls a := fun a ha => ⟨i, t', l, h1, h4, ha⟩
    refine ⟨l1, r1, r0, fun a ha => ow a (r2 a ha), fun F2 H2 t2 l2 n p' nd2 sub => ?_⟩
    obtain ⟨l', k1, k2, k3, k4⟩ := r3 F2 H2 t2 l2 n p' nd2 fun a ha => (sub a ha).imp id fun z w => z.2 (ow a w).all
    have pe : putPl e i p t2 = e.set i (.o (Tr.put t2 p t')) := by unfold putPl; rw [h1]
    rw [pe]
    have k3' : ∀ a ∈ l', a ∈ l ∨ ((Ow e0 ls0 a ∨ H0 a = none) ∧ ¬ All ls a) := fun a ha => (k3 a ha).elim .inl fun z => (sub a z).imp (r2 a) id
    have far : ∀ (j : Nat) m a, j ≠ i → ls[j]? = some m → a ∈ m → a ∉ l' := fun j m a hj hm ham w => by
      rcases k3' a w with z | z
      · exact E.ap j i m l a hj hm h4 ham z
      · exact z.2 ⟨j, m, hm, ham⟩
    have sb : ∀ a ∈ l', Ow e0 ls0 a ∨ H0 a = none := fun a ha => (k3' a ha).elim (fun z => T.ow a (ow a z)) fun z => z.1
    refine ⟨ls.set i l', ⟨T.nx.then n fun a ha => T.ow a (ow a (r2 a ha)), by rw [set_len]; exact T.ln, fun a h => ?_, fun a h => ?_, fun j z hj => ?_⟩, ⟨by rw [set_len, E.len], by rw [set_len, set_len, E.lenl], fun j z m q1 q2 => ?_, fun j m q => ?_, fun j k' m m' a njk q1 q2 ha => ?_, fun pt hpt => n.tb _ _ (E.tb pt hpt)⟩, fun a ha hm => ?_⟩
    · rcases ow_set h with z | z
      · exact sb a z
      · exact T.ow a z
    · rcases all_set h with z | z
      · exact (sb a z).imp Ow.all id
      · exact T.al a z
    · obtain ⟨w1, w2, w3⟩ := T.ro j z hj
      have c : i ≠ j := fun q => by subst q; rw [h1] at w1; cases w1
      rw [List.getElem?_set_ne c, List.getElem?_set_ne c]
      exact ⟨w1, w2, w3⟩
    · rcases set_at q1 with ⟨rfl, rfl⟩ | ⟨c, r⟩
      · rcases set_at q2 with ⟨_, rfl⟩ | ⟨c, _⟩
        · exact .inr ⟨u, h3, k1⟩
        · exact absurd rfl c
      · rcases set_at q2 with ⟨c2, _⟩ | ⟨_, q⟩
        · exact absurd c2 c
        · exact (E.ent j z m r q).nx n fun a ha hb => E.ap j i m l a c q h4 ha (r2 a hb)
    · rcases set_at q with ⟨_, rfl⟩ | ⟨_, r⟩
      · exact k2
      · exact E.nd j m r
    · rcases set_at q1 with ⟨rfl, rfl⟩ | ⟨c1, w1⟩
      · rcases set_at q2 with ⟨rfl, _⟩ | ⟨c2, w2⟩
        · exact absurd rfl njk
        · exact fun w => far k' m' a c2 w2 w ha
      · rcases set_at q2 with ⟨rfl, rfl⟩ | ⟨c2, w2⟩
        · exact far j m a c1 w1 ha
        · exact E.ap j k' m m' a njk w1 w2 ha
    · obtain ⟨j, m, q1, q2⟩ := hm
      rcases set_at q1 with ⟨_, rfl⟩ | ⟨c, r⟩
      · exact k4 a q2 ha
      · exact absurd q2 (E.ap i j l m a (Ne.symm c) h4 r (r2 a ha))
/-- changing at a place -/
theorem Env.lens (E : Env G F H s e ls) (k : Ex F H) {i : Nat} {p : Pa} {t : Tr} {v : V} (h : getPl e i p = some t) (hn : t ≠ .un) (ho : isO e i = true) (hp : PlR F H s v i p) :
    ∃ l1, TR G F H v t l1 ∧ l1.Nodup ∧ (∀ a ∈ l1, Ow e ls a) ∧ ∀ F2 H2 t2 l2, NxM (· ∈ l1) F H F2 H2 → TR G F2 H2 v t2 l2 → l2.Nodup → (∀ a ∈ l2, a ∈ l1 ∨ H a = none) →
      ∃ ls2, Stp e ls F H s (putPl e i p t2) ls2 F2 H2 s ∧ Env G F2 H2 s (putPl e i p t2) ls2 ∧ ∀ a ∈ l1, All ls2 a → a ∈ l2 := by
  obtain ⟨l1, a1, a2, a3, a4⟩ := E.lensT (Stp.refl k) h hn ho hp
  exact ⟨l1, a1, a2, a3, fun F2 H2 t2 l2 n p' nd sub => a4 F2 H2 t2 l2 n p' nd fun a ha => (sub a ha).imp id fun z => ⟨.inr z, fun w => (E.adr w).2 z⟩⟩
end R

/-! The interpreter over trees: expressions. -/
namespace R
open PySem PySem.Spec PyProof.Rows L2
open Evl (Ex)
/-- an exception: its class, its attributes -/
structure Xc where
  c : Str
  fs : List (Str × PyData)
inductive Out (α : Type) where
  | ok (a : α) (e : En)
  | exc (x : Xc) (e : En)
  | no
def Out.bnd {α β : Type} : Out α → (α → En → Out β) → Out β
  | .ok a e, f => f a e
  | .exc x e, _ => .exc x e
  | .no, _ => .no
/-- the slots behind it -/
def Out.onE {α : Type} (h : En → En) : Out α → Out α
  | .ok a e => .ok a (h e)
  | .exc x e => .exc x (h e)
  | .no => .no
def Out.of {α : Type} (o : Option α) (e : En) : Out α := match o with
  | some a => .ok a e
  | none => .no
/-- a value: frozen data, a new thing, the owned thing at a place -/
inductive Rs where
  | dat (d : PyData)
  | new (t : Tr)
  | pl (i : Nat) (p : Pa)
mutual
def Tr.data : Tr → Option PyData
  | .dat d => some d
  | .own ds => some (.list ds)
  | .lst ts => match Tr.datas ts with
    | some ds => some (.list ds)
    | none => none
  | .tup ts => match Tr.datas ts with
    | some ds => some (.tuple ds)
    | none => none
  | _ => none
def Tr.datas : List Tr → Option (List PyData)
  | [] => some []
  | t :: ts => match Tr.data t, Tr.datas ts with
    | some d, some ds => some (d :: ds)
    | _, _ => none
end
def mkNew : Tr → Rs
  | .dat d => .dat d
  | t => .new t
def getR (e : En) : Rs → Option Tr
  | .dat d => some (.dat d)
  | .new t => some t
  | .pl i p => getPl e i p
/-- data by its own node: what is in it is frozen -/
def shal : Tr → Option PyData
  | .dat d => some d
  | .own ds => some (.list ds)
  | _ => none
def rdS (e : En) (r : Rs) : Option PyData := (getR e r).bind shal
def rdD (e : En) (r : Rs) : Option PyData := (getR e r).bind Tr.data
/-- to be frozen -/
def frz (e : En) : Rs → Option (PyData × En)
  | .dat d => some (d, e)
  | .new t => match t.data with
    | some d => some (d, e)
    | none => none
  | .pl i p => match getPl e i p with
    | some t => match t.data with
      | some d => if isO e i then some (d, putPl e i p (.dat d)) else none
      | none => none
    | none => none
/-- to be kept: a new thing goes as it is, an owned one is frozen -/
def toT (e : En) : Rs → Option (Tr × En)
  | .dat d => some (.dat d, e)
  | .new t => some (t, e)
  | .pl i p => match frz e (.pl i p) with
    | some (d, e2) => some (.dat d, e2)
    | none => none
abbrev Ev := En → Out Rs
def asD (f : Ev) (e : En) : Out PyData := (f e).bnd fun r e1 => match frz e1 r with
  | some (d, e2) => .ok d e2
  | none => .no
def asT (f : Ev) (e : En) : Out Tr := (f e).bnd fun r e1 => match toT e1 r with
  | some (t, e2) => .ok t e2
  | none => .no
def asB (f : Ev) (e : En) : Out Bool := (f e).bnd fun r e1 => match rdS e1 r with
  | some (.bool b) => .ok b e1
  | _ => .no
/-! ### holding while another part is looked at -/
def holdR (r : Rs) (e : En) : En := match r with
  | .pl i (_ :: _) => holdE i e
  | _ => e
def unholdR (r : Rs) (e e2 : En) : En := match r with
  | .pl i (_ :: _) => unholdE i e e2
  | _ => e2
def twoF (f g : Ev) (e : En) : Out (Rs × Rs) := (f e).bnd fun x e1 => ((g (holdR x e1)).onE (unholdR x e1)).bnd fun y e2 => .ok (x, y) e2
/-! ### what a built-in gives -/
inductive Rz where
  | dat (d : PyData)
  | lst (ds : List PyData)
def Rz.rs : Rz → Rs
  | .dat d => .dat d
  | .lst ds => .new (.own ds)
def varV (i : Nat) (e : En) : Out Rs := match e[i]? with
  | none => .no
  | some x => match x.t with
    | .un => .no
    | .dat d => .ok (.dat d) e
    | _ => .ok (.pl i []) e
def cstV (d : PyData) (e : En) : Out Rs := .ok (.dat d) e
/-- two operands that are read -/
def op2 (o : PyData → PyData → Option Rz) (f g : Ev) (e : En) : Out Rs := (twoF f g e).bnd fun p e2 => match rdS e2 p.1, rdS e2 p.2 with
  | some d1, some d2 => match o d1 d2 with
    | some z => .ok z.rs e2
    | none => .no
  | _, _ => .no
/-- two operands that are read through -/
def op2D (o : PyData → PyData → Option PyData) (f g : Ev) (e : En) : Out Rs := (twoF f g e).bnd fun p e2 => match rdD e2 p.1, rdD e2 p.2 with
  | some d1, some d2 => match o d1 d2 with
    | some z => .ok (.dat z) e2
    | none => .no
  | _, _ => .no
def op1 (o : PyData → Option Rz) (f : Ev) (e : En) : Out Rs := (f e).bnd fun r e1 => match rdS e1 r with
  | some d => match o d with
    | some z => .ok z.rs e1
    | none => .no
  | none => .no
def op1D (o : PyData → Option PyData) (f : Ev) (e : En) : Out Rs := (f e).bnd fun r e1 => match rdD e1 r with
  | some d => match o d with
    | some z => .ok (.dat z) e1
    | none => .no
  | none => .no
/-- sizes -/
def bigB (i : Int) : Bool := decide (i.natAbs < 2 ^ 1000)
def lenOk (n : Nat) : Bool := decide (n ≤ 1000000)
def addF : PyData → PyData → Option Rz
  | .int i, .int j => some (.dat (.int (i + j)))
  | .str a, .str b => if lenOk (a.length + b.length) then some (.dat (.str (a ++ b))) else none
  | .list ds, .list es => if lenOk (ds.length + es.length) then some (.lst (ds ++ es)) else none
  | .tuple ds, .tuple es => if lenOk (ds.length + es.length) then some (.dat (.tuple (ds ++ es))) else none
  | _, _ => none
def subF : PyData → PyData → Option Rz
  | .int i, .int j => some (.dat (.int (i - j)))
  | _, _ => none
def mulF : PyData → PyData → Option Rz
  | .int i, .int j => if bigB i && bigB j then some (.dat (.int (i * j))) else none
  | _, _ => none
def modF : PyData → PyData → Option Rz
  | .int i, .int j => if decide (0 < j) then some (.dat (.int (i % j))) else none
  | _, _ => none
def fdivF : PyData → PyData → Option Rz
  | .int i, .int j => if decide (0 < j) && decide (j < 1073741824) then some (.dat (.int (i / j))) else none
  | _, _ => none
def powF : PyData → PyData → Option Rz
  | .int i, .int j => if decide (i.natAbs < 1000) && decide (0 ≤ j) && decide (j ≤ 100) then some (.dat (.int (i ^ j.toNat))) else none
  | _, _ => none
def cmpI (c : Int → Int → Bool) : PyData → PyData → Option Rz
  | .int i, .int j => some (.dat (.bool (c i j)))
  | _, _ => none
def ltF := cmpI fun i j => decide (i < j)
def leF := cmpI fun i j => decide (i ≤ j)
def gtF := cmpI fun i j => decide (j < i)
def geF := cmpI fun i j => decide (j ≤ i)
def scalD : PyData → PyData → Option Bool
  | .int i, .int j => some (decide (i = j))
  | .str i, .str j => some (decide (i = j))
  | _, _ => none
def eqF (x y : PyData) : Option PyData := match scalD x y with
  | some b => some (.bool b)
  | none => if SeqAt.shaped x && SeqAt.shaped y then some (.bool (PyData.eqv x y)) else none
def neF (x y : PyData) : Option PyData := match scalD x y with
  | some b => some (.bool (!b))
  | none => if SeqAt.shaped x && SeqAt.shaped y then some (.bool (!PyData.eqv x y)) else none
def intsOf : List PyData → Option (List Int)
  | [] => some []
  | .int b :: r => match intsOf r with
    | some l => some (b :: l)
    | none => none
  | _ => none
def strsOf : List PyData → Option (List Str)
  | [] => some []
  | .str b :: r => match strsOf r with
    | some l => some (b :: l)
    | none => none
  | _ => none
def boolsOf : List PyData → Option (List Bool)
  | [] => some []
  | .bool b :: r => match boolsOf r with
    | some l => some (b :: l)
    | none => none
  | _ => none
/-- x in a list or tuple: ints in ints, texts in texts, else deep in a list -/
def inB : PyData → PyData → Option Bool
  | .int i, .list ds => match intsOf ds with
    | some ns => some (decide (i ∈ ns))
    | none => if SeqAt.shaped (.list ds) then some (ds.any fun z => PyData.eqv z (.int i)) else none
  | .int i, .tuple ds => match intsOf ds with
    | some ns => some (decide (i ∈ ns))
    | none => none
  | .str i, .list ds => match strsOf ds with
    | some ns => some (decide (i ∈ ns))
    | none => none
  | .str i, .tuple ds => match strsOf ds with
    | some ns => some (decide (i ∈ ns))
    | none => none
  | x, .list ds => if SeqAt.shaped x && SeqAt.shaped (.list ds) then some (ds.any fun z => PyData.eqv z x) else none
  | _, _ => none
def inF (x y : PyData) : Option PyData := match inB x y with
  | some b => some (.bool b)
  | none => none
def niF (x y : PyData) : Option PyData := match inB x y with
  | some b => some (.bool !b)
  | none => none
def isNone : PyData → Bool
  | .none => true
  | _ => false
def isNF (d : PyData) : Option Rz := some (.dat (.bool (isNone d)))
def isNNF (d : PyData) : Option Rz := some (.dat (.bool (!isNone d)))
def negF : PyData → Option Rz
  | .int i => some (.dat (.int (-i)))
  | _ => none
/-- truth of a bool -/
def notV (f : Ev) (e : En) : Out Rs := (asB f e).bnd fun b e1 => .ok (.dat (.bool (!b))) e1
def andV (f g : Ev) (e : En) : Out Rs := (asB f e).bnd fun b e1 => if b then g e1 else .ok (.dat (.bool false)) e1
def orV (f g : Ev) (e : En) : Out Rs := (asB f e).bnd fun b e1 => if b then .ok (.dat (.bool true)) e1 else g e1
abbrev Et := En → Out Bool
def notT (t : Et) (e : En) : Out Bool := (t e).bnd fun b e1 => .ok (!b) e1
def andT (t u : Et) (e : En) : Out Bool := (t e).bnd fun b e1 => if b then u e1 else .ok false e1
def orT (t u : Et) (e : En) : Out Bool := (t e).bnd fun b e1 => if b then .ok true e1 else u e1
def yesT (e : En) : Out Bool := .ok true e
def ifeV (t : Et) (f g : Ev) (e : En) : Out Rs := (t e).bnd fun b e1 => if b then f e1 else g e1
/-! ### lists of arguments: frozen data; trees -/
def argsD : List Ev → En → Out (List PyData)
  | [], e => .ok [] e
  | f :: fs, e => (asD f e).bnd fun d e1 => (argsD fs e1).bnd fun ds e2 => .ok (d :: ds) e2
def argsT : List Ev → En → Out (List Tr)
  | [], e => .ok [] e
  | f :: fs, e => (asT f e).bnd fun d e1 => (argsT fs e1).bnd fun ds e2 => .ok (d :: ds) e2
def datsOf : List Tr → Option (List PyData)
  | [] => some []
  | .dat d :: r => match datsOf r with
    | some l => some (d :: l)
    | none => none
  | _ => none
def mkTup (ts : List Tr) : Rs := match datsOf ts with
  | some ds => .dat (.tuple ds)
  | none => .new (.tup ts)
def mkLst (ts : List Tr) : Tr := match datsOf ts with
  | some ds => .own ds
  | none => .lst ts
def tupV (fs : List Ev) (e : En) : Out Rs := (argsT fs e).bnd fun ts e1 => if lenOk ts.length then .ok (mkTup ts) e1 else .no
def lstV (fs : List Ev) (e : En) : Out Rs := (argsT fs e).bnd fun ts e1 => if lenOk ts.length then .ok (.new (mkLst ts)) e1 else .no
/-! ### subscripts, slices -/
def ixF : PyData → Int → Option PyData
  | .list ds, j => atI ds j
  | .tuple ds, j => atI ds j
  | .str z, j => if lenOk z.length then (match atI z.cps.toList j with
    | some c => some (.str ⟨#[c]⟩)
    | none => none) else none
  | _, _ => none
def subR (x : Rs) (k : Ps) (t : Tr) : Option Rs := match t with
  | .dat d => some (.dat d)
  | .un => none
  | _ => match x with
    | .pl i p => some (.pl i (p ++ [k]))
    | .new _ => some (.new t)
    | .dat _ => none
def partR (x : Rs) (ts : List Tr) (j : Int) : Option Rs := match ixN ts.length j with
  | some k => match ts[k]? with
    | some t => subR x (.k k) t
    | none => none
  | none => none
def ixA (e : En) (x : Rs) (j : Int) : Option Rs := match getR e x with
  | some (.dat d) => match ixF d j with
    | some z => some (.dat z)
    | none => none
  | some (.own ds) => match atI ds j with
    | some z => some (.dat z)
    | none => none
  | some (.scr ns) => match atI ns j with
    | some z => some (.dat (.int z))
    | none => none
  | some (.tup ts) => partR x ts j
  | some (.lst ts) => partR x ts j
  | _ => none
def ixV (f g : Ev) (e : En) : Out Rs := (twoF f g e).bnd fun p e2 => match rdS e2 p.2 with
  | some (.int j) => match ixA e2 p.1 j with
    | some r => .ok r e2
    | none => .no
  | _ => .no
/-- an optional part of a slice -/
def optI : Option Ev → En → Out (Option Int)
  | none, e => .ok none e
  | some f, e => (f e).bnd fun r e1 => match rdS e1 r with
    | some (.int i) => .ok (some i) e1
    | _ => .no
def cutD (xs : List PyData) (lo hi : Option Int) : List PyData := (xs.drop (HT.sIx xs.length 0 lo)).take (HT.sIx xs.length xs.length hi - HT.sIx xs.length 0 lo)
def slF : PyData → Option Int → Option Int → Option Rz
  | .list ds, lo, hi => some (.lst (cutD ds lo hi))
  | .tuple ds, lo, hi => some (.dat (.tuple (cutD ds lo hi)))
  | .str z, lo, hi => if lenOk z.length then some (.dat (.str (cutS z lo hi))) else none
  | _, _, _ => none
/-- the thing is frozen, or stands by itself -/
def slcV (f : Ev) (lo hi : Option Ev) (e : En) : Out Rs := (f e).bnd fun x e1 => ((optI lo (holdR x e1)).bnd fun l e2 => (optI hi e2).bnd fun h e3 => .ok (l, h) e3).onE (unholdR x e1) |>.bnd fun p e4 => match rdS e4 x with
  | some d => match slF d p.1 p.2 with
    | some z => .ok z.rs e4
    | none => .no
  | none => .no
/-! ### built-ins by name -/
def lenF : PyData → Option Rz
  | .list ds => some (.dat (.int ds.length))
  | .tuple ds => some (.dat (.int ds.length))
  | .str z => if lenOk z.length then some (.dat (.int z.length)) else none
  | _ => none
def lenV (f : Ev) (e : En) : Out Rs := (f e).bnd fun r e1 => match getR e1 r with
  | some (.tup ts) => .ok (.dat (.int ts.length)) e1
  | some (.lst ts) => .ok (.dat (.int ts.length)) e1
  | some (.scr ns) => .ok (.dat (.int ns.length)) e1
  | some t => match shal t with
    | some d => match lenF d with
      | some z => .ok z.rs e1
      | none => .no
    | none => .no
  | none => .no
def intF : PyData → Option Rz
  | .int i => some (.dat (.int i))
  | .bool b => some (.dat (.int (if b then 1 else 0)))
  | _ => none
def listF : PyData → Option Rz
  | .list ds => some (.lst ds)
  | .tuple ds => some (.lst ds)
  | _ => none
def tupF : PyData → Option Rz
  | .list ds => some (.dat (.tuple ds))
  | .tuple ds => some (.dat (.tuple ds))
  | _ => none
def tupleV (f : Ev) (e : En) : Out Rs := (f e).bnd fun r e1 => match r with
  | .new (.lst ts) => .ok (mkTup ts) e1
  | _ => match rdS e1 r with
    | some d => match tupF d with
      | some z => .ok z.rs e1
      | none => .no
    | none => .no
def allF : PyData → Option Rz
  | .list ds => match boolsOf ds with
    | some bs => some (.dat (.bool (bs.all id)))
    | none => none
  | _ => none
def anyF : PyData → Option Rz
  | .list ds => match boolsOf ds with
    | some bs => some (.dat (.bool (bs.any id)))
    | none => none
  | _ => none
def max2F : PyData → PyData → Option Rz
  | .int i, .int j => some (.dat (.int (max i j)))
  | _, _ => none
def min2F : PyData → PyData → Option Rz
  | .int i, .int j => some (.dat (.int (min i j)))
  | _, _ => none
def tyN : PyData → String
  | .none => "NoneType"
  | .bool _ => "bool"
  | .int _ => "int"
  | .str _ => "str"
  | .list _ => "list"
  | .tuple _ => "tuple"
  | .dict _ => "dict"
def isiF (T : String) : PyData → Option PyData
  | .dict _ => if btys.contains T then some (.bool false) else none
  | d => match kitB (tyN d) T with
    | some b => some (.bool b)
    | none => none
/-! ### methods that change a list -/
inductive Mt where
  | append | insert | pop | popAt | extend | clear | reverse
def mtF : Mt → List PyData → List PyData → Option (List PyData × PyData)
  | .append, ds, [d] => if lenOk ds.length then some (ds ++ [d], .none) else none
  | .insert, ds, [.int i, d] => if lenOk ds.length && decide (0 ≤ i) && decide (i ≤ ds.length) then some (ds.take i.toNat ++ d :: ds.drop i.toNat, .none) else none
  | .pop, ds, [] => match ds[ds.length - 1]? with
    | some d => some (ds.dropLast, d)
    | none => none
  | .popAt, ds, [.int i] => if lenOk ds.length then (match ixN ds.length i with
    | some k => match ds[k]? with
      | some d => some (ds.eraseIdx k, d)
      | none => none
    | none => none) else none
  | .extend, ds, [.list es] => if lenOk (ds.length + es.length) then some (ds ++ es, .none) else none
  | .clear, _, [] => some ([], .none)
  | .reverse, ds, [] => some (ds.reverse, .none)
  | _, _, _ => none
/-- a list by its node -/
def isL (e : En) (r : Rs) : Bool := match getR e r with
  | some (.own _) => true
  | some (.dat (.list _)) => true
  | some (.lst _) => true
  | _ => false
def mthV (m : Mt) (f : Ev) (fs : List Ev) (e : En) : Out Rs := (f e).bnd fun x e1 => if isL e1 x then (((argsD fs (holdR x e1)).onE (unholdR x e1)).bnd fun ds e2 => match x with
  | .pl i p => match getPl e2 i p with
    | some (.own l) => if isO e2 i then (match mtF m l ds with
      | some (l2, d) => .ok (.dat d) (putPl e2 i p (.own l2))
      | none => .no) else .no
    | _ => .no
  | _ => .no) else .no
/-- a method of a list that only reads: one argument -/
def mth1 (o : PyData → PyData → Option Rz) (f g : Ev) (e : En) : Out Rs := (f e).bnd fun x e1 => if isL e1 x then (((g (holdR x e1)).onE (unholdR x e1)).bnd fun y e2 => match rdS e2 x, rdS e2 y with
  | some d1, some d2 => match o d1 d2 with
    | some z => .ok z.rs e2
    | none => .no
  | _, _ => .no) else .no
/-! ### what is walked -/
abbrev Ei := En → Out (List PyData)
def seqI (f : Ev) (e : En) : Out (List PyData) := (asD f e).bnd fun d e1 => match d with
  | .list ds => .ok ds e1
  | .tuple ds => .ok ds e1
  | _ => .no
def strI (f : Ev) (e : En) : Out (List PyData) := (asD f e).bnd fun d e1 => match d with
  | .str z => .ok (z.cps.toList.map fun c => .str ⟨#[c]⟩) e1
  | _ => .no
def rngL (lo : Int) (n : Nat) : List PyData := (List.range n).map fun (k : Nat) => PyData.int (lo + k)
def inR (i : Int) : Bool := decide (-1000000000 ≤ i) && decide (i ≤ 1000000000)
def rng1 (f : Ev) (e : En) : Out (List PyData) := (asD f e).bnd fun d e1 => match d with
  | .int j => if inR j then .ok (rngL 0 j.toNat) e1 else .no
  | _ => .no
def rng2 (f g : Ev) (e : En) : Out (List PyData) := (asD f e).bnd fun d e1 => (asD g e1).bnd fun d2 e2 => match d, d2 with
  | .int i, .int j => if inR i && inR j then .ok (rngL i (j - i).toNat) e2 else .no
  | _, _ => .no
def enumF (n : Nat) : List PyData → List PyData
  | [] => []
  | d :: ds => .tuple [.int n, d] :: enumF (n + 1) ds
def enumI (f : Ev) (e : En) : Out (List PyData) := (asD f e).bnd fun d e1 => match d with
  | .list ds => .ok (enumF 0 ds) e1
  | _ => .no
def zipF : List PyData → List PyData → List PyData
  | d :: ds, x :: xs => .tuple [d, x] :: zipF ds xs
  | _, _ => []
def zipI (f g : Ev) (e : En) : Out (List PyData) := (asD f e).bnd fun d e1 => (asD g e1).bnd fun d2 e2 => match d, d2 with
  | .list ds, .list es => .ok (zipF ds es) e2
  | _, _ => .no
/-! ### names bound -/
mutual
inductive Tg where
  | name (i : Nat)
  | tup (gs : Tgs)
inductive Tgs where
  | nil
  | cons (g : Tg) (gs : Tgs)
end
/-- a slot is set: not one that is held -/
def setN (i : Nat) (t : Tr) (e : En) : Option En := match e[i]? with
  | some (.o _) => some (e.set i (.o t))
  | _ => none
mutual
def bindG : Tg → PyData → En → Option En
  | .name i, d, e => setN i (.dat d) e
  | .tup gs, d, e => match d with
    | .tuple ds => bindGs gs ds e
    | .list ds => bindGs gs ds e
    | _ => none
def bindGs : Tgs → List PyData → En → Option En
  | .nil, [], e => some e
  | .cons g gs, d :: ds, e => match bindG g d e with
    | some e1 => bindGs gs ds e1
    | none => none
  | _, _, _ => none
end
mutual
def Tg.ns : Tg → List Nat
  | .name i => [i]
  | .tup gs => gs.ns
def Tgs.ns : Tgs → List Nat
  | .nil => []
  | .cons g gs => g.ns ++ gs.ns
end
/-- the names of a block: nothing of one's own is hidden by them -/
def wipeOk (e : En) (vs : List Nat) : Bool := vs.all fun v => match e[v]? with
  | some (.o .un) => true
  | some (.o (.dat _)) => true
  | _ => false
def wipeE (e : En) : List Nat → En
  | [] => e
  | v :: vs => (wipeE e vs).set v (.o .un)
/-- as they were in e -/
def unwipe (e e2 : En) : List Nat → En
  | [] => e2
  | v :: vs => match e[v]? with
    | some x => (unwipe e e2 vs).set v x
    | none => unwipe e e2 vs
def Out.noX {α : Type} : Out α → Out α
  | .exc _ _ => .no
  | o => o
/-- the turns of a comprehension -/
def lcF (vs : List Nat) (g : Tg) (c : Et) (t : En → Out Tr) : List PyData → List Tr → En → Out (List Tr)
  | [], acc, e => .ok acc e
  | d :: ds, acc, e => match bindG g d e with
    | none => .no
    | some e1 => (c e1).noX.bnd fun b e2 => if b then ((t e2).noX.bnd fun y e3 => if lenOk acc.length then lcF vs g c t ds (acc ++ [y]) (wipeE e3 vs) else .no) else lcF vs g c t ds acc (wipeE e2 vs)
def lcV (vs : List Nat) (g : Tg) (it : Ei) (c : Et) (t : En → Out Tr) (mk : List Tr → Tr) (e : En) : Out Rs := (it e).bnd fun ds e1 =>
  if wipeOk e1 vs then (lcF vs g c t ds [] (wipeE e1 vs)).bnd fun acc e2 => .ok (.new (mk acc)) (unwipe e1 e2 vs)
  else .no
end R

/-! What is meant by: a reading does what the interpreter says. -/
namespace R
open PySem PySem.Spec PyProof.Rows L2
open Evl (Ex)
variable {G : Gs} {W : WX} {F H F2 H2 F3 H3 H0 : Hp} {M : Addr → Prop} {s s2 s3 : L2.St} {e e2 e3 : En} {ls ls2 ls3 : Ls}
/-- a new tree, apart from the slots -/
def NewOk (G : Gs) (O : Addr → Prop) (H0 F H : Hp) (ls : Ls) (v : V) (t : Tr) : Prop := ∃ l, TR G F H v t l ∧ l.Nodup ∧ (∀ a ∈ l, O a ∨ H0 a = none) ∧ ∀ a ∈ l, ¬ All ls a
def ResOk (G : Gs) (O : Addr → Prop) (H0 F H : Hp) (s : L2.St) (e : En) (ls : Ls) (v : V) : Rs → Prop
  | .dat d => Dq G F v d
  | .new t => NewOk G O H0 F H ls v t
  | .pl i p => PlR F H s v i p ∧ (p ≠ [] → ∃ t, getPl e i p = some t ∧ t ≠ .un)
/-- an exception as it flies: its class, its own dict -/
def XfR (G : Gs) (F : Hp) : List (Str × V) → List (Str × PyData) → Prop
  | [], [] => True
  | (n, v) :: r, (m, d) :: r' => n = m ∧ Dq G F v d ∧ XfR G F r r'
  | _, _ => False
def XR (G : Gs) (F H : Hp) (ls : Ls) (x : Xc) (c : Value) (d : Option Addr) : Prop := c = .ref (G.cl x.c) ∧ match d with
  | none => x.fs = []
  | some a => ∃ vs, F a = none ∧ ¬ All ls a ∧ H a = some (.xd vs) ∧ XfR G F vs x.fs
/-- what is wanted behind an outcome -/
def Post (G : Gs) (W : WX) (s : L2.St) (e : En) (ls : Ls) (F H : Hp) {α : Type} (o : Out α) (R : α → En → Ls → Hp → Hp → Prop) : Prop := match o with
  | .ok a e2 => ∀ ls2 F2 H2, Stp e ls F H s e2 ls2 F2 H2 s → Env G F2 H2 s e2 ls2 → R a e2 ls2 F2 H2
  | .exc x e2 => ∀ ls2 F2 H2 c d, Stp e ls F H s e2 ls2 F2 H2 s → Env G F2 H2 s e2 ls2 → XR G F2 H2 ls2 x c d → (∀ a, d = some a → H a = none) → W c d s H2
  | .no => False
section
variable {α β : Type}
theorem Post.mono {o : Out α} {R R' : α → En → Ls → Hp → Hp → Prop} (h : Post G W s e ls F H o R)
    (m : ∀ a e2 ls2 F2 H2, o = .ok a e2 → Stp e ls F H s e2 ls2 F2 H2 s → Env G F2 H2 s e2 ls2 → R a e2 ls2 F2 H2 → R' a e2 ls2 F2 H2) : Post G W s e ls F H o R' := by
  cases o with
  | ok a e2 => exact fun ls2 F2 H2 t E => m a e2 ls2 F2 H2 rfl t E (h ls2 F2 H2 t E)
  | exc x e2 => exact h
  | no => exact h
theorem Post.bnd {o : Out α} {f : α → En → Out β} {R : β → En → Ls → Hp → Hp → Prop} (h : Post G W s e ls F H (o.bnd f) R) :
    Post G W s e ls F H o fun a e1 ls1 F1 H1 => Stp e ls F H s e1 ls1 F1 H1 s ∧ Env G F1 H1 s e1 ls1 ∧ Post G W s e1 ls1 F1 H1 (f a e1) fun b e2 ls2 F2 H2 => Stp e ls F H s e2 ls2 F2 H2 s ∧ R b e2 ls2 F2 H2 := by
  cases o with
  | exc x e2 => exact h
  | no => exact h
  | ok a e1 =>
    intro ls1 F1 H1 t E
    refine ⟨t, E, ?_⟩
    have h : Post G W s e ls F H (f a e1) R := h
    cases q : f a e1 with
    | ok b e2 => rw [q] at h; exact fun ls2 F2 H2 t2 E2 => ⟨t.trans t2, h ls2 F2 H2 (t.trans t2) E2⟩
    | exc x e2 => rw [q] at h; exact fun ls2 F2 H2 c d t2 E2 x n => h ls2 F2 H2 c d (t.trans t2) E2 x fun a ha => th_none t.nx (n a ha)
    | no => rw [q] at h; exact h
theorem Post.bnd0 {o : Out α} {f : α → En → Out β} {R : β → En → Ls → Hp → Hp → Prop} (h : Post G W s e ls F H (o.bnd f) R) : Post G W s e ls F H o fun a e1 ls1 F1 H1 => Post G W s e ls F H (f a e1) R := by
  cases o with
  | exc x e2 => exact h
  | no => exact h
  | ok a e1 => exact fun _ _ _ _ _ => h
theorem Post.now {a : α} {R : α → En → Ls → Hp → Hp → Prop} (h : Post G W s e ls F H (.ok a e) R) (k : Ex F H) (E : Env G F H s e ls) : R a e ls F H := h ls F H (Stp.refl k) E
theorem Post.noX {W' : WX} {o : Out α} {R : α → En → Ls → Hp → Hp → Prop} (h : Post G W s e ls F H o.noX R) : Post G W' s e ls F H o R := by
  cases o with
  | ok a e2 => exact h
  | exc x e2 => exact h.elim
  | no => exact h
theorem Post.of {o : Option α} {R : α → En → Ls → Hp → Hp → Prop} (h : Post G W s e ls F H (.of o e) R) (k : Ex F H) (E : Env G F H s e ls) : ∃ a, o = some a ∧ R a e ls F H := by
  cases o with
  | none => exact h.elim
  | some a => exact ⟨a, rfl, h.now k E⟩
end
/-! a term's value, a tree, frozen data, a test, data to be walked -/
def SndV (G : Gs) (W : WX) (te : TE) (f : Ev) : Prop := ∀ s F H e ls, Ex F H → Env G F H s e ls → ∀ Q : VK, Post G W s e ls F H (f e) (fun r e2 ls2 F2 H2 => ∀ v, ResOk G (Ow e ls) H F2 H2 s e2 ls2 v r → Q v H2) → te s H Q
def SndT (G : Gs) (W : WX) (tt : TT) (f : Et) : Prop := ∀ s F H e ls, Ex F H → Env G F H s e ls → ∀ Q : Bool → Hp → Prop, Post G W s e ls F H (f e) (fun b e2 ls2 F2 H2 => Q b H2) → tt s H Q
def SndD (G : Gs) (W : WX) (te : TE) (f : En → Out PyData) : Prop := ∀ s F H e ls, Ex F H → Env G F H s e ls → ∀ Q : VK, Post G W s e ls F H (f e) (fun d e2 ls2 F2 H2 => ∀ v, Dq G F2 v d → Q v H2) → te s H Q
def SndTr (G : Gs) (W : WX) (te : TE) (f : En → Out Tr) : Prop := ∀ s F H e ls, Ex F H → Env G F H s e ls → ∀ Q : VK, Post G W s e ls F H (f e) (fun t e2 ls2 F2 H2 => ∀ v, NewOk G (Ow e ls) H F2 H2 ls2 v t → Q v H2) → te s H Q
/-! ### freezing -/
mutual
theorem TR.fz : ∀ {t : Tr} {v : V} {l : List Addr} {F : Hp} {d : PyData}, Ex F H → l.Nodup → TR G F H v t l → t.data = some d → ∃ F3, NxM (· ∈ l) F H F3 H ∧ Dq G F3 v d
  | .un, v, l, F, d, k, nd, h, q => by simp [Tr.data] at q
  | .dat d0, v, l, F, d, k, nd, h, q => by
    simp [Tr.data] at q; subst q
    cases h with
    | dat h => exact ⟨F, NxM.refl k, h⟩
  | .own ds, v, l, F, d, k, nd, h, q => by
    simp [Tr.data] at q; subst q
    cases h with
    | own h1 h2 h3 =>
      rename_i a xs
      have n : NxM (· ∈ [a]) F H (upd F a (.lst xs)) H := NxM.fz k (List.mem_singleton.mpr rfl) h2 h1 rfl
      exact ⟨_, n, .lst upd_same (dqa_up n.f h3)⟩
  | .lst ts, v, l, F, d, k, nd, h, q => by
    simp only [Tr.data] at q
    cases g : Tr.datas ts with
    | none => rw [g] at q; cases q
    | some ds =>
      rw [g] at q; cases q
      cases h with
      | lst h1 h2 h3 =>
        rename_i a xs l
        have nd' := List.nodup_cons.mp nd
        obtain ⟨F1, n1, d1⟩ := TRs.fz k nd'.2 h3 g
        have hF : F1 a = none := n1.ap a _ (fun z => nd'.1 z) h1 h2 rfl
        have n2 : NxM (· ∈ [a]) F1 H (upd F1 a (.lst xs)) H := NxM.fz n1.k (List.mem_singleton.mpr rfl) h2 hF rfl
        exact ⟨_, (n1.to fun _ z => List.mem_cons_of_mem _ z).trans (n2.to fun b z => by rw [List.mem_singleton.mp z]; exact List.mem_cons_self), .lst upd_same (dqa_up n2.f d1)⟩
  | .tup ts, v, l, F, d, k, nd, h, q => by
    simp only [Tr.data] at q
    cases g : Tr.datas ts with
    | none => rw [g] at q; cases q
    | some ds =>
      rw [g] at q; cases q
      cases h with
      | tup h1 h2 =>
        obtain ⟨F1, n1, d1⟩ := TRs.fz k nd h2 g
        exact ⟨F1, n1, .tup (n1.f _ _ h1) d1⟩
  | .dic _, v, l, F, d, k, nd, h, q => by simp [Tr.data] at q
  | .dit _, v, l, F, d, k, nd, h, q => by simp [Tr.data] at q
  | .obj _ _, v, l, F, d, k, nd, h, q => by simp [Tr.data] at q
  | .scr _, v, l, F, d, k, nd, h, q => by simp [Tr.data] at q
theorem TRs.fz : ∀ {ts : List Tr} {vs : List V} {l : List Addr} {F : Hp} {ds : List PyData}, Ex F H → l.Nodup → TRs G F H vs ts l → Tr.datas ts = some ds → ∃ F3, NxM (· ∈ l) F H F3 H ∧ DqAll G F3 vs ds
  | [], vs, l, F, ds, k, nd, h, q => by
    simp [Tr.datas] at q; subst q
    cases h
    exact ⟨F, NxM.refl k, .nil⟩
  | t :: ts, vs, l, F, ds, k, nd, h, q => by
    simp only [Tr.datas] at q
    cases g1 : t.data with
    | none => rw [g1] at q; cases q
    | some d =>
      cases g2 : Tr.datas ts with
      | none => rw [g1, g2] at q; cases q
      | some es =>
        rw [g1, g2] at q; cases q
        cases h with
        | cons h1 h2 =>
          obtain ⟨F1, n1, d1⟩ := TR.fz k (nodup_l nd) h1 g1
          obtain ⟨F3, n2, d2⟩ := TRs.fz n1.k (nodup_r nd) (h2.nx n1 fun a ha hb => nodup_x nd a hb ha) g2
          exact ⟨F3, (n1.to fun _ z => List.mem_append_left _ z).trans (n2.to fun _ z => List.mem_append_right _ z), .cons (dq_up n2.f d1) d2⟩
end
/-- what is new since the start of a step is frozen -/
theorem Stp.fz {l : List Addr} (t : Stp e ls F H s e2 ls2 F2 H2 s2) (n : NxM (· ∈ l) F2 H2 F3 H2) (hl : ∀ a ∈ l, Ow e ls a ∨ H a = none) : Stp e ls F H s e2 ls2 F3 H2 s2 := ⟨t.nx.then n hl, t.ln, t.ow, t.al, t.ro⟩
theorem data_un {t : Tr} {d : PyData} (h : t.data = some d) : t ≠ .un := fun z => by subst z; simp [Tr.data] at h
theorem frz_ok (E : Env G F2 H2 s e2 ls2) (T : Stp e ls F H s e2 ls2 F2 H2 s) {v : V} {r : Rs} {d : PyData} (hv : ResOk G (Ow e ls) H F2 H2 s e2 ls2 v r) (q : frz e2 r = some (d, e3)) : ∃ F3 ls3, Stp e ls F H s e3 ls3 F3 H2 s ∧ Env G F3 H2 s e3 ls3 ∧ Dq G F3 v d := by
  cases r with
  | dat d' => cases q; exact ⟨F2, ls2, T, E, hv⟩
  | new t =>
    simp only [frz] at q
    obtain ⟨l, h1, h2, h3, h4⟩ := hv
    cases g : t.data with
    | none => rw [g] at q; cases q
    | some d' =>
      rw [g] at q; cases q
      obtain ⟨F3, n, dq⟩ := h1.fz T.k h2 g
      exact ⟨F3, ls2, T.fz n h3, E.nx n fun a ha hb => h4 a hb ha, dq⟩
  | pl i p =>
    simp only [frz] at q
    cases g : getPl e2 i p with
    | none => rw [g] at q; cases q
    | some t =>
      rw [g] at q
      dsimp only at q
      cases g2 : t.data with
      | none => rw [g2] at q; cases q
      | some d' =>
        rw [g2] at q
        dsimp only at q
        split at q
        · rename_i ho
          cases q
          obtain ⟨l1, h1, h2, h3, h4⟩ := E.lens T.k g (data_un g2) ho hv.1
          obtain ⟨F3, n, dq⟩ := h1.fz T.k h2 g2
          obtain ⟨ls3, t3, E3, _⟩ := h4 F3 H2 (.dat d) [] n (.dat dq) List.nodup_nil (fun _ z => nomatch z)
          exact ⟨F3, ls3, T.trans t3, E3, dq⟩
        · cases q
theorem SndV.dat {te : TE} {f : Ev} (h : SndV G W te f) : SndD G W te (asD f) := fun s F H e ls k E Q q => h s F H e ls k E Q (Post.mono q.bnd0 fun r e2 ls2 F2 H2 _ t E2 p v hv => by
  cases g : frz e2 r with
  | none => rw [g] at p; exact p.elim
  | some y =>
    rw [g] at p
    obtain ⟨F3, ls3, t3, E3, dq⟩ := frz_ok E2 t hv g
    exact p ls3 F3 H2 t3 E3 v dq)
end R

/-! Two parts one behind the other; reading. -/
namespace R
open PySem PySem.Spec PyProof.Rows L2
open Evl (Ex)
variable {G : Gs} {W : WX} {F H F1 H1 F2 H2 F3 H3 H0 : Hp} {M O : Addr → Prop} {s s2 s3 : L2.St} {e e1 e2 e3 : En} {ls ls1 ls2 ls3 : Ls}
theorem toT_ok (E : Env G F2 H2 s e2 ls2) (T : Stp e ls F H s e2 ls2 F2 H2 s) {v : V} {r : Rs} {t : Tr} (hv : ResOk G (Ow e ls) H F2 H2 s e2 ls2 v r) (q : toT e2 r = some (t, e3)) : ∃ F3 ls3, Stp e ls F H s e3 ls3 F3 H2 s ∧ Env G F3 H2 s e3 ls3 ∧ NewOk G (Ow e ls) H F3 H2 ls3 v t := by
  cases r with
  | dat d' => cases q; exact ⟨F2, ls2, T, E, [], .dat hv, List.nodup_nil, fun _ z => (nomatch z), fun _ z => (nomatch z)⟩
  | new t => cases q; exact ⟨F2, ls2, T, E, hv⟩
  | pl i p =>
    simp only [toT] at q
    cases g : frz e2 (.pl i p) with
    | none => rw [g] at q; cases q
    | some y =>
      obtain ⟨d, e4⟩ := y
      rw [g] at q; cases q
      obtain ⟨F3, ls3, h1, h2, h3⟩ := frz_ok E T hv g
      exact ⟨F3, ls3, h1, h2, [], .dat h3, List.nodup_nil, fun _ z => (nomatch z), fun _ z => (nomatch z)⟩
theorem SndV.tr {te : TE} {f : Ev} (h : SndV G W te f) : SndTr G W te (asT f) := fun s F H e ls k E Q q => h s F H e ls k E Q (Post.mono q.bnd0 fun r e2 ls2 F2 H2 _ t E2 p v hv => by
  cases g : toT e2 r with
  | none => rw [g] at p; exact p.elim
  | some y =>
    rw [g] at p
    obtain ⟨F3, ls3, t3, E3, dq⟩ := toT_ok E2 t hv g
    exact p ls3 F3 H2 t3 E3 v dq)
theorem PvR.nx (n : NxM M F H F2 H2) : ∀ {p : Pa} {u v : V} {t t1 : Tr} {l : List Addr}, TR G F H u t l → (∀ a ∈ l, ¬ M a) → Tr.get p t = some t1 → PvR F H p u v → PvR F2 H2 p u v
  | [], _, _, _, _, _, _, _, _, h => h
  | .k j :: p, u, v, t, t1, l, h, m, q, ⟨a', xs', w, hu, hx, hw, hp⟩ => by
    cases h with
    | tup h1 h2 =>
      rename_i a xs ts
      have ea : a' = a := by cases hu; rfl
      subst ea
      have hx' : xs' = xs := by
        rcases hx with z | z
        · rw [h1] at z; cases z; rfl
        · rw [h1] at z; cases z.1
      subst hx'
      simp only [Tr.get] at q
      cases g : ts[j]? with
      | none => rw [g] at q; cases q
      | some t' =>
        rw [g] at q
        obtain ⟨w', m', g1, g2, g3⟩ := h2.get g
        rw [hw] at g1; cases g1
        exact ⟨a', xs', w, hu, .inl (n.f _ _ h1), hw, PvR.nx n g2 (fun a ha => m a (g3 a ha)) q hp⟩
    | lst h1 h2 h3 =>
      rename_i a xs ts l
      have ea : a' = a := by cases hu; rfl
      subst ea
      have hx' : xs' = xs := by
        rcases hx with z | z
        · rw [h1] at z; cases z
        · rw [h2] at z; cases z.2; rfl
      subst hx'
      simp only [Tr.get] at q
      cases g : ts[j]? with
      | none => rw [g] at q; cases q
      | some t' =>
        rw [g] at q
        obtain ⟨w', m', g1, g2, g3⟩ := h3.get g
        rw [hw] at g1; cases g1
        have ma := m a' List.mem_cons_self
        exact ⟨a', xs', w, hu, .inr ⟨n.ap _ _ ma h1 h2 rfl, n.h _ _ ma h2 rfl⟩, hw, PvR.nx n g2 (fun a ha => m a (List.mem_cons_of_mem _ (g3 a ha))) q hp⟩
    | _ => cases q
  | .f x :: p, u, v, t, t1, l, h, m, q, ⟨a', C', dx', vs', w, hu, hx, hw, hp⟩ => by
    cases h with
    | obj h1 h2 h3 h4 h5 =>
      rename_i a dx c vs fs l
      have ea : a' = a := by cases hu; rfl
      subst ea
      rw [h3] at hx
      cases hx
      simp only [Tr.get] at q
      cases g : fs.lookup x with
      | none => rw [g] at q; cases q
      | some t' =>
        rw [g] at q
        obtain ⟨w', m', g1, g2, g3⟩ := h5.get g
        rw [hw] at g1; cases g1
        have ma := m a' List.mem_cons_self
        exact ⟨a', _, _, _, w, hu, n.h _ _ ma h3 rfl, hw, PvR.nx n g2 (fun a ha => m a (List.mem_cons_of_mem _ (List.mem_cons_of_mem _ (g3 a ha)))) q hp⟩
    | _ => cases q
theorem NewOk.stp {v : V} {t : Tr} (h : NewOk G O H0 F1 H1 ls1 v t) (T : Stp e1 ls1 F1 H1 s e2 ls2 F2 H2 s2) : NewOk G O H0 F2 H2 ls2 v t := by
  obtain ⟨l, h1, h2, h3, h4⟩ := h
  obtain ⟨g1, g2⟩ := T.tr h1 h4
  exact ⟨l, g1, h2, h3, g2⟩
theorem holdE_at {i : Nat} {t : Tr} (h : e[i]? = some (.o t)) : holdE i e = e.set i (.r t) := by unfold holdE; rw [h]
theorem holdE_r {i : Nat} {t : Tr} (h : e[i]? = some (.r t)) : holdE i e = e := by unfold holdE; rw [h]
theorem unholdE_at {i : Nat} {t : Tr} (h : e[i]? = some (.o t)) : unholdE i e e2 = e2.set i (.o t) := by unfold unholdE; rw [h]
theorem unholdE_r {i : Nat} {t : Tr} (h : e[i]? = some (.r t)) : unholdE i e e2 = e2 := by unfold unholdE; rw [h]
/-- through the second part -/
theorem ResOk.stp {v : V} {r : Rs} (E1 : Env G F1 H1 s e1 ls1) (h : ResOk G O H0 F1 H1 s e1 ls1 v r) (T : Stp (holdR r e1) ls1 F1 H1 s e2 ls2 F2 H2 s) (E2 : Env G F2 H2 s e2 ls2) :
    ResOk G O H0 F2 H2 s (unholdR r e1 e2) ls2 v r ∧ Stp e1 ls1 F1 H1 s (unholdR r e1 e2) ls2 F2 H2 s ∧ Env G F2 H2 s (unholdR r e1 e2) ls2 := by
  cases r with
  | dat d => exact ⟨dq_up T.nx.f h, T, E2⟩
  | new t => exact ⟨NewOk.stp h T, T, E2⟩
  | pl i p =>
    cases p with
    | nil =>
      obtain ⟨⟨u, h1, h2⟩, _⟩ := h
      exact ⟨⟨⟨u, h1, h2⟩, fun z => absurd rfl z⟩, T, E2⟩
    | cons q p =>
      obtain ⟨Eu, Tu⟩ := E2.unhold T
      refine ⟨?_, Tu, Eu⟩
      obtain ⟨⟨u, h1, h2⟩, h3⟩ := h
      obtain ⟨t, g1, g2⟩ := h3 (fun z => nomatch z)
      obtain ⟨x, u', l, k1, k2, k3, k4, k5⟩ := E1.getV g1 g2
      rw [h1] at k3; cases k3
      have hi : i < e1.length := (List.getElem?_eq_some_iff.mp k1).1
      have nm : ∀ a ∈ l, ¬ Ow (holdE i e1) ls1 a := fun a ha hb => by
        obtain ⟨j, t', m, w1, w2, w3⟩ := hb
        by_cases c : j = i
        · subst c
          cases x with
          | o t0 => rw [holdE_at k1, List.getElem?_set_self hi] at w1; cases w1
          | r t0 => rw [holdE_r k1, k1] at w1; cases w1
        · exact E1.ap j i m l a c w2 k4 w3 ha
      refine ⟨⟨u, h1, PvR.nx T.nx k5 nm k2 h2⟩, fun _ => ⟨t, ?_, g2⟩⟩
      show getPl (unholdE i e1 e2) i _ = some t
      cases x with
      | o t0 =>
        have hi2 : i < e2.length := by
          have := T.ln
          have hl : (holdE i e1).length = e1.length := by rw [holdE_at k1, set_len]
          have T' : Stp (holdE i e1) ls1 F1 H1 s e2 ls2 F2 H2 s := T
          rw [T'.ln, hl]; exact hi
        unfold getPl
        rw [unholdE_at k1, List.getElem?_set_self hi2]
        exact k2
      | r t0 =>
        have T' : Stp (holdE i e1) ls1 F1 H1 s e2 ls2 F2 H2 s := T
        obtain ⟨w1, _, _⟩ := T'.ro i t0 (by rw [holdE_r k1]; exact k1)
        unfold getPl
        rw [unholdE_r k1, w1]
        exact k2
theorem Env.holdR {r : Rs} (E : Env G F H s e ls) : Env G F H s (holdR r e) ls := by
  cases r with
  | dat d => exact E
  | new t => exact E
  | pl i p =>
    cases p with
    | nil => exact E
    | cons q p => exact E.hold
/-- an exception in the second part -/
theorem unh_exc {v : V} {r : Rs} (h : ResOk G O H0 F1 H1 s e1 ls1 v r) (T : Stp (holdR r e1) ls1 F1 H1 s e2 ls2 F2 H2 s) (E2 : Env G F2 H2 s e2 ls2) : Stp e1 ls1 F1 H1 s (unholdR r e1 e2) ls2 F2 H2 s ∧ Env G F2 H2 s (unholdR r e1 e2) ls2 := by
  cases r with
  | dat d => exact ⟨T, E2⟩
  | new t => exact ⟨T, E2⟩
  | pl i p =>
    cases p with
    | nil => exact ⟨T, E2⟩
    | cons q p =>
      obtain ⟨Eu, Tu⟩ := E2.unhold T
      exact ⟨Tu, Eu⟩
/-- behind holding: what was wanted of the slots with it taken back -/
theorem Post.onE {α : Type} {v : V} {r : Rs} {o : Out α} {R : α → En → Ls → Hp → Hp → Prop} (E1 : Env G F1 H1 s e1 ls1) (hr : ResOk G O H0 F1 H1 s e1 ls1 v r) (h : Post G W s e1 ls1 F1 H1 (o.onE (unholdR r e1)) R) :
    Post G W s (holdR r e1) ls1 F1 H1 o fun a e2 ls2 F2 H2 => R a (unholdR r e1 e2) ls2 F2 H2 ∧ ResOk G O H0 F2 H2 s (unholdR r e1 e2) ls2 v r ∧ Stp e1 ls1 F1 H1 s (unholdR r e1 e2) ls2 F2 H2 s ∧ Env G F2 H2 s (unholdR r e1 e2) ls2 := by
  cases o with
  | no => exact h
  | exc x e2 =>
    intro ls2 F2 H2 c d T E2 hx hn
    obtain ⟨a, b⟩ := unh_exc hr T E2
    exact h ls2 F2 H2 c d a b hx hn
  | ok a e2 =>
    intro ls2 F2 H2 T E2
    obtain ⟨a1, a2, a3⟩ := hr.stp E1 T E2
    exact ⟨h ls2 F2 H2 a2 a3, a1, a2, a3⟩
/-- the owner's side of a result grows to the start -/
theorem ResOk.back {v : V} {r : Rs} (T : Stp e ls F H s e1 ls1 F1 H1 s) (h : ResOk G (Ow e1 ls1) H1 F2 H2 s e2 ls2 v r) : ResOk G (Ow e ls) H F2 H2 s e2 ls2 v r := by
  cases r with
  | dat d => exact h
  | pl i p => exact h
  | new t =>
    obtain ⟨l, h1, h2, h3, h4⟩ := h
    refine ⟨l, h1, h2, fun a ha => ?_, h4⟩
    rcases h3 a ha with z | z
    · exact T.ow a z
    · exact .inr (th_none T.nx z)
theorem NewOk.back {v : V} {t : Tr} (T : Stp e ls F H s e1 ls1 F1 H1 s) (h : NewOk G (Ow e1 ls1) H1 F2 H2 ls2 v t) : NewOk G (Ow e ls) H F2 H2 ls2 v t := ResOk.back (e2 := e1) (r := .new t) T h
theorem holdR_ow {r : Rs} {a : Addr} (h : Ow (holdR r e) ls a) : Ow e ls a := by
  cases r with
  | dat d => exact h
  | new t => exact h
  | pl i p =>
    cases p with
    | nil => exact h
    | cons q p => exact hold_ow h
theorem ResOk.held {v : V} {r r' : Rs} (h : ResOk G (Ow (holdR r' e1) ls1) H1 F2 H2 s e2 ls2 v r) (hp : ∀ i p, r = .pl i p → p ≠ [] → ∃ t, getPl e3 i p = some t ∧ t ≠ .un) : ResOk G (Ow e1 ls1) H1 F2 H2 s e3 ls2 v r := by
  cases r with
  | dat d => exact h
  | pl i p => exact ⟨h.1, hp i p rfl⟩
  | new t =>
    obtain ⟨l, h1, h2, h3, h4⟩ := h
    exact ⟨l, h1, h2, fun a ha => (h3 a ha).imp holdR_ow id, h4⟩
theorem getPl_unholdE {i j : Nat} {p : Pa} {t : Tr} (T : Stp (holdE j e1) ls1 F1 H1 s e2 ls2 F2 H2 s) (h : getPl e2 i p = some t) : getPl (unholdE j e1 e2) i p = some t := by
  cases q : e1[j]? with
  | none => unfold unholdE; rw [q]; exact h
  | some x =>
    cases x with
    | r t0 => rw [unholdE_r q]; exact h
    | o t0 =>
      rw [unholdE_at q]
      have hj : j < e1.length := (List.getElem?_eq_some_iff.mp q).1
      obtain ⟨w1, _, _⟩ := T.ro j t0 (by rw [holdE_at q, List.getElem?_set_self hj])
      by_cases c : j = i
      · subst c
        unfold getPl at h ⊢
        rw [w1] at h
        rw [List.getElem?_set_self (List.getElem?_eq_some_iff.mp w1).1]
        exact h
      · unfold getPl at h ⊢
        rw [List.getElem?_set_ne c]
        exact h
theorem getPl_unhold {r : Rs} {i : Nat} {p : Pa} {t : Tr} (T : Stp (holdR r e1) ls1 F1 H1 s e2 ls2 F2 H2 s) (h : getPl e2 i p = some t) : getPl (unholdR r e1 e2) i p = some t := by
  cases r with
  | dat d => exact h
  | new t => exact h
  | pl j q =>
    cases q with
    | nil => exact h
    | cons q0 q => exact getPl_unholdE T h
/-- two operands -/
theorem snd_two {ta tb : TE} {f g : Ev} (ha : SndV G W ta f) (hb : SndV G W tb g) (k : Ex F H) (E : Env G F H s e ls) {R : V → V → Hp → Prop}
    (h : Post G W s e ls F H (twoF f g e) fun p e2 ls2 F2 H2 => ∀ v w, ResOk G (Ow e ls) H F2 H2 s e2 ls2 v p.1 → ResOk G (Ow e ls) H F2 H2 s e2 ls2 w p.2 → R v w H2) :
    ta s H fun v H1 => tb s H1 fun w H2 => R v w H2 := by
  refine ha s F H e ls k E _ (Post.mono h.bnd fun x e1 ls1 F1 H1 _ T1 E1 p v hv => ?_)
  obtain ⟨_, _, p⟩ := p
  have q := Post.onE E1 hv (Post.bnd0 p)
  refine hb s F1 H1 (holdR x e1) ls1 T1.k E1.holdR _ (Post.mono q fun y e2 ls2 F2 H2 _ T2 E2 r w hw => ?_)
  obtain ⟨r1, r2, r3, r4⟩ := r
  obtain ⟨_, z⟩ := r1 ls2 F2 H2 r3 r4
  exact z v w r2 (ResOk.back T1 (hw.held fun i p ep hp => by
    subst ep
    obtain ⟨t, g1, g2⟩ := hw.2 hp
    exact ⟨t, getPl_unhold T2 g1, g2⟩))
/-! ### reading -/
/-- its own node in H, what it holds frozen -/
inductive Dr (G : Gs) (F H : Hp) : V → PyData → Prop
  | non : Dr G F H .non .none
  | bl (b : Bool) : Dr G F H (.bl b) (.bool b)
  | int (i : Int) : Dr G F H (.int i) (.int i)
  | str (x : Str) : Dr G F H (.str x) (.str x)
  | lst {a : Addr} {xs : List V} {ds : List PyData} : H a = some (.lst xs) → DqAll G F xs ds → Dr G F H (.ref a) (.list ds)
  | tup {a : Addr} {xs : List V} {ds : List PyData} : H a = some (.tup xs) → F a = some (.tup xs) → DqAll G F xs ds → Dr G F H (.ref a) (.tuple ds)
  | dic {v : V} {kvs : List (PyData × PyData)} : Dq G F v (.dict kvs) → Dr G F H v (.dict kvs)
theorem Dq.dr {v : V} {d : PyData} (k : Ex F H) (h : Dq G F v d) : Dr G F H v d := by
  cases h with
  | non => exact .non
  | bl b => exact .bl b
  | int i => exact .int i
  | str x => exact .str x
  | lst h1 h2 => exact .lst (k _ _ h1) h2
  | tup h1 h2 => exact .tup (k _ _ h1) h1 h2
  | exc h1 x => exact .dic (.exc h1 x)
  | exf h1 h2 h3 h4 x => exact .dic (.exf h1 h2 h3 h4 x)
theorem Dr.deep {v : V} {d : PyData} (k : Ex F H) (h : Dr G F H v d) : Dq G H v d := by
  cases h with
  | non => exact .non
  | bl b => exact .bl b
  | int i => exact .int i
  | str x => exact .str x
  | lst h1 h2 => exact .lst h1 (dqa_up k h2)
  | tup h1 _ h2 => exact .tup h1 (dqa_up k h2)
  | dic h => exact dq_up k h
theorem TR.shal {v : V} {t : Tr} {l : List Addr} {d : PyData} (k : Ex F H) (h : TR G F H v t l) (q : shal t = some d) : Dr G F H v d := by
  cases h with
  | dat h => cases q; exact h.dr k
  | own h1 h2 h3 => cases q; exact .lst h2 h3
  | _ => cases q
mutual
theorem TR.dq (k : Ex F H) : ∀ {t : Tr} {v : V} {l : List Addr} {d : PyData}, TR G F H v t l → t.data = some d → Dq G H v d
  | .un, v, l, d, h, q => by simp [Tr.data] at q
  | .dat d0, v, l, d, h, q => by
    simp [Tr.data] at q; subst q
    cases h with
    | dat h => exact dq_up k h
  | .own ds, v, l, d, h, q => by
    simp [Tr.data] at q; subst q
    cases h with
    | own h1 h2 h3 => exact .lst h2 (dqa_up k h3)
  | .lst ts, v, l, d, h, q => by
    simp only [Tr.data] at q
    cases g : Tr.datas ts with
    | none => rw [g] at q; cases q
    | some ds =>
      rw [g] at q; cases q
      cases h with
      | lst h1 h2 h3 => exact .lst h2 (TRs.dq k h3 g)
  | .tup ts, v, l, d, h, q => by
    simp only [Tr.data] at q
    cases g : Tr.datas ts with
    | none => rw [g] at q; cases q
    | some ds =>
      rw [g] at q; cases q
      cases h with
      | tup h1 h2 => exact .tup (k _ _ h1) (TRs.dq k h2 g)
  | .dic _, v, l, d, h, q => by simp [Tr.data] at q
  | .dit _, v, l, d, h, q => by simp [Tr.data] at q
  | .obj _ _, v, l, d, h, q => by simp [Tr.data] at q
  | .scr _, v, l, d, h, q => by simp [Tr.data] at q
theorem TRs.dq (k : Ex F H) : ∀ {ts : List Tr} {vs : List V} {l : List Addr} {ds : List PyData}, TRs G F H vs ts l → Tr.datas ts = some ds → DqAll G H vs ds
  | [], vs, l, ds, h, q => by
    simp [Tr.datas] at q; subst q
    cases h
    exact .nil
  | t :: ts, vs, l, ds, h, q => by
    simp only [Tr.datas] at q
    cases g1 : t.data with
    | none => rw [g1] at q; cases q
    | some d =>
      cases g2 : Tr.datas ts with
      | none => rw [g1, g2] at q; cases q
      | some es =>
        rw [g1, g2] at q; cases q
        cases h with
        | cons h1 h2 => exact .cons (TR.dq k h1 g1) (TRs.dq k h2 g2)
end
/-- the tree of a value -/
theorem getR_ok (E : Env G F H s e ls) {v : V} {r : Rs} {t : Tr} (hv : ResOk G O H0 F H s e ls v r) (q : getR e r = some t) (hn : t ≠ .un) : ∃ l, TR G F H v t l := by
  cases r with
  | dat d => cases q; exact ⟨[], .dat hv⟩
  | new t' => cases q; obtain ⟨l, h, _⟩ := hv; exact ⟨l, h⟩
  | pl i p => obtain ⟨l, h, _⟩ := E.get q hn hv.1; exact ⟨l, h⟩
theorem shal_un {t : Tr} {d : PyData} (h : shal t = some d) : t ≠ .un := fun z => by subst z; cases h
theorem rdS_ok (E : Env G F H s e ls) (k : Ex F H) {v : V} {r : Rs} {d : PyData} (hv : ResOk G O H0 F H s e ls v r) (q : rdS e r = some d) : Dr G F H v d := by
  unfold rdS at q
  cases g : getR e r with
  | none => rw [g] at q; cases q
  | some t =>
    rw [g] at q
    obtain ⟨l, h⟩ := getR_ok E hv g (shal_un q)
    exact h.shal k q
theorem rdD_ok (E : Env G F H s e ls) (k : Ex F H) {v : V} {r : Rs} {d : PyData} (hv : ResOk G O H0 F H s e ls v r) (q : rdD e r = some d) : Dq G H v d := by
  unfold rdD at q
  cases g : getR e r with
  | none => rw [g] at q; cases q
  | some t =>
    rw [g] at q
    obtain ⟨l, h⟩ := getR_ok E hv g (data_un q)
    exact h.dq k q
/-- what a built-in gives stands so -/
def RzOk (G : Gs) (F H F2 H2 : Hp) (v : V) : Rz → Prop
  | .dat d => Nx F H F2 H2 ∧ Dq G F2 v d
  | .lst ds => Nx F H F2 H2 ∧ ∃ p xs, v = .ref p ∧ H p = none ∧ F2 p = none ∧ H2 p = some (.lst xs) ∧ DqAll G F2 xs ds
theorem RzOk.res {v : V} {z : Rz} (E : Env G F H s e ls) (h : RzOk G F H F2 H2 v z) : Stp e ls F H s e ls F2 H2 s ∧ Env G F2 H2 s e ls ∧ ResOk G (Ow e ls) H F2 H2 s e ls v z.rs := by
  cases z with
  | dat d => exact ⟨Stp.n0 h.1, E.n0 h.1, h.2⟩
  | lst ds =>
    obtain ⟨n, p, xs, rfl, h1, h2, h3, h4⟩ := h
    refine ⟨Stp.n0 n, E.n0 n, [p], .own h2 h3 h4, by simp, fun a ha => .inr (by rw [List.mem_singleton.mp ha]; exact h1), fun a ha hb => ?_⟩
    rw [List.mem_singleton.mp ha] at hb
    exact (E.adr hb).2 h1
def Rv2 (G : Gs) (r : R2) (o : PyData → PyData → Option Rz) : Prop := ∀ F H a b x y z, Ex F H → Dr G F H a x → Dr G F H b y → o x y = some z → ∀ Q : VK, (∀ v F2 H2, RzOk G F H F2 H2 v z → Q v H2) → r a b H Q
def Rv2D (G : Gs) (r : R2) (o : PyData → PyData → Option PyData) : Prop := ∀ H a b x y z, Dq G H a x → Dq G H b y → o x y = some z → ∀ Q : VK, (∀ v, (∀ F, Dq G F v z) → Q v H) → r a b H Q
def Rv1 (G : Gs) (r : V → Hp → VK → Prop) (o : PyData → Option Rz) : Prop := ∀ F H a x z, Ex F H → Dr G F H a x → o x = some z → ∀ Q : VK, (∀ v F2 H2, RzOk G F H F2 H2 v z → Q v H2) → r a H Q
def Rv1D (G : Gs) (r : V → Hp → VK → Prop) (o : PyData → Option PyData) : Prop := ∀ H a x z, Dq G H a x → o x = some z → ∀ Q : VK, (∀ v, (∀ F, Dq G F v z) → Q v H) → r a H Q
theorem snd_op2 {ta tb : TE} {f g : Ev} {r : R2} {o : PyData → PyData → Option Rz} (ha : SndV G W ta f) (hb : SndV G W tb g) (hr : Rv2 G r o) : SndV G W (tOp r ta tb) (op2 o f g) := fun s F H e ls k E Q q => by
  refine snd_two ha hb k E (R := fun v w H2 => r v w H2 Q) (Post.mono q.bnd0 fun p e2 ls2 F2 H2 _ T E2 h v w hv hw => ?_)
  cases g1 : rdS e2 p.1 with
  | none => rw [g1] at h; exact h.elim
  | some x =>
    cases g2 : rdS e2 p.2 with
    | none => rw [g1, g2] at h; exact h.elim
    | some y =>
      rw [g1, g2] at h
      dsimp only at h
      cases g3 : o x y with
      | none => rw [g3] at h; exact h.elim
      | some z =>
        rw [g3] at h
        refine hr F2 H2 v w x y z T.k (rdS_ok E2 T.k hv g1) (rdS_ok E2 T.k hw g2) g3 Q fun u F3 H3 hz => ?_
        obtain ⟨t1, t2, t3⟩ := hz.res E2
        exact h ls2 F3 H3 (T.trans t1) t2 u (t3.back T)
theorem snd_op2D {ta tb : TE} {f g : Ev} {r : R2} {o : PyData → PyData → Option PyData} (ha : SndV G W ta f) (hb : SndV G W tb g) (hr : Rv2D G r o) : SndV G W (tOp r ta tb) (op2D o f g) := fun s F H e ls k E Q q => by
  refine snd_two ha hb k E (R := fun v w H2 => r v w H2 Q) (Post.mono q.bnd0 fun p e2 ls2 F2 H2 _ T E2 h v w hv hw => ?_)
  cases g1 : rdD e2 p.1 with
  | none => rw [g1] at h; exact h.elim
  | some x =>
    cases g2 : rdD e2 p.2 with
    | none => rw [g1, g2] at h; exact h.elim
    | some y =>
      rw [g1, g2] at h
      dsimp only at h
      cases g3 : o x y with
      | none => rw [g3] at h; exact h.elim
      | some z =>
        rw [g3] at h
        exact hr H2 v w x y z (rdD_ok E2 T.k hv g1) (rdD_ok E2 T.k hw g2) g3 Q fun u hz => h ls2 F2 H2 T E2 u (hz F2)
theorem snd_op1 {ta : TE} {f : Ev} {r : V → Hp → VK → Prop} {o : PyData → Option Rz} (ha : SndV G W ta f) (hr : Rv1 G r o) : SndV G W (tUn r ta) (op1 o f) := fun s F H e ls k E Q q => by
  refine ha s F H e ls k E _ (Post.mono q.bnd0 fun p e2 ls2 F2 H2 _ T E2 h v hv => ?_)
  cases g1 : rdS e2 p with
  | none => rw [g1] at h; exact h.elim
  | some x =>
    rw [g1] at h
    dsimp only at h
    cases g3 : o x with
    | none => rw [g3] at h; exact h.elim
    | some z =>
      rw [g3] at h
      refine hr F2 H2 v x z T.k (rdS_ok E2 T.k hv g1) g3 Q fun u F3 H3 hz => ?_
      obtain ⟨t1, t2, t3⟩ := hz.res E2
      exact h ls2 F3 H3 (T.trans t1) t2 u (t3.back T)
theorem snd_op1D {ta : TE} {f : Ev} {r : V → Hp → VK → Prop} {o : PyData → Option PyData} (ha : SndV G W ta f) (hr : Rv1D G r o) : SndV G W (tUn r ta) (op1D o f) := fun s F H e ls k E Q q => by
  refine ha s F H e ls k E _ (Post.mono q.bnd0 fun p e2 ls2 F2 H2 _ T E2 h v hv => ?_)
  cases g1 : rdD e2 p with
  | none => rw [g1] at h; exact h.elim
  | some x =>
    rw [g1] at h
    dsimp only at h
    cases g3 : o x with
    | none => rw [g3] at h; exact h.elim
    | some z =>
      rw [g3] at h
      exact hr H2 v x z (rdD_ok E2 T.k hv g1) g3 Q fun u hz => h ls2 F2 H2 T E2 u (hz F2)
end R

/-! Expressions of the text and what the interpreter makes of them. -/
namespace R
open PySem PySem.Spec PyProof.Rows L2
open Evl (Ex)
variable {G : Gs} {W : WX} {F H F1 H1 F2 H2 F3 H3 H0 : Hp} {M O : Addr → Prop} {s s2 s3 : L2.St} {e e1 e2 e3 : En} {ls ls1 ls2 ls3 : Ls}
/-! ### operations on data -/
theorem opR_or {X : Cx} {f : Value → Value → Sem Value} {r1 r2 : R2} (h1 : OpR X f r1) (h2 : OpR X f r2) : OpR X f (fun x y H Q => r1 x y H Q ∨ r2 x y H Q) := fun pins s σ H x y v u Q I rx ry h => by
  rcases h with h | h
  · exact h1 pins s σ H x y v u Q I rx ry h
  · exact h2 pins s σ H x y v u Q I rx ry h
theorem rz_now {v : V} {d : PyData} (k : Ex F H) (h : Dq G F v d) : RzOk G F H F H v (.dat d) := ⟨NxM.refl k, h⟩
theorem rz_new {p : Addr} {xs : List V} {ds : List PyData} (k : Ex F H) (hp : H p = none) (h : DqAll G F xs ds) : RzOk G F H F (upd H p (.lst xs)) (.ref p) (.lst ds) := ⟨Nx.mut k hp, p, xs, rfl, hp, ex_free k hp, upd_same, h⟩
theorem rz_tup {p : Addr} {xs : List V} {ds : List PyData} (k : Ex F H) (hp : H p = none) (h : DqAll G F xs ds) : RzOk G F H (upd F p (.tup xs)) (upd H p (.tup xs)) (.ref p) (.dat (.tuple ds)) := ⟨Nx.new k hp, .tup upd_same (dqa_up (Nx.new (o := .tup xs) k hp).f h)⟩
theorem len_line {n : Nat} (h : lenOk n = true) : n ≤ sizeLine := Nat.le_trans (of_decide_eq_true h) (by decide)
theorem len_lt {n : Nat} (h : lenOk n = true) : n < sizeLine := Nat.lt_of_le_of_lt (of_decide_eq_true h) (by decide)
def rAdd (K : PySem.W.Frag) : R2 := fun x y H Q => (rI0 fun i j => .int (i + j)) x y H Q ∨ (∃ i j, x = .str i ∧ y = .str j ∧ i.length + j.length ≤ sizeLine ∧ Q (.str (i ++ j)) H) ∨ rCat x y H Q ∨ rCatA K x y H Q
theorem op_addAny {X : Cx} : OpR X (binaryOp .Add) (rAdd X.K) := opR_or op_add (opR_or op_add_str (opR_or op_cat op_catA))
theorem rv_add : Rv2 G (rAdd G.K) addF := fun F H a b x y z k ha hb q Q hq => by
  cases ha with
  | int i =>
    cases hb with
    | int j => cases q; exact .inl ⟨i, j, rfl, rfl, hq _ F H (rz_now k (.int _))⟩
    | _ => cases q
  | str i =>
    cases hb with
    | str j =>
      simp only [addF] at q
      split at q
      · rename_i hl
        cases q
        exact .inr (.inl ⟨i, j, rfl, rfl, len_line hl, hq _ F H (rz_now k (.str _))⟩)
      · cases q
    | _ => cases q
  | lst h1 h2 =>
    rename_i a xs ds
    cases hb with
    | lst g1 g2 =>
      rename_i b ys es
      simp only [addF] at q
      split at q
      · rename_i hl
        cases q
        exact .inr (.inr (.inl ⟨a, b, xs, ys, rfl, rfl, h1, g1, by rw [dqa_len h2, dqa_len g2]; exact len_line hl, fun p hp => hq _ _ _ (rz_new k hp (dqa_app h2 g2))⟩))
      · cases q
    | _ => cases q
  | tup h1 h0 h2 =>
    rename_i a xs ds
    cases hb with
    | tup g1 g0 g2 =>
      rename_i b ys es
      simp only [addF] at q
      split at q
      · rename_i hl
        cases q
        refine .inr (.inr (.inr ⟨a, b, xs, ys, rfl, rfl, sqT h1, sqT g1, by rw [dqa_len h2, dqa_len g2]; exact len_line hl, fun hx => ?_, fun _ hy => ?_, fun _ _ p hp => hq _ _ _ (rz_tup k hp (dqa_app h2 g2))⟩))
        · subst hx
          cases h2
          rw [List.nil_append] at hq
          exact hq _ F H (rz_now k (.tup g0 g2))
        · subst hy
          cases g2
          rw [List.append_nil] at hq
          exact hq _ F H (rz_now k (.tup h0 h2))
      · cases q
    | _ => cases q
  | _ => cases q
theorem rv_int {C : Int → Int → Prop} {g : Int → Int → V} {o : PyData → PyData → Option Rz} (ho : ∀ x y z, o x y = some z → ∃ i j d, x = .int i ∧ y = .int j ∧ z = .dat d ∧ C i j ∧ ∀ F, Dq G F (g i j) d) : Rv2 G (rI C g) o := fun F H a b x y z k ha hb q Q hq => by
  obtain ⟨i, j, d, rfl, rfl, rfl, hc, hd⟩ := ho x y z q
  cases ha; cases hb
  exact ⟨i, j, rfl, rfl, hc, hq _ F H (rz_now k (hd F))⟩
theorem rv_int0 {g : Int → Int → V} {o : PyData → PyData → Option Rz} (ho : ∀ x y z, o x y = some z → ∃ i j d, x = .int i ∧ y = .int j ∧ z = .dat d ∧ ∀ F, Dq G F (g i j) d) : Rv2 G (rI0 g) o := fun F H a b x y z k ha hb q Q hq => by
  obtain ⟨i, j, d, rfl, rfl, rfl, hd⟩ := ho x y z q
  cases ha; cases hb
  exact ⟨i, j, rfl, rfl, hq _ F H (rz_now k (hd F))⟩
theorem rv_sub : Rv2 G (rI0 fun i j => .int (i - j)) subF := rv_int0 fun x y z q => by
  cases x <;> cases y <;> cases q
  exact ⟨_, _, _, rfl, rfl, rfl, fun _ => .int _⟩
theorem big_log {i : Int} (h : bigB i = true) : i.natAbs.log2 < 1000 := PySem.Flt.log2_lt_of (by decide) (of_decide_eq_true h)
theorem rv_mul : Rv2 G (rI CMulW fun i j => .int (i * j)) mulF := rv_int fun x y z q => by
  cases x <;> cases y <;> simp only [mulF] at q <;> try cases q
  split at q
  · rename_i hl
    rw [Bool.and_eq_true] at hl
    cases q
    have h1 := big_log hl.1
    have h2 := big_log hl.2
    exact ⟨_, _, _, rfl, rfl, rfl, (by show _ < 1000000; omega), fun _ => .int _⟩
  · cases q
theorem rv_mod : Rv2 G (rI (fun _ j => 0 < j) fun i j => .int (i % j)) modF := rv_int fun x y z q => by
  cases x <;> cases y <;> simp only [modF] at q <;> try cases q
  split at q
  · rename_i hl
    cases q
    exact ⟨_, _, _, rfl, rfl, rfl, of_decide_eq_true hl, fun _ => .int _⟩
  · cases q
theorem rv_fdiv : Rv2 G (rI CDiv fun i j => .int (i / j)) fdivF := rv_int fun x y z q => by
  cases x <;> cases y <;> simp only [fdivF] at q <;> try cases q
  split at q
  · rename_i hl
    rw [Bool.and_eq_true] at hl
    cases q
    exact ⟨_, _, _, rfl, rfl, rfl, ⟨of_decide_eq_true hl.1, of_decide_eq_true hl.2⟩, fun _ => .int _⟩
  · cases q
theorem rv_pow : Rv2 G (rI CPow fun i j => .int (i ^ j.toNat)) powF := rv_int fun x y z q => by
  cases x <;> cases y <;> simp only [powF] at q <;> try cases q
  split at q
  · rename_i hl
    rw [Bool.and_eq_true, Bool.and_eq_true] at hl
    cases q
    have l1 := of_decide_eq_true hl.1.1
    have l2 := of_decide_eq_true hl.1.2
    have l3 := of_decide_eq_true hl.2
    exact ⟨_, _, _, rfl, rfl, rfl, ⟨l2, by omega, Nat.lt_trans l1 (by decide)⟩, fun _ => .int _⟩
  · cases q
theorem rv_cmp {c : Int → Int → Bool} : Rv2 G (rI0 fun i j => .bl (c i j)) (cmpI c) := rv_int0 fun x y z q => by
  cases x <;> cases y <;> cases q
  exact ⟨_, _, _, rfl, rfl, rfl, fun _ => .bl _⟩
theorem rv_neg : Rv1 G (rU fun i => .int (-i)) negF := fun F H a x z k ha q Q hq => by
  cases ha <;> cases q
  exact ⟨_, rfl, hq _ F H (rz_now k (.int _))⟩
/-! equality -/
def rEqAny (K : PySem.W.Frag) : R2 := fun x y H Q => rEq x y H Q ∨ rEqD K x y H Q
def rNeAny (K : PySem.W.Frag) : R2 := fun x y H Q => rNe x y H Q ∨ rNeD K x y H Q
theorem scal_some {x y : PyData} {b : Bool} (h : scalD x y = some b) : (∃ i j, x = .int i ∧ y = .int j ∧ b = decide (i = j)) ∨ ∃ i j, x = .str i ∧ y = .str j ∧ b = decide (i = j) := by
  cases x <;> cases y <;> cases h
  · exact .inl ⟨_, _, rfl, rfl, rfl⟩
  · exact .inr ⟨_, _, rfl, rfl, rfl⟩
theorem rv_eq : Rv2D G (rEqAny G.K) eqF := fun H a b x y z ha hb q Q hq => by
  unfold eqF at q
  cases g : scalD x y with
  | some c =>
    rw [g] at q; cases q
    left
    rcases scal_some g with ⟨i, j, rfl, rfl, rfl⟩ | ⟨i, j, rfl, rfl, rfl⟩
    · cases ha; cases hb
      refine ⟨rfl, ?_⟩
      rw [show decide (V.int i = V.int j) = decide (i = j) by simp]
      exact hq _ fun _ => .bl _
    · cases ha; cases hb
      refine ⟨rfl, ?_⟩
      rw [show decide (V.str i = V.str j) = decide (i = j) by simp]
      exact hq _ fun _ => .bl _
  | none =>
    rw [g] at q
    dsimp only at q
    split at q
    · rename_i hl
      rw [Bool.and_eq_true] at hl
      cases q
      exact .inr ⟨x, y, ha.p (nx_shaped hl.1), hb.p (nx_shaped hl.2), hl.1, hl.2, hq _ fun _ => .bl _⟩
    · cases q
theorem rv_ne : Rv2D G (rNeAny G.K) neF := fun H a b x y z ha hb q Q hq => by
  unfold neF at q
  cases g : scalD x y with
  | some c =>
    rw [g] at q; cases q
    left
    rcases scal_some g with ⟨i, j, rfl, rfl, rfl⟩ | ⟨i, j, rfl, rfl, rfl⟩
    · cases ha; cases hb
      refine ⟨rfl, ?_⟩
      rw [show decide (V.int i = V.int j) = decide (i = j) by simp]
      exact hq _ fun _ => .bl _
    · cases ha; cases hb
      refine ⟨rfl, ?_⟩
      rw [show decide (V.str i = V.str j) = decide (i = j) by simp]
      exact hq _ fun _ => .bl _
  | none =>
    rw [g] at q
    dsimp only at q
    split at q
    · rename_i hl
      rw [Bool.and_eq_true] at hl
      cases q
      exact .inr ⟨x, y, ha.p (nx_shaped hl.1), hb.p (nx_shaped hl.2), hl.1, hl.2, hq _ fun _ => .bl _⟩
    · cases q
/-! in -/
theorem intsOf_some : ∀ {ds : List PyData} {ns : List Int}, intsOf ds = some ns → ds = ns.map .int
  | [], ns, h => by cases h; rfl
  | d :: ds, ns, h => by
    cases d <;> simp only [intsOf] at h <;> try cases h
    cases g : intsOf ds with
    | none => rw [g] at h; cases h
    | some l => rw [g] at h; cases h; rw [intsOf_some g]; rfl
theorem strsOf_some : ∀ {ds : List PyData} {ns : List Str}, strsOf ds = some ns → ds = ns.map .str
  | [], ns, h => by cases h; rfl
  | d :: ds, ns, h => by
    cases d <;> simp only [strsOf] at h <;> try cases h
    cases g : strsOf ds with
    | none => rw [g] at h; cases h
    | some l => rw [g] at h; cases h; rw [strsOf_some g]; rfl
theorem boolsOf_some : ∀ {ds : List PyData} {ns : List Bool}, boolsOf ds = some ns → ds = ns.map .bool
  | [], ns, h => by cases h; rfl
  | d :: ds, ns, h => by
    cases d <;> simp only [boolsOf] at h <;> try cases h
    cases g : boolsOf ds with
    | none => rw [g] at h; cases h
    | some l => rw [g] at h; cases h; rw [boolsOf_some g]; rfl
theorem inV_ints {i : Int} : ∀ {ns : List Int}, inV (.int i) (ns.map V.int) = decide (i ∈ ns) := fun {ns} => by
  unfold inV
  induction ns with
  | nil => rfl
  | cons n ns ih =>
    rw [List.map_cons, List.any_cons, ih]
    have e0 : eqV (.int n) (.int i) = decide (n = i) := by
      show (n == i) = decide (n = i)
      by_cases c : n = i <;> simp [c]
    rw [e0]
    by_cases c : n = i
    · subst c; simp
    · by_cases c2 : i ∈ ns <;> simp [c, c2, Ne.symm c]
theorem inV_strs {i : Str} : ∀ {ns : List Str}, inV (.str i) (ns.map V.str) = decide (i ∈ ns) := fun {ns} => by
  unfold inV
  induction ns with
  | nil => rfl
  | cons n ns ih =>
    rw [List.map_cons, List.any_cons, ih]
    have e0 : eqV (.str n) (.str i) = decide (n = i) := by
      show (n == i) = decide (n = i)
      by_cases c : n = i <;> simp [c]
    rw [e0]
    by_cases c : n = i
    · subst c; simp
    · by_cases c2 : i ∈ ns <;> simp [c, c2, Ne.symm c]
def rInAny (K : PySem.W.Frag) : R2 := fun x y H Q => rIn K false x y H Q ∨ rInD K x y H Q
def rNiAny (K : PySem.W.Frag) : R2 := fun x y H Q => rIn K true x y H Q ∨ rNotInD K x y H Q
theorem flat_all {α : Type} {g : α → V} (h : ∀ a, flatV (g a) = true) : ∀ (ns : List α), (ns.map g).all flatV = true
  | [] => rfl
  | n :: ns => by rw [List.map_cons, List.all_cons, h n, flat_all h ns]; rfl
theorem in_ok {a b : V} {x y : PyData} {c neg : Bool} {K : PySem.W.Frag} (ha : Dq G H a x) (hb : Dq G H b y) (q : inB x y = some c) :
    (∃ p xs, b = .ref p ∧ (SqL K H p xs ∨ SqT K H p xs) ∧ flatV a = true ∧ xs.all flatV = true ∧ inV a xs = c) ∨ ∃ d ds, Dp K H a d ∧ Dp K H b (.list ds) ∧ SeqAt.shaped d = true ∧ SeqAt.shaped (.list ds) = true ∧ (ds.any fun z => PyData.eqv z d) = c := by
  have deep : ∀ {ds}, y = .list ds → SeqAt.shaped x = true → SeqAt.shaped (.list ds) = true → (ds.any fun z => PyData.eqv z x) = c → ∃ d ds, Dp K H a d ∧ Dp K H b (.list ds) ∧ SeqAt.shaped d = true ∧ SeqAt.shaped (.list ds) = true ∧ (ds.any fun z => PyData.eqv z d) = c :=
    fun {ds} e h1 h2 h3 => by subst e; exact ⟨x, ds, ha.p (nx_shaped h1), hb.p (nx_shaped h2), h1, h2, h3⟩
  cases y with
  | list ds =>
    obtain ⟨p, xs, rfl, h1, h2⟩ := dq_lst hb
    cases x with
    | int i =>
      simp only [inB] at q
      cases g : intsOf ds with
      | some ns =>
        rw [g] at q; cases q
        rw [intsOf_some g] at h2
        cases ha
        rw [dqa_ints' h2] at h1
        exact .inl ⟨p, _, rfl, .inl (sqL h1), rfl, flat_all (fun _ => rfl) ns, inV_ints⟩
      | none =>
        rw [g] at q
        dsimp only at q
        split at q
        · rename_i hs
          cases q
          exact .inr (deep rfl rfl hs rfl)
        · cases q
    | str i =>
      simp only [inB] at q
      cases g : strsOf ds with
      | some ns =>
        rw [g] at q; cases q
        rw [strsOf_some g] at h2
        cases ha
        rw [dqa_strs' h2] at h1
        exact .inl ⟨p, _, rfl, .inl (sqL h1), rfl, flat_all (fun _ => rfl) ns, inV_strs⟩
      | none => rw [g] at q; cases q
    | _ =>
      simp only [inB] at q
      split at q
      · rename_i hs
        rw [Bool.and_eq_true] at hs
        cases q
        exact .inr (deep rfl hs.1 hs.2 rfl)
      · cases q
  | tuple ds =>
    obtain ⟨p, xs, rfl, h1, h2⟩ := dq_tup hb
    cases x with
    | int i =>
      simp only [inB] at q
      cases g : intsOf ds with
      | some ns =>
        rw [g] at q; cases q
        rw [intsOf_some g] at h2
        cases ha
        rw [dqa_ints' h2] at h1
        exact .inl ⟨p, _, rfl, .inr (sqT h1), rfl, flat_all (fun _ => rfl) ns, inV_ints⟩
      | none => rw [g] at q; cases q
    | str i =>
      simp only [inB] at q
      cases g : strsOf ds with
      | some ns =>
        rw [g] at q; cases q
        rw [strsOf_some g] at h2
        cases ha
        rw [dqa_strs' h2] at h1
        exact .inl ⟨p, _, rfl, .inr (sqT h1), rfl, flat_all (fun _ => rfl) ns, inV_strs⟩
      | none => rw [g] at q; cases q
    | _ => cases q
  | _ => cases x <;> cases q
theorem rv_in : Rv2D G (rInAny G.K) inF := fun H a b x y z ha hb q Q hq => by
  unfold inF at q
  cases g : inB x y with
  | none => rw [g] at q; cases q
  | some c =>
    rw [g] at q; cases q
    rcases in_ok (K := G.K) (neg := false) ha hb g with ⟨p, xs, h1, h2, h3, h4, h5⟩ | ⟨d, ds, h1, h2, h3, h4, h5⟩
    · exact .inl ⟨p, xs, h1, h2, h3, h4, by rw [h5]; exact hq _ fun _ => .bl _⟩
    · exact .inr ⟨d, ds, h1, h2, h3, h4, by rw [h5]; exact hq _ fun _ => .bl _⟩
theorem rv_ni : Rv2D G (rNiAny G.K) niF := fun H a b x y z ha hb q Q hq => by
  unfold niF at q
  cases g : inB x y with
  | none => rw [g] at q; cases q
  | some c =>
    rw [g] at q; cases q
    rcases in_ok (K := G.K) (neg := true) ha hb g with ⟨p, xs, h1, h2, h3, h4, h5⟩ | ⟨d, ds, h1, h2, h3, h4, h5⟩
    · exact .inl ⟨p, xs, h1, h2, h3, h4, by rw [h5]; exact hq _ fun _ => .bl _⟩
    · exact .inr ⟨d, ds, h1, h2, h3, h4, by rw [h5]; exact hq _ fun _ => .bl _⟩
/-! ### the judgements -/
abbrev GX (X : Cx) (cl : Str → Addr) : Gs := ⟨X.K, cl⟩
/-- where one stands: nothing is handled or shown, there is room, what leaves is taken -/
structure Cok (X : Cx) (W : WX) (n : Nat) : Prop where
  calm : X.calm = true
  room : Room n X.A
  gd : X.A.guards = some []
  tk : Takes X W
  po : PassesOwn (model X.prog X.w) X.A X.env X.xe
structure JE (X : Cx) (cl : Str → Addr) (W : WX) (ex : Expr) (f : Ev) : Prop where
  p : ∃ te, PE X ex te ∧ SndV (GX X cl) W te f
structure JT (X : Cx) (cl : Str → Addr) (W : WX) (ex : Expr) (f : Et) : Prop where
  p : ∃ te, PT X ex te ∧ SndT (GX X cl) W te f
structure JW (X : Cx) (cl : Str → Addr) (W : WX) (ex : Expr) (f : Et) : Prop where
  p : ∃ te, PW X ex te ∧ SndT (GX X cl) W te f
section
variable {X : Cx} {cl : Str → Addr} {n : Nat} {a b c : Expr} {f g : Ev} {t u : Et} {pos : Pos}
theorem snd_var {i : Nat} : SndV G W (tVar i) (varV i) := fun s F H e ls k E Q q => by
  unfold varV at q
  cases g : e[i]? with
  | none => rw [g] at q; exact q.elim
  | some x =>
    rw [g] at q
    obtain ⟨l, h1, h2⟩ := E.at g
    dsimp only at q
    cases gt : x.t with
    | un => rw [gt] at q; exact q.elim
    | dat d =>
      rw [gt] at q h2
      obtain ⟨v, h3, h4⟩ := h2.to (fun z => nomatch z)
      cases h4 with
      | dat h4 => exact ⟨v, h3, q.now k E v h4⟩
    | _ =>
      rw [gt] at q h2
      obtain ⟨v, h3, h4⟩ := h2.to (fun z => nomatch z)
      exact ⟨v, h3, q.now k E v ⟨⟨v, h3, rfl⟩, fun z => absurd rfl z⟩⟩
theorem snd_c {v : V} {d : PyData} (h : ∀ F, Dq G F v d) : SndV G W (tC v) (cstV d) := fun s F H e ls k E Q q => q.now k E v (h F)
theorem je_var (i : Nat) {x : Str} (hN : X.N[i]? = some x := by rfl) (hv : Vis X.env.scope x := by first | exact Or.inl rfl | exact Or.inr (Or.inl rfl) | exact Or.inr (Or.inr rfl)) (hd : (x == ("__debug__" : Str)) = false := by decide) (hcd : (x == ("__classdict__" : Str)) = false := by decide) : JE X cl W (.Name x pos) (varV i) := ⟨_, pe_var hN hv hd hcd, snd_var⟩
theorem je_int {i : Int} {j} : JE X cl W (.Constant (.int i) j pos) (cstV (.int i)) := ⟨_, pe_int, snd_c fun _ => .int i⟩
theorem je_bl {i : Bool} {j} : JE X cl W (.Constant (.bool i) j pos) (cstV (.bool i)) := ⟨_, pe_bl, snd_c fun _ => .bl i⟩
theorem je_str {i : Str} {j} : JE X cl W (.Constant (.str i) j pos) (cstV (.str i)) := ⟨_, pe_str, snd_c fun _ => .str i⟩
theorem je_non {j} : JE X cl W (.Constant .none j pos) (cstV .none) := ⟨_, pe_non, snd_c fun _ => .non⟩
theorem je_gstr {x : Str} {i : Str} {tk : Tok} (hm : X.mg x = some (.str i tk)) (hg : Gl X x) (hd : (x == ("__debug__" : Str)) = false := by decide) : JE X cl W (.Name x pos) (cstV (.str i)) := ⟨_, pe_glob (v := .str i) hg hm ⟨_, rfl⟩ hd, snd_c fun _ => .str i⟩
theorem je_add (ha : JE X cl W a f) (hb : JE X cl W b g) : JE X cl W (.BinOp a .Add b pos) (op2 addF f g) := let ⟨_, p1, s1⟩ := ha.p; let ⟨_, p2, s2⟩ := hb.p; ⟨_, pe_op op_addAny p1 p2, snd_op2 s1 s2 rv_add⟩
theorem je_sub (ha : JE X cl W a f) (hb : JE X cl W b g) : JE X cl W (.BinOp a .Sub b pos) (op2 subF f g) := let ⟨_, p1, s1⟩ := ha.p; let ⟨_, p2, s2⟩ := hb.p; ⟨_, pe_op op_sub p1 p2, snd_op2 s1 s2 rv_sub⟩
theorem je_mul (ha : JE X cl W a f) (hb : JE X cl W b g) : JE X cl W (.BinOp a .Mult b pos) (op2 mulF f g) := let ⟨_, p1, s1⟩ := ha.p; let ⟨_, p2, s2⟩ := hb.p; ⟨_, pe_op op_mulW p1 p2, snd_op2 s1 s2 rv_mul⟩
theorem je_mod (ha : JE X cl W a f) (hb : JE X cl W b g) : JE X cl W (.BinOp a .Mod b pos) (op2 modF f g) := let ⟨_, p1, s1⟩ := ha.p; let ⟨_, p2, s2⟩ := hb.p; ⟨_, pe_op op_mod p1 p2, snd_op2 s1 s2 rv_mod⟩
theorem je_fdiv (ha : JE X cl W a f) (hb : JE X cl W b g) : JE X cl W (.BinOp a .FloorDiv b pos) (op2 fdivF f g) := let ⟨_, p1, s1⟩ := ha.p; let ⟨_, p2, s2⟩ := hb.p; ⟨_, pe_op op_fdiv p1 p2, snd_op2 s1 s2 rv_fdiv⟩
theorem je_pow (ha : JE X cl W a f) (hb : JE X cl W b g) : JE X cl W (.BinOp a .Pow b pos) (op2 powF f g) := let ⟨_, p1, s1⟩ := ha.p; let ⟨_, p2, s2⟩ := hb.p; ⟨_, pe_op op_pow p1 p2, snd_op2 s1 s2 rv_pow⟩
theorem je_neg (ha : JE X cl W a f) : JE X cl W (.UnaryOp .USub a pos) (op1 negF f) := let ⟨_, p1, s1⟩ := ha.p; ⟨_, pe_un un_neg p1, snd_op1 s1 rv_neg⟩
theorem je_eq (k : Cok X W n) (ha : JE X cl W a f) (hb : JE X cl W b g) : JE X cl W (.Compare a [.Eq] [b] pos) (op2D eqF f g) := let ⟨_, p1, s1⟩ := ha.p; let ⟨_, p2, s2⟩ := hb.p; ⟨_, pe_cmpR (opR_or op_eq (op_eqD k.room.units)) p1 p2 (nomark _), snd_op2D s1 s2 rv_eq⟩
theorem je_ne (k : Cok X W n) (ha : JE X cl W a f) (hb : JE X cl W b g) : JE X cl W (.Compare a [.NotEq] [b] pos) (op2D neF f g) := let ⟨_, p1, s1⟩ := ha.p; let ⟨_, p2, s2⟩ := hb.p; ⟨_, pe_cmpR (opR_or op_ne (op_neD k.room.units)) p1 p2 (nomark _), snd_op2D s1 s2 rv_ne⟩
theorem isNone_v {v : V} {x : PyData} (h : Dr G F H v x) : decide (v = .non) = isNone x := by
  cases h with
  | dic h =>
    rw [show isNone (.dict _) = false from rfl]
    refine decide_eq_false fun z => ?_
    subst z
    cases h
  | _ => simp [isNone]
theorem snd_isN {ta : TE} (ha : SndV G W ta f) : SndV G W (tIsN ta) (op1 isNF f) := snd_op1 (r := fun x H Q => Q (.bl (decide (x = .non))) H) ha fun F H a x z k h q Q hq => by
  cases q
  show Q (.bl (decide (a = .non))) H
  rw [isNone_v h]
  exact hq _ F H (rz_now k (.bl _))
theorem snd_notN {ta : TE} (ha : SndV G W ta f) : SndV G W (tNotN ta) (op1 isNNF f) := snd_op1 (r := fun x H Q => Q (.bl (!decide (x = .non))) H) ha fun F H a x z k h q Q hq => by
  cases q
  show Q (.bl (!decide (a = .non))) H
  rw [isNone_v h]
  exact hq _ F H (rz_now k (.bl _))
theorem je_isN (ha : JE X cl W a f) {j p2} : JE X cl W (.Compare a [.Is] [.Constant .none j p2] pos) (op1 isNF f) := let ⟨_, p1, s1⟩ := ha.p; ⟨_, pe_cmp (pc_isN p1), snd_isN s1⟩
theorem je_notN (ha : JE X cl W a f) {j p2} : JE X cl W (.Compare a [.IsNot] [.Constant .none j p2] pos) (op1 isNNF f) := let ⟨_, p1, s1⟩ := ha.p; ⟨_, pe_cmp (pc_notN p1), snd_notN s1⟩
/-! truth -/
theorem snd_asB {ta : TE} (ha : SndV G W ta f) : SndT G W (tB ta) (asB f) := fun s F H e ls k E Q q => by
  refine ha s F H e ls k E _ (Post.mono q.bnd0 fun p e2 ls2 F2 H2 _ T E2 h v hv => ?_)
  cases g : rdS e2 p with
  | none => rw [g] at h; exact h.elim
  | some x =>
    rw [g] at h
    cases x with
    | bool b =>
      have w := rdS_ok E2 T.k hv g
      cases w
      exact ⟨b, rfl, h ls2 F2 H2 T E2⟩
    | _ => exact h.elim
theorem snd_thenB {ta : TE} {k' : Bool → En → Out Rs} {t : Bool → TE} (ha : SndV G W ta f) (ht : ∀ b, SndV G W (t b) (k' b)) : SndV G W (fun σ H Q => ta σ H fun x H1 => ∃ c, x = .bl c ∧ t c σ H1 Q) (fun e => (asB f e).bnd k') := fun s F H e ls k E Q q => by
  refine snd_asB ha s F H e ls k E (fun c H1 => t c s H1 Q) (Post.mono q.bnd fun c e2 ls2 F2 H2 _ T E2 h => ?_)
  obtain ⟨_, _, h⟩ := h
  exact ht c s F2 H2 e2 ls2 T.k E2 Q (Post.mono h fun r e3 ls3 F3 H3 _ _ _ w v hv => w.2 v (hv.back T))
theorem je_not (ha : JE X cl W a f) : JE X cl W (.UnaryOp .Not a pos) (notV f) := let ⟨_, p1, s1⟩ := ha.p; ⟨_, pe_not p1, snd_thenB (t := fun c => tC (.bl (!c))) s1 fun b => snd_c fun _ => .bl _⟩
theorem je_one {o} (ha : JE X cl W a f) : JE X cl W (.BoolOp o [a] pos) f := let ⟨_, p1, s1⟩ := ha.p; ⟨_, pe_one p1, s1⟩
theorem je_and {r : List Expr} (ha : JE X cl W a f) (hb : JE X cl W (.BoolOp .And (b :: r) pos) g) : JE X cl W (.BoolOp .And (a :: b :: r) pos) (andV f g) := let ⟨_, p1, s1⟩ := ha.p; let ⟨tb, p2, s2⟩ := hb.p
  ⟨_, pe_and p1 p2, snd_thenB (t := fun c σ H Q => if c = true then tb σ H Q else Q (.bl false) H) s1 fun c => by
    cases c with
    | true => exact s2
    | false => exact snd_c (v := .bl false) fun _ => .bl _⟩
/-! tests -/
theorem jt_val (h : JE X cl W a f) (he : ∀ whole, isTrue a X.env whole = (do let v ← whole; standAt a.pos; holding [v] (truthy v)) := by intro _; rfl) : JT X cl W a (asB f) := let ⟨_, p1, s1⟩ := h.p; ⟨_, pt_val p1 he, snd_asB s1⟩
theorem jt_lt (ha : JE X cl W a f) (hb : JE X cl W b g) : JT X cl W (.Compare a [.Lt] [b] pos) (asB (op2 ltF f g)) := let ⟨_, p1, s1⟩ := ha.p; let ⟨_, p2, s2⟩ := hb.p; ⟨_, pt_cmpR op_lt p1 p2 (nomark _), snd_asB (snd_op2 s1 s2 rv_cmp)⟩
theorem jt_ge (ha : JE X cl W a f) (hb : JE X cl W b g) : JT X cl W (.Compare a [.GtE] [b] pos) (asB (op2 geF f g)) := let ⟨_, p1, s1⟩ := ha.p; let ⟨_, p2, s2⟩ := hb.p; ⟨_, pt_cmpR op_ge p1 p2 (nomark _), snd_asB (snd_op2 s1 s2 rv_cmp)⟩
theorem jt_eq (k : Cok X W n) (ha : JE X cl W a f) (hb : JE X cl W b g) : JT X cl W (.Compare a [.Eq] [b] pos) (asB (op2D eqF f g)) := let ⟨_, p1, s1⟩ := ha.p; let ⟨_, p2, s2⟩ := hb.p; ⟨_, pt_cmpR (opR_or op_eq (op_eqD k.room.units)) p1 p2 (nomark _), snd_asB (snd_op2D s1 s2 rv_eq)⟩
theorem jt_ne (k : Cok X W n) (ha : JE X cl W a f) (hb : JE X cl W b g) : JT X cl W (.Compare a [.NotEq] [b] pos) (asB (op2D neF f g)) := let ⟨_, p1, s1⟩ := ha.p; let ⟨_, p2, s2⟩ := hb.p; ⟨_, pt_cmpR (opR_or op_ne (op_neD k.room.units)) p1 p2 (nomark _), snd_asB (snd_op2D s1 s2 rv_ne)⟩
theorem jt_in (k : Cok X W n) (ha : JE X cl W a f) (hb : JE X cl W b g) (hm : behindInMarks .In b = false := by rfl) : JT X cl W (.Compare a [.In] [b] pos) (asB (op2D inF f g)) := let ⟨_, p1, s1⟩ := ha.p; let ⟨_, p2, s2⟩ := hb.p; ⟨_, pt_cmpR (opR_or op_in_seq (op_inD (by have := k.room.un; omega))) p1 p2 hm, snd_asB (snd_op2D s1 s2 rv_in)⟩
theorem jt_ni (k : Cok X W n) (ha : JE X cl W a f) (hb : JE X cl W b g) (hm : behindInMarks .NotIn b = false := by rfl) : JT X cl W (.Compare a [.NotIn] [b] pos) (asB (op2D niF f g)) := let ⟨_, p1, s1⟩ := ha.p; let ⟨_, p2, s2⟩ := hb.p; ⟨_, pt_cmpR (opR_or op_notIn_seq (op_notInD (by have := k.room.un; omega))) p1 p2 hm, snd_asB (snd_op2D s1 s2 rv_ni)⟩
theorem jt_isN (ha : JE X cl W a f) {j p2} : JT X cl W (.Compare a [.Is] [.Constant .none j p2] pos) (asB (op1 isNF f)) := let ⟨_, p1, s1⟩ := ha.p; ⟨_, pt_cmp (pc_isN p1), snd_asB (snd_isN s1)⟩
theorem snd_thenT {tt : TT} {k' : Bool → En → Out Bool} {t' : Bool → TT} (ha : SndT G W tt t) (ht : ∀ b, SndT G W (t' b) (k' b)) : SndT G W (fun σ H Q => tt σ H fun c H1 => t' c σ H1 Q) (fun e => (t e).bnd k') := fun s F H e ls k E Q q => by
  refine ha s F H e ls k E (fun c H1 => t' c s H1 Q) (Post.mono q.bnd fun c e2 ls2 F2 H2 _ T E2 h => ?_)
  obtain ⟨_, _, h⟩ := h
  exact ht c s F2 H2 e2 ls2 T.k E2 Q (Post.mono h fun r e3 ls3 F3 H3 _ _ _ w => w.2)
theorem snd_thenV {tt : TT} {k' : Bool → En → Out Rs} {t' : Bool → TE} (ha : SndT G W tt t) (ht : ∀ b, SndV G W (t' b) (k' b)) : SndV G W (fun σ H Q => tt σ H fun c H1 => t' c σ H1 Q) (fun e => (t e).bnd k') := fun s F H e ls k E Q q => by
  refine ha s F H e ls k E (fun c H1 => t' c s H1 Q) (Post.mono q.bnd fun c e2 ls2 F2 H2 _ T E2 h => ?_)
  obtain ⟨_, _, h⟩ := h
  exact ht c s F2 H2 e2 ls2 T.k E2 Q (Post.mono h fun r e3 ls3 F3 H3 _ _ _ w v hv => w.2 v (hv.back T))
theorem snd_bool {b : Bool} : SndT G W (fun _ H Q => Q b H) (fun e => .ok b e) := fun s F H e ls k E Q q => q.now k E
theorem jt_not (ha : JT X cl W a t) : JT X cl W (.UnaryOp .Not a pos) (notT t) := let ⟨_, p1, s1⟩ := ha.p; ⟨_, pt_not p1, snd_thenT (t' := fun c _ H Q => Q (!c) H) s1 fun b => snd_bool⟩
theorem jt_w (h : JW X cl W a t) : JT X cl W a t := let ⟨_, p1, s1⟩ := h.p; ⟨_, PW.pt p1, s1⟩
theorem jw_and1 (h : JT X cl W a t) : JW X cl W (.BoolOp .And [a] pos) t := let ⟨_, p1, s1⟩ := h.p; ⟨_, pw_and1 p1, s1⟩
theorem jw_or1 (h : JT X cl W a t) : JW X cl W (.BoolOp .Or [a] pos) t := let ⟨_, p1, s1⟩ := h.p; ⟨_, pw_or1 p1, s1⟩
theorem jw_and {r : List Expr} (ha : JT X cl W a t) (hb : JW X cl W (.BoolOp .And (b :: r) pos) u) : JW X cl W (.BoolOp .And (a :: b :: r) pos) (andT t u) := let ⟨_, p1, s1⟩ := ha.p; let ⟨tb, p2, s2⟩ := hb.p
  ⟨_, pw_and p1 p2, snd_thenT (t' := fun c σ H Q => if c = true then tb σ H Q else Q false H) s1 fun c => by
    cases c with
    | true => exact s2
    | false => exact snd_bool⟩
theorem jw_or {r : List Expr} (ha : JT X cl W a t) (hb : JW X cl W (.BoolOp .Or (b :: r) pos) u) : JW X cl W (.BoolOp .Or (a :: b :: r) pos) (orT t u) := let ⟨_, p1, s1⟩ := ha.p; let ⟨tb, p2, s2⟩ := hb.p
  ⟨_, pw_or p1 p2, snd_thenT (t' := fun c σ H Q => if c = true then Q true H else tb σ H Q) s1 fun c => by
    cases c with
    | true => exact snd_bool
    | false => exact s2⟩
theorem je_ife (hc : JT X cl W c t) (ha : JE X cl W a f) (hb : JE X cl W b g) : JE X cl W (.IfExp c a b pos) (ifeV t f g) := let ⟨_, p0, s0⟩ := hc.p; let ⟨ta, p1, s1⟩ := ha.p; let ⟨tb, p2, s2⟩ := hb.p
  ⟨_, pe_ifExp p0 p1 p2, snd_thenV (t' := fun c σ H Q => if c = true then ta σ H Q else tb σ H Q) s0 fun c => by
    cases c with
    | true => exact s1
    | false => exact s2⟩
end
end R

/-! Displays, subscripts, slices, built-ins, methods of lists. -/
namespace R
open PySem PySem.Spec PyProof.Rows L2
open Evl (Ex)
variable {G : Gs} {W : WX} {F H F1 H1 F2 H2 F3 H3 H0 : Hp} {M O : Addr → Prop} {s s2 s3 : L2.St} {e e1 e2 e3 : En} {ls ls1 ls2 ls3 : Ls}
def NewsOk (G : Gs) (O : Addr → Prop) (H0 F H : Hp) (ls : Ls) (vs : List V) (ts : List Tr) : Prop := ∃ l, TRs G F H vs ts l ∧ l.Nodup ∧ (∀ a ∈ l, O a ∨ H0 a = none) ∧ ∀ a ∈ l, ¬ All ls a
def SndAT (G : Gs) (W : WX) (ta : TA) (f : En → Out (List Tr)) : Prop := ∀ s F H e ls, Ex F H → Env G F H s e ls → ∀ Q : List V → Hp → Prop, Post G W s e ls F H (f e) (fun ts e2 ls2 F2 H2 => ∀ vs, NewsOk G (Ow e ls) H F2 H2 ls2 vs ts → Q vs H2) → ta s H Q
def SndAD (G : Gs) (W : WX) (ta : TA) (f : En → Out (List PyData)) : Prop := ∀ s F H e ls, Ex F H → Env G F H s e ls → ∀ Q : List V → Hp → Prop, Post G W s e ls F H (f e) (fun ds e2 ls2 F2 H2 => ∀ vs, DqAll G F2 vs ds → Q vs H2) → ta s H Q
theorem snd_atnil : SndAT G W tNil (argsT []) := fun s F H e ls k E Q q => q.now k E [] ⟨[], .nil, List.nodup_nil, fun _ z => (nomatch z), fun _ z => (nomatch z)⟩
theorem snd_atcons {ta : TE} {tr : TA} {f : Ev} {fs : List Ev} (ha : SndV G W ta f) (hr : SndAT G W tr (argsT fs)) : SndAT G W (tCons ta tr) (argsT (f :: fs)) := fun s F H e ls k E Q q => by
  refine ha.tr s F H e ls k E _ (Post.mono q.bnd fun t e1 ls1 F1 H1 _ T1 E1 p v hv => ?_)
  obtain ⟨_, _, p⟩ := p
  refine hr s F1 H1 e1 ls1 T1.k E1 _ (Post.mono p.bnd0 fun ts e2 ls2 F2 H2 _ T2 E2 r vs hvs => ?_)
  refine (r ls2 F2 H2 T2 E2).2 (v :: vs) ?_
  obtain ⟨l, h1, h2, h3, h4⟩ := hv
  obtain ⟨m, g1, g2, g3, g4⟩ := hvs
  obtain ⟨k1, k2⟩ := T2.tr h1 h4
  refine ⟨l ++ m, .cons k1 g1, nodup_app h2 g2 fun a ha hb => ?_, fun a ha => ?_, fun a ha => ?_⟩
  · rcases g3 a hb with z | z
    · exact h4 a ha z.all
    · exact (h1.adr a ha).2 z
  · rcases List.mem_append.mp ha with z | z
    · exact h3 a z
    · rcases g3 a z with w | w
      · exact T1.ow a w
      · exact .inr (th_none T1.nx w)
  · rcases List.mem_append.mp ha with z | z
    · exact k2 a z
    · exact g4 a z
theorem snd_adnil : SndAD G W tNil (argsD []) := fun s F H e ls k E Q q => q.now k E [] .nil
theorem snd_adcons {ta : TE} {tr : TA} {f : Ev} {fs : List Ev} (ha : SndV G W ta f) (hr : SndAD G W tr (argsD fs)) : SndAD G W (tCons ta tr) (argsD (f :: fs)) := fun s F H e ls k E Q q => by
  refine ha.dat s F H e ls k E _ (Post.mono q.bnd fun t e1 ls1 F1 H1 _ T1 E1 p v hv => ?_)
  obtain ⟨_, _, p⟩ := p
  refine hr s F1 H1 e1 ls1 T1.k E1 _ (Post.mono p.bnd0 fun ts e2 ls2 F2 H2 _ T2 E2 r vs hvs => ?_)
  exact (r ls2 F2 H2 T2 E2).2 (v :: vs) (.cons (dq_up T2.nx.f hv) hvs)
theorem datsOf_ok : ∀ {ts : List Tr} {vs : List V} {l : List Addr} {ds : List PyData}, TRs G F H vs ts l → datsOf ts = some ds → DqAll G F vs ds
  | [], vs, l, ds, h, q => by cases q; cases h; exact .nil
  | t :: ts, vs, l, ds, h, q => by
    cases h with
    | cons h1 h2 =>
      cases t with
      | dat d =>
        simp only [datsOf] at q
        cases g : datsOf ts with
        | none => rw [g] at q; cases q
        | some l => rw [g] at q; cases q; cases h1 with | dat h1 => exact .cons h1 (datsOf_ok h2 g)
      | _ => cases q
theorem TRs.len : ∀ {ts : List Tr} {vs : List V} {l : List Addr}, TRs G F H vs ts l → vs.length = ts.length
  | [], _, _, h => by cases h; rfl
  | t :: ts, _, _, h => by cases h with | cons _ h2 => exact congrArg (· + 1) (TRs.len h2)
theorem mkTup_ok {vs : List V} {ts : List Tr} {p : Addr} (k : Ex F2 H2) (E : Env G F2 H2 s e2 ls2) (h : NewsOk G O H0 F2 H2 ls2 vs ts) (hp : H2 p = none) :
    ∃ F3, Nx F2 H2 F3 (upd H2 p (.tup vs)) ∧ ResOk G O H0 F3 (upd H2 p (.tup vs)) s e2 ls2 (.ref p) (mkTup ts) := by
  obtain ⟨l, h1, h2, h3, h4⟩ := h
  have n := Nx.new (o := .tup vs) k hp
  refine ⟨_, n, ?_⟩
  unfold mkTup
  cases g : datsOf ts with
  | some ds => exact .tup upd_same (dqa_up n.f (datsOf_ok h1 g))
  | none => exact ⟨l, .tup upd_same (h1.nx n fun _ _ z => z), h2, h3, h4⟩
theorem snd_tup {ta : TA} {fs : List Ev} (h : SndAT G W ta (argsT fs)) : SndV G W (tTup ta) (tupV fs) := fun s F H e ls k E Q q => by
  refine h s F H e ls k E _ (Post.mono q.bnd0 fun ts e2 ls2 F2 H2 _ T E2 p vs hvs => ?_)
  split at p
  · rename_i hl
    refine ⟨by obtain ⟨l, h1, _⟩ := hvs; rw [h1.len]; exact len_line hl, fun x hx => ?_⟩
    obtain ⟨F3, n, r⟩ := mkTup_ok T.k E2 hvs hx
    exact p ls2 F3 _ (T.trans (Stp.n0 n)) (E2.n0 n) _ r
  · exact p.elim
theorem mkLst_ok {vs : List V} {ts : List Tr} {p : Addr} (k : Ex F2 H2) (E : Env G F2 H2 s e2 ls2) (h : NewsOk G (Ow e ls) H F2 H2 ls2 vs ts) (T : Stp e ls F H s e2 ls2 F2 H2 s) (hp : H2 p = none) :
    Nx F2 H2 F2 (upd H2 p (.lst vs)) ∧ NewOk G (Ow e ls) H F2 (upd H2 p (.lst vs)) ls2 (.ref p) (mkLst ts) := by
  obtain ⟨l, h1, h2, h3, h4⟩ := h
  have n := Nx.mut (o := .lst vs) k hp
  refine ⟨n, ?_⟩
  have na : ¬ All ls2 p := fun z => (E.adr z).2 hp
  unfold mkLst
  cases g : datsOf ts with
  | some ds => exact ⟨[p], .own (ex_free k hp) upd_same (datsOf_ok h1 g), by simp, fun a ha => .inr (by rw [List.mem_singleton.mp ha]; exact th_none T.nx hp), fun a ha => by rw [List.mem_singleton.mp ha]; exact na⟩
  | none =>
    refine ⟨p :: l, .lst (ex_free k hp) upd_same (h1.nx n fun _ _ z => z), List.nodup_cons.mpr ⟨fun z => (h1.adr p z).2 hp, h2⟩, fun a ha => ?_, fun a ha => ?_⟩
    · rcases List.mem_cons.mp ha with rfl | z
      · exact .inr (th_none T.nx hp)
      · exact h3 a z
    · rcases List.mem_cons.mp ha with rfl | z
      · exact na
      · exact h4 a z
theorem snd_lst {ta : TA} {fs : List Ev} (h : SndAT G W ta (argsT fs)) : SndV G W (tLst ta) (lstV fs) := fun s F H e ls k E Q q => by
  refine h s F H e ls k E _ (Post.mono q.bnd0 fun ts e2 ls2 F2 H2 _ T E2 p vs hvs => ?_)
  split at p
  · rename_i hl
    refine ⟨by obtain ⟨l, h1, _⟩ := hvs; rw [h1.len]; exact len_line hl, fun x hx => ?_⟩
    obtain ⟨n, r⟩ := mkLst_ok T.k E2 hvs T hx
    exact p ls2 F2 _ (T.trans (Stp.n0 n)) (E2.n0 n) _ r
  · exact p.elim
/-! ### subscripts -/
theorem get_app {q : Pa} {t1 : Tr} : ∀ {p : Pa} {t : Tr}, Tr.get p t = some t1 → Tr.get (p ++ q) t = Tr.get q t1
  | [], _, h => by cases h; rfl
  | .k n :: p, .tup ts, h => by
    simp only [Tr.get, List.cons_append] at h ⊢
    cases g : ts[n]? with
    | none => rw [g] at h; cases h
    | some t => rw [g] at h; exact get_app h
  | .k n :: p, .lst ts, h => by
    simp only [Tr.get, List.cons_append] at h ⊢
    cases g : ts[n]? with
    | none => rw [g] at h; cases h
    | some t => rw [g] at h; exact get_app h
  | .f x :: p, .obj c fs, h => by
    simp only [Tr.get, List.cons_append] at h ⊢
    cases g : fs.lookup x with
    | none => rw [g] at h; cases h
    | some t => rw [g] at h; exact get_app h
  | .k n :: p, .un, h => by cases h
  | .k n :: p, .dat _, h => by cases h
  | .k n :: p, .own _, h => by cases h
  | .k n :: p, .dic _, h => by cases h
  | .k n :: p, .dit _, h => by cases h
  | .k n :: p, .obj _ _, h => by cases h
  | .k n :: p, .scr _, h => by cases h
  | .f x :: p, .un, h => by cases h
  | .f x :: p, .dat _, h => by cases h
  | .f x :: p, .own _, h => by cases h
  | .f x :: p, .lst _, h => by cases h
  | .f x :: p, .tup _, h => by cases h
  | .f x :: p, .dic _, h => by cases h
  | .f x :: p, .dit _, h => by cases h
  | .f x :: p, .scr _, h => by cases h
theorem getPl_app {i : Nat} {p q : Pa} {t1 : Tr} (h : getPl e i p = some t1) : getPl e i (p ++ q) = Tr.get q t1 := by
  unfold getPl at h ⊢
  cases g : e[i]? with
  | none => rw [g] at h; cases h
  | some x => rw [g] at h; exact get_app h
theorem subR_some {x r' : Rs} {k : Ps} {t : Tr} (q : subR x k t = some r') : (∃ d, t = .dat d ∧ r' = .dat d) ∨ (t ≠ .un ∧ (r' = .new t ∧ (∃ t', x = .new t') ∨ ∃ i p, x = .pl i p ∧ r' = .pl i (p ++ [k]))) := by
  cases t with
  | dat d => cases q; exact .inl ⟨d, rfl, rfl⟩
  | un => cases q
  | _ =>
    refine .inr ⟨fun z => (nomatch z), ?_⟩
    cases x with
    | dat d => cases q
    | new t' => cases q; exact .inl ⟨rfl, t', rfl⟩
    | pl i p => cases q; exact .inr ⟨i, p, rfl, rfl⟩
/-- a part of a tuple or list of trees -/
theorem part_ok (E : Env G F2 H2 s e2 ls2) {a : Addr} {xs : List V} {ts : List Tr} {t0 : Tr} {r r' : Rs} {j : Int} (hv : ResOk G O H0 F2 H2 s e2 ls2 (.ref a) r) (hr : getR e2 r = some t0) (ht0 : t0 = .tup ts ∨ t0 = .lst ts)
    (hx : F2 a = some (.tup xs) ∨ (F2 a = none ∧ H2 a = some (.lst xs))) {l : List Addr} (hts : TRs G F2 H2 xs ts l) (hnd : ∀ t, r = .new t → l.Nodup ∧ (∀ a ∈ l, O a ∨ H0 a = none) ∧ ∀ a ∈ l, ¬ All ls2 a) (q : partR r ts j = some r') :
    ∃ v, atI xs j = some v ∧ ResOk G O H0 F2 H2 s e2 ls2 v r' := by
  unfold partR at q
  cases g : ixN ts.length j with
  | none => rw [g] at q; cases q
  | some k =>
    rw [g] at q
    dsimp only at q
    cases g2 : ts[k]? with
    | none => rw [g2] at q; cases q
    | some t =>
      rw [g2] at q
      obtain ⟨v, l1, h1, h2, h3⟩ := hts.get g2
      have hat : atI xs j = some v := by
        unfold atI
        rw [hts.len, g]
        exact h1
      refine ⟨v, hat, ?_⟩
      have other : t ≠ .un → (r' = .new t ∧ (∃ t', r = .new t') ∨ ∃ i p, r = .pl i p ∧ r' = .pl i (p ++ [.k k])) → ResOk G O H0 F2 H2 s e2 ls2 v r' := fun hn q => by
        rcases q with ⟨rfl, t', rfl⟩ | ⟨i, p, rfl, rfl⟩
        · obtain ⟨n1, n2, n3⟩ := hnd t' rfl
          obtain ⟨m, k1, k2, k3, _⟩ := hts.lens n1 g2 h1
          exact ⟨m, k1, k2, fun a ha => n2 a (k3 a ha), fun a ha => n3 a (k3 a ha)⟩
        · obtain ⟨⟨u, w1, w2⟩, _⟩ := hv
          refine ⟨⟨u, w1, w2.app ⟨a, xs, v, rfl, hx, h1, rfl⟩⟩, fun _ => ⟨t, ?_, hn⟩⟩
          rw [getPl_app hr]
          rcases ht0 with rfl | rfl
          · simp only [Tr.get]; rw [g2]
          · simp only [Tr.get]; rw [g2]
      rcases subR_some q with ⟨d, rfl, rfl⟩ | ⟨hn, q⟩
      · cases h2 with | dat h2 => exact h2
      · exact other hn q
theorem snd_ix {ta tb : TE} {f g : Ev} (ha : SndV G W ta f) (hb : SndV G W tb g) : SndV G W (tOp (rIx G.K) ta tb) (ixV f g) := fun s F H e ls k E Q q => by
  refine snd_two ha hb k E (R := fun v w H2 => rIx G.K v w H2 Q) (Post.mono q.bnd0 fun p e2 ls2 F2 H2 _ T E2 h v w hv hw => ?_)
  cases g2 : rdS e2 p.2 with
  | none => rw [g2] at h; exact h.elim
  | some y =>
    rw [g2] at h
    cases y with
    | int j =>
      have hj := rdS_ok E2 T.k hw g2
      cases hj
      dsimp only at h
      cases g3 : ixA e2 p.1 j with
      | none => rw [g3] at h; exact h.elim
      | some r =>
        rw [g3] at h
        have h : ∀ v, ResOk G (Ow e ls) H F2 H2 s e2 ls2 v r → Q v H2 := h ls2 F2 H2 T E2
        unfold ixA at g3
        cases gr : getR e2 p.1 with
        | none => rw [gr] at g3; cases g3
        | some t =>
          rw [gr] at g3
          cases t with
          | un => cases g3
          | dic _ => cases g3
          | dit _ => cases g3
          | obj _ _ => cases g3
          | dat d =>
            obtain ⟨l, hl⟩ := getR_ok E2 hv gr (fun z => nomatch z)
            cases hl with
            | dat hd =>
              dsimp only at g3
              cases d with
              | list ds =>
                obtain ⟨a, xs, rfl, w1, w2⟩ := dq_lst hd
                simp only [ixF] at g3
                cases g4 : atI ds j with
                | none => rw [g4] at g3; cases g3
                | some z =>
                  rw [g4] at g3; cases g3
                  obtain ⟨u, u1, u2⟩ := dqa_at w2 g4
                  exact .inl ⟨a, xs, j, u, rfl, rfl, sqL (T.k _ _ w1), u1, h u u2⟩
              | tuple ds =>
                obtain ⟨a, xs, rfl, w1, w2⟩ := dq_tup hd
                simp only [ixF] at g3
                cases g4 : atI ds j with
                | none => rw [g4] at g3; cases g3
                | some z =>
                  rw [g4] at g3; cases g3
                  obtain ⟨u, u1, u2⟩ := dqa_at w2 g4
                  exact .inr (.inl ⟨a, xs, j, u, rfl, rfl, sqT (T.k _ _ w1), u1, h u u2⟩)
              | str z =>
                cases hd
                cases g5 : ixF (.str z) j with
                | none => rw [g5] at g3; cases g3
                | some w =>
                  rw [g5] at g3; cases g3
                  simp only [ixF] at g5
                  split at g5
                  · rename_i hl
                    cases g4 : atI z.cps.toList j with
                    | none => rw [g4] at g5; cases g5
                    | some c =>
                      rw [g4] at g5; cases g5
                      exact .inr (.inr ⟨z, j, c, rfl, rfl, len_line hl, g4, h _ (.str _)⟩)
                  · cases g5
              | _ => cases g3
          | own ds =>
            obtain ⟨l, hl⟩ := getR_ok E2 hv gr (fun z => nomatch z)
            cases hl with
            | own w0 w1 w2 =>
              dsimp only at g3
              cases g4 : atI ds j with
              | none => rw [g4] at g3; cases g3
              | some z =>
                rw [g4] at g3; cases g3
                obtain ⟨u, u1, u2⟩ := dqa_at w2 g4
                exact .inl ⟨_, _, j, u, rfl, rfl, sqL w1, u1, h u u2⟩
          | scr ns =>
            obtain ⟨l, hl⟩ := getR_ok E2 hv gr (fun z => nomatch z)
            cases hl with
            | scr w1 =>
              dsimp only at g3
              cases g4 : atI ns j with
              | none => rw [g4] at g3; cases g3
              | some z =>
                rw [g4] at g3; cases g3
                have g5 : atI (ns.map V.int) j = some (.int z) := by
                  unfold atI at g4 ⊢
                  rw [List.length_map]
                  cases g6 : ixN ns.length j with
                  | none => rw [g6] at g4; cases g4
                  | some m =>
                    rw [g6] at g4
                    show (ns.map V.int)[m]? = _
                    rw [List.getElem?_map]
                    have g4 : ns[m]? = some z := g4
                    rw [g4]; rfl
                exact .inl ⟨_, _, j, _, rfl, rfl, Evl.ex_l T.k w1, g5, h _ (.int z)⟩
          | tup ts =>
            have key : ∃ l, TR G F2 H2 v (.tup ts) l ∧ ∀ t, p.1 = .new t → l.Nodup ∧ (∀ a ∈ l, Ow e ls a ∨ H a = none) ∧ ∀ a ∈ l, ¬ All ls2 a := by
              cases hp : p.1 with
              | dat d => rw [hp] at gr; cases gr
              | new t =>
                rw [hp] at gr hv
                cases gr
                obtain ⟨l, n1, n2, n3, n4⟩ := hv
                exact ⟨l, n1, fun _ _ => ⟨n2, n3, n4⟩⟩
              | pl i pp =>
                obtain ⟨l, hl⟩ := getR_ok E2 hv gr (fun z => nomatch z)
                exact ⟨l, hl, fun t z => nomatch z⟩
            obtain ⟨l, hl, hnd⟩ := key
            cases hl with
            | tup w1 w2 =>
              obtain ⟨u, u1, u2⟩ := part_ok E2 hv gr (.inl rfl) (.inl w1) w2 hnd g3
              exact .inr (.inl ⟨_, _, j, u, rfl, rfl, sqT (T.k _ _ w1), u1, h u u2⟩)
          | lst ts =>
            have key : ∃ l, TR G F2 H2 v (.lst ts) l ∧ ∀ t, p.1 = .new t → l.Nodup ∧ (∀ a ∈ l, Ow e ls a ∨ H a = none) ∧ ∀ a ∈ l, ¬ All ls2 a := by
              cases hp : p.1 with
              | dat d => rw [hp] at gr; cases gr
              | new t =>
                rw [hp] at gr hv
                cases gr
                obtain ⟨l, n1, n2, n3, n4⟩ := hv
                exact ⟨l, n1, fun _ _ => ⟨n2, n3, n4⟩⟩
              | pl i pp =>
                obtain ⟨l, hl⟩ := getR_ok E2 hv gr (fun z => nomatch z)
                exact ⟨l, hl, fun t z => nomatch z⟩
            obtain ⟨l, hl, hnd⟩ := key
            cases hl with
            | lst w0 w1 w2 =>
              obtain ⟨u, u1, u2⟩ := part_ok E2 hv gr (.inr rfl) (.inr ⟨w0, w1⟩) w2 (fun t z => by
                obtain ⟨n1, n2, n3⟩ := hnd t z
                exact ⟨(List.nodup_cons.mp n1).2, fun a ha => n2 a (List.mem_cons_of_mem _ ha), fun a ha => n3 a (List.mem_cons_of_mem _ ha)⟩) g3
              exact .inl ⟨_, _, j, u, rfl, rfl, sqL w1, u1, h u u2⟩
    | _ => exact h.elim
end R

/-! Slices, built-ins, methods of lists: the rules. -/
namespace R
open PySem PySem.Spec PyProof.Rows L2
open Evl (Ex)
variable {G : Gs} {W : WX} {F H F1 H1 F2 H2 F3 H3 H0 : Hp} {M O : Addr → Prop} {s s2 s3 : L2.St} {e e1 e2 e3 : En} {ls ls1 ls2 ls3 : Ls}
/-! ### slices -/
def SndO (G : Gs) (W : WX) (t : TO) (f : En → Out (Option Int)) : Prop := ∀ s F H e ls, Ex F H → Env G F H s e ls → ∀ Q : Option Int → Hp → Prop, Post G W s e ls F H (f e) (fun o e2 ls2 F2 H2 => Q o H2) → t s H Q
theorem snd_onone : SndO G W tNoPart (optI none) := fun s F H e ls k E Q q => q.now k E
theorem snd_osome {ta : TE} {f : Ev} (ha : SndV G W ta f) : SndO G W (tPart ta) (optI (some f)) := fun s F H e ls k E Q q => by
  refine ha s F H e ls k E _ (Post.mono q.bnd0 fun p e2 ls2 F2 H2 _ T E2 h v hv => ?_)
  cases g : rdS e2 p with
  | none => rw [g] at h; exact h.elim
  | some x =>
    rw [g] at h
    cases x with
    | int i =>
      have w := rdS_ok E2 T.k hv g
      cases w
      exact ⟨i, rfl, h ls2 F2 H2 T E2⟩
    | _ => exact h.elim
def rSl (K : PySem.W.Frag) : V → Option Int → Option Int → Hp → VK → Prop := fun x lo hi H Q => rSlL K x lo hi H Q ∨ rSlA K x lo hi H Q ∨ rSlS x lo hi H Q
theorem sl_any {X : Cx} : L2.SlR X (rSl X.K) := L2.SlR.or sl_list (L2.SlR.or sl_tupA sl_str)
theorem dqa_cut' {vs : List V} {ds : List PyData} (h : DqAll G F vs ds) (lo hi : Option Int) : DqAll G F (cutV vs lo hi) (cutD ds lo hi) := by
  unfold cutV cutD
  rw [dqa_len h]
  exact dqa_take _ (dqa_drop _ h)
theorem cutD_all {ds : List PyData} {lo hi : Option Int} (h1 : HT.sIx ds.length 0 lo = 0) (h2 : HT.sIx ds.length ds.length hi = ds.length) : cutD ds lo hi = ds := by
  unfold cutD
  rw [h1, h2]
  simp
theorem rv_sl {v : V} {x : PyData} {lo hi : Option Int} {z : Rz} (k : Ex F H) (h : Dr G F H v x) (q : slF x lo hi = some z) (Q : VK) (hq : ∀ v F2 H2, RzOk G F H F2 H2 v z → Q v H2) : rSl G.K v lo hi H Q := by
  cases h with
  | lst h1 h2 => cases q; exact .inl ⟨_, _, rfl, sqL h1, fun p hp => hq _ _ _ (rz_new k hp (dqa_cut' h2 lo hi))⟩
  | tup h1 h0 h2 =>
    rename_i a xs ds
    cases q
    refine .inr (.inl ⟨a, xs, rfl, sqT h1, fun hw => ?_, fun _ p hp => hq _ _ _ (rz_tup k hp (dqa_cut' h2 lo hi))⟩)
    rw [dqa_len h2] at hw
    rw [cutD_all hw.1 hw.2] at hq
    exact hq _ F H (rz_now k (.tup h0 h2))
  | str z =>
    simp only [slF] at q
    split at q
    · rename_i hl
      cases q
      exact .inr (.inr ⟨z, rfl, len_line hl, hq _ F H (rz_now k (.str _))⟩)
    · cases q
  | _ => cases q
theorem snd_sl {ta : TE} {tl th : TO} {f : Ev} {lo hi : Option Ev} (ha : SndV G W ta f) (h1 : SndO G W tl (optI lo)) (h2 : SndO G W th (optI hi)) : SndV G W (tSl (rSl G.K) ta tl th) (slcV f lo hi) := fun s F H e ls k E Q q => by
  refine ha s F H e ls k E _ (Post.mono q.bnd fun x e1 ls1 F1 H1 _ T1 E1 p v hv => ?_)
  obtain ⟨_, _, p⟩ := p
  have p2 := (Post.onE E1 hv (Post.bnd0 p)).bnd
  refine h1 s F1 H1 (holdR x e1) ls1 T1.k E1.holdR _ (Post.mono p2 fun l e2 ls2 F2 H2 _ T2 E2 p3 => ?_)
  obtain ⟨_, _, p3⟩ := p3
  refine h2 s F2 H2 e2 ls2 T2.k E2 _ (Post.mono p3.bnd0 fun h e3 ls3 F3 H3 _ T3 E3 p4 => ?_)
  obtain ⟨T4, p4, hv3, T5, E5⟩ := p4 ls3 F3 H3 T3 E3
  have T6 := T1.trans T5
  cases g : rdS (unholdR x e1 e3) x with
  | none => rw [g] at p4; exact p4.elim
  | some d =>
    rw [g] at p4
    dsimp only at p4
    cases g2 : slF d l h with
    | none => rw [g2] at p4; exact p4.elim
    | some z =>
      rw [g2] at p4
      refine rv_sl T6.k (rdS_ok E5 T6.k hv3 g) g2 Q fun u F4 H4 hz => ?_
      obtain ⟨t1, t2, t3⟩ := hz.res E5
      exact (p4 ls3 F4 H4 (T5.trans t1) t2).2 u (t3.back T6)
/-! ### len, tuple() -/
theorem callR_or {X : Cx} {f : Value} {r1 r2 : List V → Hp → VK → Prop} (h1 : CallR X f r1) (h2 : CallR X f r2) : CallR X f (fun xs H Q => r1 xs H Q ∨ r2 xs H Q) := fun pins s σ H xs us Q I r h => by
  rcases h with h | h
  · exact h1 pins s σ H xs us Q I r h
  · exact h2 pins s σ H xs us Q I r h
def rLenA (K : PySem.W.Frag) : List V → Hp → VK → Prop := fun xs H Q => (∃ p ys, xs = [.ref p] ∧ (SqL K H p ys ∨ SqT K H p ys) ∧ Q (.int ys.length) H) ∨ ∃ z, xs = [.str z] ∧ z.length ≤ sizeLine ∧ Q (.int z.length) H
theorem call_lenA {X : Cx} : CallR X (.builtin "len") (rLenA X.K) := callR_or call_len_seq call_len_str
theorem snd_len {ta : TE} {f : Ev} (ha : SndV G W ta f) : SndV G W (tCB (rLenA G.K) (tCons ta tNil)) (lenV f) := fun s F H e ls k E Q q => by
  refine ha s F H e ls k E _ (Post.mono q.bnd0 fun p e2 ls2 F2 H2 _ T E2 h v hv => ?_)
  show rLenA G.K [v] H2 Q
  cases g : getR e2 p with
  | none => rw [g] at h; exact h.elim
  | some t =>
    rw [g] at h
    have sh : (match shal t with | some d => (match lenF d with | some z => Out.ok z.rs e2 | none => .no) | none => .no) = (match shal t with | some d => (match lenF d with | some z => Out.ok z.rs e2 | none => .no) | none => (.no : Out Rs)) := rfl
    cases t with
    | un => exact h.elim
    | dic _ => exact h.elim
    | dit _ => exact h.elim
    | obj _ _ => exact h.elim
    | tup ts =>
      obtain ⟨l, hl⟩ := getR_ok E2 hv g (fun z => nomatch z)
      cases hl with
      | tup w1 w2 => exact .inl ⟨_, _, rfl, .inr (sqT (T.k _ _ w1)), by rw [w2.len]; exact h ls2 F2 H2 T E2 _ (.int _)⟩
    | lst ts =>
      obtain ⟨l, hl⟩ := getR_ok E2 hv g (fun z => nomatch z)
      cases hl with
      | lst w0 w1 w2 => exact .inl ⟨_, _, rfl, .inl (sqL w1), by rw [w2.len]; exact h ls2 F2 H2 T E2 _ (.int _)⟩
    | scr ns =>
      obtain ⟨l, hl⟩ := getR_ok E2 hv g (fun z => nomatch z)
      cases hl with
      | scr w1 => exact .inl ⟨_, _, rfl, .inl (Evl.ex_l T.k w1), by rw [List.length_map]; exact h ls2 F2 H2 T E2 _ (.int _)⟩
    | own ds =>
      obtain ⟨l, hl⟩ := getR_ok E2 hv g (fun z => nomatch z)
      cases hl with
      | own w0 w1 w2 => exact .inl ⟨_, _, rfl, .inl (sqL w1), by rw [dqa_len w2]; exact h ls2 F2 H2 T E2 _ (.int _)⟩
    | dat d =>
      obtain ⟨l, hl⟩ := getR_ok E2 hv g (fun z => nomatch z)
      cases hl with
      | dat hd =>
        cases d with
        | list ds =>
          obtain ⟨a, xs, rfl, w1, w2⟩ := dq_lst hd
          exact .inl ⟨_, _, rfl, .inl (sqL (T.k _ _ w1)), by rw [dqa_len w2]; exact h ls2 F2 H2 T E2 _ (.int _)⟩
        | tuple ds =>
          obtain ⟨a, xs, rfl, w1, w2⟩ := dq_tup hd
          exact .inl ⟨_, _, rfl, .inr (sqT (T.k _ _ w1)), by rw [dqa_len w2]; exact h ls2 F2 H2 T E2 _ (.int _)⟩
        | str z =>
          cases hd
          have h : Post G W s e ls F H (match lenF (.str z) with | some z => Out.ok z.rs e2 | none => .no) _ := h
          simp only [lenF] at h
          by_cases hl : lenOk z.length = true
          · rw [if_pos hl] at h
            exact .inr ⟨z, rfl, len_line hl, h ls2 F2 H2 T E2 _ (.int _)⟩
          · rw [if_neg hl] at h; exact h.elim
        | _ => exact h.elim
def rTupS (K : PySem.W.Frag) : List V → Hp → VK → Prop := fun xs H Q => ∃ p ys, xs = [.ref p] ∧ ((SqL K H p ys ∧ ∀ l, H l = none → Q (.ref l) (upd H l (.tup ys))) ∨ (SqT K H p ys ∧ Q (.ref p) H))
theorem call_tupleS {X : Cx} : CallR X (.type "tuple") (rTupS X.K) := call_tuple_of
theorem snd_tuple {ta : TE} {f : Ev} (ha : SndV G W ta f) : SndV G W (tCB (rTupS G.K) (tCons ta tNil)) (tupleV f) := fun s F H e ls k E Q q => by
  refine ha s F H e ls k E _ (Post.mono q.bnd0 fun p e2 ls2 F2 H2 _ T E2 h v hv => ?_)
  show rTupS G.K [v] H2 Q
  have gen : Post G W s e ls F H (match rdS e2 p with | some d => (match tupF d with | some z => .ok z.rs e2 | none => .no) | none => .no) (fun r e2 ls2 F2 H2 => ∀ v, ResOk G (Ow e ls) H F2 H2 s e2 ls2 v r → Q v H2) → rTupS G.K [v] H2 Q := fun h => by
    cases g : rdS e2 p with
    | none => rw [g] at h; exact h.elim
    | some d =>
      rw [g] at h
      have w := rdS_ok E2 T.k hv g
      cases w with
      | lst h1 h2 =>
        refine ⟨_, _, rfl, .inl ⟨sqL h1, fun x hx => ?_⟩⟩
        obtain ⟨t1, t2, t3⟩ := (rz_tup T.k hx h2).res E2
        exact h ls2 _ _ (T.trans t1) t2 _ (t3.back T)
      | tup h1 h0 h2 => exact ⟨_, _, rfl, .inr ⟨sqT h1, h ls2 F2 H2 T E2 _ (.tup h0 h2)⟩⟩
      | _ => exact h.elim
  cases p with
  | dat d => exact gen h
  | pl i pp => exact gen h
  | new t =>
    cases t with
    | lst ts =>
      obtain ⟨l, n1, n2, n3, n4⟩ := hv
      cases n1 with
      | lst w0 w1 w2 =>
        refine ⟨_, _, rfl, .inl ⟨sqL w1, fun x hx => ?_⟩⟩
        obtain ⟨F3, n, r⟩ := mkTup_ok (O := Ow e ls) (H0 := H) T.k E2 ⟨_, w2, (List.nodup_cons.mp n2).2, fun a ha => n3 a (List.mem_cons_of_mem _ ha), fun a ha => n4 a (List.mem_cons_of_mem _ ha)⟩ hx
        exact h ls2 F3 _ (T.trans (Stp.n0 n)) (E2.n0 n) _ r
    | _ => exact gen h
/-! ### built-ins of one or two things that are read -/
theorem rv_int1 : Rv1 G (fun x H Q => (∃ i, [x] = [V.int i] ∧ Q (.int i) H) ∨ ∃ k, [x] = [V.bl k] ∧ Q (.int (if k then 1 else 0)) H) intF := fun F H a x z k ha q Q hq => by
  cases ha with
  | int i => cases q; exact .inl ⟨i, rfl, hq _ F H (rz_now k (.int _))⟩
  | bl b => cases q; exact .inr ⟨b, rfl, hq _ F H (rz_now k (.int _))⟩
  | _ => cases q
theorem rv_all : Rv1 G (fun x H Q => rAll G.K [x] H Q) allF := fun F H a x z k ha q Q hq => by
  cases ha with
  | lst h1 h2 =>
    rename_i a xs ds
    simp only [allF] at q
    cases g : boolsOf ds with
    | none => rw [g] at q; cases q
    | some bs =>
      rw [g] at q; cases q
      rw [boolsOf_some g] at h2
      rw [dqa_bls' h2] at h1
      exact ⟨a, bs, rfl, sqL h1, hq _ F H (rz_now k (.bl _))⟩
  | _ => cases q
theorem rv_max2 : Rv2 G (fun x y H Q => ∃ i j, [x, y] = [V.int i, V.int j] ∧ Q (.int (if j > i then j else i)) H) max2F := fun F H a b x y z k ha hb q Q hq => by
  cases ha <;> cases hb <;> cases q
  rename_i i j
  refine ⟨i, j, rfl, ?_⟩
  rw [show (if j > i then j else i) = max i j by split <;> omega]
  exact hq _ F H (rz_now k (.int _))
theorem rv_min2 : Rv2 G (fun x y H Q => ∃ i j, [x, y] = [V.int i, V.int j] ∧ Q (.int (if j < i then j else i)) H) min2F := fun F H a b x y z k ha hb q Q hq => by
  cases ha <;> cases hb <;> cases q
  rename_i i j
  refine ⟨i, j, rfl, ?_⟩
  rw [show (if j < i then j else i) = min i j by split <;> omega]
  exact hq _ F H (rz_now k (.int _))
def rIsX (K : PySem.W.Frag) : List V → Hp → VK → Prop := fun xs H Q => ∃ (a D : Addr) (d : Option Addr) (c : V) (cv : Value) (b : Bool), xs = [.ref a, c] ∧ H a = some (ExK (.ref D) d a) ∧ (∀ dd, d = some dd → ∃ fs, H dd = some (.xd fs)) ∧ ExcC K D ∧ (∀ u, RelV c u → u = cv) ∧ PySem.W.kitOne K (.ref D) cv = some b ∧ Q (.bl b) H
theorem call_isX {X : Cx} : CallR X (.builtin "isinstance") (rIsX X.K) := by
  intro pins s σ H xs us Q I r h
  obtain ⟨a, D, d, c, cv, b, rfl, ha, hdd, C, hcv, e, q⟩ := h
  cases r with
  | cons rx rr =>
    cases rr with
    | cons rt rr =>
      cases rr
      cases rx
      have ec := hcv _ rt
      subst ec
      have ho := I.hok a _ ha
      unfold ExK at ho
      obtain ⟨⟨oe, vs, he, hz, hv⟩, _, _⟩ := ho
      obtain ⟨cdD, hcD, _⟩ := PySem.W.any_some C.hd
      have J : ∃ od, PySem.W.InstAt s.heap a oe D od := by
        cases d with
        | none => exact ⟨none, he, hz.1, by unfold PySem.W.notCls; rw [hv] <;> rfl, by rw [hz.2]; trivial⟩
        | some dd =>
          obtain ⟨fs, hx⟩ := hdd dd rfl
          have hx : ObjOk X.prog X.w H s.heap dd (.xd fs) := I.hok dd _ hx
          obtain ⟨mA, hns, hr⟩ := hx
          obtain ⟨od, h1, h2⟩ := lookIn_ns hns
          exact ⟨some od, he, hz.1, by unfold PySem.W.notCls; rw [hv] <;> rfl, by rw [hz.2]; exact h1⟩
      obtain ⟨od, J⟩ := J
      exact PySem.W.kia_one (PySem.W.kitx_exc (od := od) (by rw [hcD]; rfl) C.hg C.hk C.hs C.ha C.hn C.ht C.hm) I.kIn J e (fun z => nomatch z) fun tk => ⟨.bl b, H, I.kept (t' := tk) fun _ _ z => z, rfl, q⟩
theorem dq_ty {K : PySem.W.Frag} {v : V} {d : PyData} (h : Dq G H v d) (hd : ∀ x, d ≠ .dict x) : TyX K H v (.type (tyN d)) := by
  cases h with
  | non => exact .base .non
  | bl b => exact .base (.bl b)
  | int i => exact .base (.int i)
  | str x => exact .base (.str x)
  | lst h1 _ => exact .base (.lst h1)
  | tup h1 _ => exact .base (.tup h1)
  | exc _ _ => exact absurd rfl (hd _)
  | exf _ _ _ _ _ => exact absurd rfl (hd _)
def rIsi2 (K : PySem.W.Frag) : List V → Hp → VK → Prop := fun xs H Q => rIsi K xs H Q ∨ rIsX K xs H Q
theorem call_isi2 {X : Cx} : CallR X (.builtin "isinstance") (rIsi2 X.K) := by
  intro pins s σ H xs us Q I r h
  rcases h with h | h
  · exact call_isi pins s σ H xs us Q I r h
  · exact call_isX pins s σ H xs us Q I r h
theorem rv_isi {T : String} : Rv1D G (fun x H Q => rIsi2 G.K [x, .ty T] H Q) (isiF T) := fun H a x z ha q Q hq => by
  have gen : (∀ y, x ≠ .dict y) → (match kitB (tyN x) T with | some b => some (PyData.bool b) | none => none) = some z → rIsi2 G.K [a, .ty T] H Q := fun hd q => by
    cases g : kitB (tyN x) T with
    | none => rw [g] at q; cases q
    | some b =>
      rw [g] at q; cases q
      exact .inl ⟨a, .ty T, .type (tyN x), .type T, b, rfl, .ty T, dq_ty ha hd, kit_ty g, hq _ fun _ => .bl _⟩
  cases x with
  | dict y =>
    have q : (if btys.contains T then some (PyData.bool false) else none) = some z := q
    split at q
    · rename_i hT
      cases q
      have hT : T ∈ btys := List.contains_iff_mem.mp hT
      generalize hy : PyData.dict y = x at ha
      cases ha with
      | @exc p c h hX => exact .inr ⟨_, _, _, .ty T, .type T, false, rfl, h, fun dd z => (nomatch z), hX.ex, fun _ r => r, hX.bt T hT, hq _ fun _ => .bl _⟩
      | @exf p dd c ns vs ds h h2 h3 h4 hX => exact .inr ⟨_, _, _, .ty T, .type T, false, rfl, h, fun dd z => by cases z; exact ⟨_, h2⟩, hX.ex, fun _ r => r, hX.bt T hT, hq _ fun _ => .bl _⟩
      | _ => cases hy
    · cases q
  | _ => exact gen (fun _ z => nomatch z) q
/-! ### methods of lists -/
theorem isL_ok (E : Env G F H s e ls) (k : Ex F H) {v : V} {r : Rs} (hv : ResOk G O H0 F H s e ls v r) (h : isL e r = true) : ∃ a xs, v = .ref a ∧ H a = some (.lst xs) := by
  unfold isL at h
  cases g : getR e r with
  | none => rw [g] at h; cases h
  | some t =>
    rw [g] at h
    cases t with
    | own ds =>
      obtain ⟨l, hl⟩ := getR_ok E hv g (fun z => nomatch z)
      cases hl with | own w0 w1 w2 => exact ⟨_, _, rfl, w1⟩
    | lst ds =>
      obtain ⟨l, hl⟩ := getR_ok E hv g (fun z => nomatch z)
      cases hl with | lst w0 w1 w2 => exact ⟨_, _, rfl, w1⟩
    | dat d =>
      cases d with
      | list ds =>
        obtain ⟨l, hl⟩ := getR_ok E hv g (fun z => nomatch z)
        cases hl with
        | dat hd =>
          obtain ⟨a, xs, rfl, w1, w2⟩ := dq_lst hd
          exact ⟨a, xs, rfl, k _ _ w1⟩
      | _ => cases h
    | _ => cases h
/-- what a method's reading does -/
def RvM (G : Gs) (r : V → List V → Hp → VK → Prop) (m : Mt) : Prop := ∀ F H a xs ds vs es l2 d, Ex F H → H a = some (.lst xs) → DqAll G F xs ds → DqAll G F vs es → mtF m ds es = some (l2, d) → ∀ Q : VK, (∀ v xs', DqAll G F xs' l2 → Dq G F v d → Q v (upd H a (.lst xs'))) → r (.ref a) vs H Q
theorem snd_mth {ta : TE} {tr : TA} {f : Ev} {fs : List Ev} {m : Mt} {r : V → List V → Hp → VK → Prop} (ha : SndV G W ta f) (hb : SndAD G W tr (argsD fs)) (hr : RvM G r m) : SndV G W (tBM G.K "list" r ta tr) (mthV m f fs) := fun s F H e ls k E Q q => by
  refine ha s F H e ls k E _ (Post.mono q.bnd fun x e1 ls1 F1 H1 _ T1 E1 p v hv => ?_)
  obtain ⟨_, _, p⟩ := p
  split at p
  · rename_i hL
    refine ⟨?_, ?_⟩
    · obtain ⟨a, xs, rfl, h1⟩ := isL_ok E1 T1.k hv hL
      exact .inl ⟨rfl, xs, sqL h1⟩
    · refine hb s F1 H1 (holdR x e1) ls1 T1.k E1.holdR _ (Post.mono (Post.onE E1 hv (Post.bnd0 p)) fun es e2 ls2 F2 H2 _ T2 E2 p2 vs hvs => ?_)
      obtain ⟨p2, hv2, T3, E3⟩ := p2
      cases x with
      | dat d => exact p2.elim
      | new t => exact p2.elim
      | pl i pp =>
        dsimp only at p2
        cases g : getPl (unholdR (.pl i pp) e1 e2) i pp with
        | none => rw [g] at p2; exact p2.elim
        | some t =>
          rw [g] at p2
          cases t with
          | own l =>
            dsimp only at p2
            split at p2
            · rename_i ho
              cases g2 : mtF m l es with
              | none => rw [g2] at p2; exact p2.elim
              | some y =>
                obtain ⟨l2, d⟩ := y
                rw [g2] at p2
                obtain ⟨la, w1, w2, w3, w4⟩ := E3.lens T3.k g (fun z => nomatch z) ho hv2.1
                cases w1 with
                | own u0 u1 u2 =>
                  rename_i a xs
                  refine hr F2 H2 a xs l vs es l2 d T3.k u1 u2 hvs g2 Q fun u xs' hx hu => ?_
                  have nn : NxM (· ∈ [a]) F2 H2 F2 (upd H2 a (.lst xs')) := NxM.wr T3.k (List.mem_singleton.mpr rfl) u0 u1 rfl
                  obtain ⟨ls3, T4, E4, _⟩ := w4 F2 (upd H2 a (.lst xs')) (.own l2) [a] nn (.own u0 upd_same hx) w2 (fun b hb => .inl hb)
                  exact (p2 ls3 F2 _ (T3.trans T4) E4).2 u hu
            · exact p2.elim
          | _ => exact p2.elim
  · exact p.elim
theorem dqa1 {vs : List V} {d : PyData} (h : DqAll G F vs [d]) : ∃ v, vs = [v] ∧ Dq G F v d := by
  cases h with
  | cons h1 h2 => cases h2; exact ⟨_, rfl, h1⟩
theorem dqa2 {vs : List V} {d d2 : PyData} (h : DqAll G F vs [d, d2]) : ∃ v w, vs = [v, w] ∧ Dq G F v d ∧ Dq G F w d2 := by
  cases h with
  | cons h1 h2 => obtain ⟨w, rfl, h3⟩ := dqa1 h2; exact ⟨_, w, rfl, h1, h3⟩
theorem rm_append : RvM G rAppend .append := fun F H a xs ds vs es l2 d k h1 h2 h3 q Q hq => by
  match es, q with
  | [x], q =>
    simp only [mtF] at q
    split at q
    · rename_i hl
      cases q
      obtain ⟨v, rfl, hv⟩ := dqa1 h3
      exact ⟨a, xs, v, rfl, rfl, h1, by rw [dqa_len h2]; exact len_lt hl, hq _ _ (dqa_app h2 (.cons hv .nil)) .non⟩
    · cases q
def rIns : V → List V → Hp → VK → Prop := fun x vs H Q => ∃ (l : Addr) (xs : List V) (i : Int) (y : V), x = .ref l ∧ vs = [.int i, y] ∧ H l = some (.lst xs) ∧ xs.length < sizeLine ∧ 0 ≤ i ∧ i < 2 ^ 63 ∧ Q .non (upd H l (.lst (xs.take i.toNat ++ [y] ++ xs.drop i.toNat)))
theorem mIns {X : Cx} : MtR X "list.insert" rIns := mt_insert
theorem rm_insert : RvM G rIns .insert := fun F H a xs ds vs es l2 d k h1 h2 h3 q Q hq => by
  match es, q with
  | [.int i, x], q =>
    simp only [mtF] at q
    split at q
    · rename_i hl
      cases q
      rw [Bool.and_eq_true, Bool.and_eq_true] at hl
      have l1 := of_decide_eq_true hl.1.2
      have l2 := of_decide_eq_true hl.2
      have l3 : ds.length ≤ 1000000 := of_decide_eq_true hl.1.1
      obtain ⟨v, w, rfl, hv, hw⟩ := dqa2 h3
      cases hv
      refine ⟨a, xs, i, w, rfl, rfl, h1, by rw [dqa_len h2]; exact len_lt hl.1.1, l1, by omega, ?_⟩
      have : DqAll G F (xs.take i.toNat ++ [w] ++ xs.drop i.toNat) (ds.take i.toNat ++ x :: ds.drop i.toNat) := by
        rw [List.append_assoc]
        exact dqa_app (dqa_take _ h2) (.cons hw (dqa_drop _ h2))
      exact hq _ _ this .non
    · cases q
theorem snd_mth1 {ta tb : TE} {f g : Ev} {r : V → List V → Hp → VK → Prop} {o : PyData → PyData → Option Rz} (ha : SndV G W ta f) (hb : SndV G W tb g) (hr : Rv2 G (fun x y H Q => r x [y] H Q) o) : SndV G W (tBM G.K "list" r ta (tCons tb tNil)) (mth1 o f g) := fun s F H e ls k E Q q => by
  refine ha s F H e ls k E _ (Post.mono q.bnd fun x e1 ls1 F1 H1 _ T1 E1 p v hv => ?_)
  obtain ⟨_, _, p⟩ := p
  split at p
  · rename_i hL
    refine ⟨?_, ?_⟩
    · obtain ⟨a, xs, rfl, h1⟩ := isL_ok E1 T1.k hv hL
      exact .inl ⟨rfl, xs, sqL h1⟩
    · refine hb s F1 H1 (holdR x e1) ls1 T1.k E1.holdR _ (Post.mono (Post.onE E1 hv (Post.bnd0 p)) fun y e2 ls2 F2 H2 _ T2 E2 p2 w hw => ?_)
      obtain ⟨p2, hv2, T3, E3⟩ := p2
      have hw2 : ResOk G (Ow e1 ls1) H1 F2 H2 s (unholdR x e1 e2) ls2 w y := hw.held fun i p ep hp => by
        subst ep
        obtain ⟨t, g1, g2⟩ := hw.2 hp
        exact ⟨t, getPl_unhold T2 g1, g2⟩
      have T4 := T1.trans T3
      cases g1 : rdS (unholdR x e1 e2) x with
      | none => rw [g1] at p2; exact p2.elim
      | some d1 =>
        cases g2 : rdS (unholdR x e1 e2) y with
        | none => rw [g1, g2] at p2; exact p2.elim
        | some d2 =>
          rw [g1, g2] at p2
          dsimp only at p2
          cases g3 : o d1 d2 with
          | none => rw [g3] at p2; exact p2.elim
          | some z =>
            rw [g3] at p2
            refine hr F2 H2 v w d1 d2 z T3.k (rdS_ok E3 T3.k hv2 g1) (rdS_ok E3 T3.k hw2 g2) g3 Q fun u F4 H4 hz => ?_
            obtain ⟨t1, t2, t3⟩ := hz.res E3
            exact (p2 ls2 F4 H4 (T3.trans t1) t2).2 u (t3.back T4)
  · exact p.elim
end R

/-! Targets, what is walked, comprehensions. -/
namespace R
open PySem PySem.Spec PyProof.Rows L2
open Evl (Ex)
variable {G : Gs} {W : WX} {F H F1 H1 F2 H2 F3 H3 H0 : Hp} {M O : Addr → Prop} {s s2 s3 : L2.St} {e e1 e2 e3 : En} {ls ls1 ls2 ls3 : Ls}
/-! ### canonical readings -/
def tOf (G : Gs) (W : WX) (f : Ev) : TE := fun σ H Q => ∃ F e ls, Ex F H ∧ Env G F H σ e ls ∧ Post G W σ e ls F H (f e) (fun r e2 ls2 F2 H2 => ∀ v, ResOk G (Ow e ls) H F2 H2 σ e2 ls2 v r → Q v H2)
theorem snd_of {f : Ev} : SndV G W (tOf G W f) f := fun s F H e ls k E Q q => ⟨F, e, ls, k, E, q⟩
def tOfT (G : Gs) (W : WX) (f : Et) : TT := fun σ H Q => ∃ F e ls, Ex F H ∧ Env G F H σ e ls ∧ Post G W σ e ls F H (f e) (fun b e2 ls2 F2 H2 => Q b H2)
theorem snd_ofT {f : Et} : SndT G W (tOfT G W f) f := fun s F H e ls k E Q q => ⟨F, e, ls, k, E, q⟩
theorem JE.can {X : Cx} {cl : Str → Addr} {ex : Expr} {f : Ev} (h : JE X cl W ex f) : PE X ex (tOf (GX X cl) W f) := by
  obtain ⟨te, p, sn⟩ := h.p
  exact ⟨fun pins sh σ H Q I q => by obtain ⟨F, e, ls, k, E, q⟩ := q; exact p.run pins sh σ H Q I (sn σ F H e ls k E Q q)⟩
theorem JT.can {X : Cx} {cl : Str → Addr} {ex : Expr} {f : Et} (h : JT X cl W ex f) : PT X ex (tOfT (GX X cl) W f) := by
  obtain ⟨te, p, sn⟩ := h.p
  exact ⟨fun pins sh σ H Q I q => by obtain ⟨F, e, ls, k, E, q⟩ := q; exact p.run pins sh σ H Q I (sn σ F H e ls k E Q q)⟩
/-! ### targets -/
def SndG (G : Gs) (tg : TG) (g : Tg) : Prop := ∀ s F H e ls v d e2, Ex F H → Env G F H s e ls → Dq G F v d → bindG g d e = some e2 → ∀ Q : L2.St → Hp → Prop, (∀ s2 ls2, Stp e ls F H s e2 ls2 F H s2 → Env G F H s2 e2 ls2 → s2.length = s.length → (∀ i, i ∉ g.ns → s2[i]? = s[i]?) → Q s2 H) → tg v s H Q
def SndGs (G : Gs) (tg : TGs) (g : Tgs) : Prop := ∀ s F H e ls vs ds e2, Ex F H → Env G F H s e ls → DqAll G F vs ds → bindGs g ds e = some e2 → ∀ Q : L2.St → Hp → Prop, (∀ s2 ls2, Stp e ls F H s e2 ls2 F H s2 → Env G F H s2 e2 ls2 → s2.length = s.length → (∀ i, i ∉ g.ns → s2[i]? = s[i]?) → Q s2 H) → tg vs s H Q
theorem setN_some {i : Nat} {t : Tr} (h : setN i t e = some e2) : ∃ t0, e[i]? = some (.o t0) ∧ e2 = e.set i (.o t) := by
  unfold setN at h
  split at h
  · rename_i t0 q; cases h; exact ⟨t0, q, rfl⟩
  · cases h
/-- a slot gets a thing that is apart -/
theorem set_ok {i : Nat} {v : V} {t : Tr} (k : Ex F H) (E : Env G F H s e ls) (h : NewOk G O H0 F H ls v t) (hO : ∀ a, O a ∨ H0 a = none → Ow e1 ls1 a ∨ H1 a = none) (T : Stp e1 ls1 F1 H1 s1 e ls F H s) (q : setN i t e = some e2) :
    ∃ ls2, Stp e1 ls1 F1 H1 s1 e2 ls2 F H (s.set i (some v)) ∧ Env G F H (s.set i (some v)) e2 ls2 := by
  obtain ⟨t0, h1, rfl⟩ := setN_some q
  obtain ⟨l, g1, g2, g3, g4⟩ := h
  have hi : i < e.length := (List.getElem?_eq_some_iff.mp h1).1
  exact ⟨ls.set i l, T.set (fun y z => by rw [h1] at z; cases z) fun a ha => hO a (g3 a ha), E.set hi g1 g2 fun a ha j m hj hm ham => g4 a ha ⟨j, m, hm, ham⟩⟩
theorem new_dat {v : V} {d : PyData} (h : Dq G F v d) : NewOk G O H0 F H ls v (.dat d) := ⟨[], .dat h, List.nodup_nil, fun _ z => (nomatch z), fun _ z => (nomatch z)⟩
theorem snd_gname {i : Nat} : SndG G (gName i) (.name i) := fun s F H e ls v d e2 k E hd q Q hq => by
  obtain ⟨ls2, T, E2⟩ := set_ok (O := Ow e ls) (H0 := H) k E (new_dat hd) (fun _ h => h) (Stp.refl k) q
  exact hq _ ls2 T E2 List.length_set fun j hj => by rw [List.getElem?_set_ne (fun z => hj (by subst z; exact List.mem_singleton.mpr rfl))]
theorem snd_gnil : SndGs G gNil .nil := fun s F H e ls vs ds e2 k E hd q Q hq => by
  cases ds with
  | nil => cases hd; cases q; exact ⟨rfl, hq s ls (Stp.refl k) E rfl fun _ _ => rfl⟩
  | cons d ds => cases q
theorem snd_gcons {t : TG} {ts : TGs} {g : Tg} {gs : Tgs} (h1 : SndG G t g) (h2 : SndGs G ts gs) : SndGs G (gCons t ts) (.cons g gs) := fun s F H e ls vs ds e2 k E hd q Q hq => by
  cases ds with
  | nil => cases q
  | cons d ds =>
    simp only [bindGs] at q
    cases g1 : bindG g d e with
    | none => rw [g1] at q; cases q
    | some e1 =>
      rw [g1] at q
      cases hd with
      | cons ha hb =>
        refine ⟨_, _, rfl, h1 s F H e ls _ d e1 k E ha g1 _ fun s1 ls1 T1 E1 l1 n1 => ?_⟩
        exact h2 s1 F H e1 ls1 _ ds e2 k E1 hb q Q fun s2 ls2 T2 E2 l2 n2 => hq s2 ls2 (T1.trans T2) E2 (l2.trans l1) fun i hi => by
          have h3 : i ∉ g.ns ∧ i ∉ gs.ns := by
            simp only [Tgs.ns, List.mem_append, not_or] at hi
            exact hi
          rw [n2 i h3.2, n1 i h3.1]
/-- a tuple or a list to a tuple of targets -/
def gSeq (K : PySem.W.Frag) (n : Nat) (t : TGs) : TG := fun v σ H Q => gTup K n t v σ H Q ∨ gUnl K n t v σ H Q
theorem pg_seq {X : Cx} {pos : Pos} {es : List Expr} {k : Nat} {t : TGs} {n : Nat} (hc : X.calm = true) (h : PGs X es t)
    (hn : (assignEach es X.env).length = n := by rfl) (hst : (assignEach es X.env).findIdx? (·.1) = none := by rfl) : PG X (.Tuple es k pos) (gSeq X.K n t) :=
  ⟨fun pins s σ H v u Q I r hw => hw.elim ((pg_tup (pos := pos) (k := k) hc h hn hst).run pins s σ H v u Q I r) ((pg_unl (pos := pos) (k := k) hc h hn hst).run pins s σ H v u Q I r)⟩
theorem snd_gtup {ts : TGs} {gs : Tgs} {n : Nat} (h : SndGs G ts gs) (hn : ∀ ds e e2, bindGs gs ds e = some e2 → ds.length = n) : SndG G (gSeq G.K n ts) (.tup gs) := fun s F H e ls v d e2 k E hd q Q hq => by
  cases d with
  | tuple ds =>
    simp only [bindG] at q
    obtain ⟨a, xs, rfl, h1, h2⟩ := dq_tup hd
    exact .inl ⟨a, xs, rfl, sqT (k _ _ h1), by rw [dqa_len h2]; exact hn ds e e2 q, h s F H e ls xs ds e2 k E h2 q Q fun s2 ls2 T E2 l n => hq s2 ls2 T E2 l fun i hi => n i (by simpa [Tg.ns] using hi)⟩
  | list ds =>
    simp only [bindG] at q
    obtain ⟨a, xs, rfl, h1, h2⟩ := dq_lst hd
    exact .inr ⟨a, xs, rfl, sqL (k _ _ h1), by rw [dqa_len h2]; exact hn ds e e2 q, h s F H e ls xs ds e2 k E h2 q Q fun s2 ls2 T E2 l n => hq s2 ls2 T E2 l fun i hi => n i (by simpa [Tg.ns] using hi)⟩
  | _ => simp only [bindG] at q; cases q
def Tgs.len : Tgs → Nat
  | .nil => 0
  | .cons _ gs => gs.len + 1
theorem bindGs_len : ∀ {gs : Tgs} {ds : List PyData} {e e2 : En}, bindGs gs ds e = some e2 → ds.length = gs.len
  | .nil, [], _, _, _ => rfl
  | .nil, _ :: _, _, _, q => by cases q
  | .cons g gs, [], _, _, q => by cases q
  | .cons g gs, d :: ds, e, e2, q => by
    simp only [bindGs] at q
    cases g1 : bindG g d e with
    | none => rw [g1] at q; cases q
    | some e1 => rw [g1] at q; exact congrArg (· + 1) (bindGs_len q)
structure JG (X : Cx) (cl : Str → Addr) (ex : Expr) (g : Tg) : Prop where
  p : ∃ t, PG X ex t ∧ SndG (GX X cl) t g
structure JGs (X : Cx) (cl : Str → Addr) (es : List Expr) (g : Tgs) : Prop where
  p : ∃ t, PGs X es t ∧ SndGs (GX X cl) t g
def tOfG (G : Gs) (g : Tg) : TG := fun v s H Q => ∃ F e ls d e2, Ex F H ∧ Env G F H s e ls ∧ Dq G F v d ∧ bindG g d e = some e2 ∧ (∀ s2 ls2, Stp e ls F H s e2 ls2 F H s2 → Env G F H s2 e2 ls2 → s2.length = s.length → (∀ i, i ∉ g.ns → s2[i]? = s[i]?) → Q s2 H)
theorem snd_ofG {g : Tg} : SndG G (tOfG G g) g := fun s F H e ls v d e2 k E hd q Q hq => ⟨F, e, ls, d, e2, k, E, hd, q, hq⟩
theorem JG.can {X : Cx} {cl : Str → Addr} {ex : Expr} {g : Tg} (h : JG X cl ex g) : PG X ex (tOfG (GX X cl) g) := by
  obtain ⟨te, p, sn⟩ := h.p
  exact ⟨fun pins sh σ H v u Q I r q => by obtain ⟨F, e, ls, d, e2, k, E, hd, hb, q⟩ := q; exact p.run pins sh σ H v u Q I r (sn σ F H e ls v d e2 k E hd hb Q q)⟩
section
variable {X : Cx} {cl : Str → Addr} {n : Nat} {pos : Pos}
theorem jg_name (i : Nat) {x : Str} (hN : X.N.Nodup) (hi : X.N[i]? = some x) (hx : Loc X.env.scope x) (hf : X.fn x = true ∨ X.env.scope.names.lookup x = some .local := by first | exact .inl rfl | exact .inr rfl | assumption) : JG X cl (.Name x pos) (.name i) := ⟨_, pg_name hN hi hx hf, snd_gname⟩
theorem jgs_nil : JGs X cl [] .nil := ⟨_, pgs_nil, snd_gnil⟩
theorem jgs_cons {ex : Expr} {es : List Expr} {g : Tg} {gs : Tgs} (h1 : JG X cl ex g) (h2 : JGs X cl es gs) (hs : (assignEach (ex :: es) X.env).map (·.2) = assign ex X.env :: (assignEach es X.env).map (·.2) := by rfl) : JGs X cl (ex :: es) (.cons g gs) := let ⟨_, p1, s1⟩ := h1.p; let ⟨_, p2, s2⟩ := h2.p; ⟨_, pgs_cons p1 p2 hs, snd_gcons s1 s2⟩
theorem jg_tup {es : List Expr} {k : Nat} {gs : Tgs} (hc : X.calm = true) (h : JGs X cl es gs) (hn : (assignEach es X.env).length = gs.len := by rfl) (hst : (assignEach es X.env).findIdx? (·.1) = none := by rfl) : JG X cl (.Tuple es k pos) (.tup gs) := let ⟨_, p1, s1⟩ := h.p; ⟨_, pg_seq hc p1 hn hst, snd_gtup s1 fun _ _ _ => bindGs_len⟩
end
/-! ### what is walked -/
def ItD (G : Gs) (F0 : Hp) (J : It) (ds : List PyData) : Prop := ∃ (Gd : Hp → Prop) (Y : Nat → Hp → V → Hp → Prop), Walk J ds.length Gd Y ∧ (∀ H, Ex F0 H → Gd H) ∧ ∀ i H x H' F d, Ex F0 F → Ex F H → ds[i]? = some d → Y i H x H' → ∃ F', Nx F H F' H' ∧ Dq G F' x d
def SndI (G : Gs) (W : WX) (wi : TI) (f : Ei) : Prop := ∀ s F H e ls, Ex F H → Env G F H s e ls → ∀ R : It → Hp → Prop, Post G W s e ls F H (f e) (fun ds e2 ls2 F2 H2 => ∀ J, ItD G F2 J ds → R J H2) → wi s H R
def iSeq (K : PySem.W.Frag) (tl : TE) : TI := fun σ H R => tl σ H fun x H1 => (∃ a, x = .ref a ∧ (∃ xs, SqL K H1 a xs) ∧ R (Itl K a) H1) ∨ ∃ a, x = .ref a ∧ (∃ xs, SqT K H1 a xs) ∧ R (Itt K a) H1
theorem pi_seq {X : Cx} {tg l : Expr} {tl : TE} (hl : PE X l tl) : PI X tg l (iSeq X.K tl) := by
  refine ⟨fun pins s σ H R I h => ?_⟩
  refine thn (hl.run pins s σ H _ I h) fun v s1 ⟨x, H1, I1, r1, q1⟩ => ?_
  rcases q1 with ⟨a, e, ⟨xs, hq⟩, q⟩ | ⟨a, e, ⟨xs, hq⟩, q⟩
  · subst e
    cases r1
    obtain ⟨its, rv, p, hz⟩ := I1.list hq
    refine wpAny_pyIter_list p.isList ?_
    refine ⟨s1.heap.objs.size, [s1.heap.objs.size], _, _, H1, rfl, I1.kept (t' := s1.toks) fun b o e => Heap.get?_push_of_some _ e, turn_list a _, ⟨_, Heap.get?_push_size _ rfl, rfl, rfl⟩, fun b hb => ?_, q⟩
    have e : b = s1.heap.objs.size := by simpa using hb
    subst e
    exact I1.fpOk (Nat.le_refl _) (I1.hok.fresh (Nat.le_refl _))
  · subst e
    cases r1
    obtain ⟨its, rv, p, hz⟩ := I1.tuple hq
    refine wpAny_pyIter_tuple (show s1.heap.IsTuple a its.toArray from p) ?_
    refine ⟨s1.heap.objs.size, [s1.heap.objs.size], _, _, H1, rfl, I1.kept (t' := s1.toks) fun b o e => Heap.get?_push_of_some _ e, turn_tuple a _, ⟨_, Heap.get?_push_size _ rfl, rfl, rfl⟩, fun b hb => ?_, q⟩
    have e : b = s1.heap.objs.size := by simpa using hb
    subst e
    exact I1.fpOk (Nat.le_refl _) (I1.hok.fresh (Nat.le_refl _))
theorem itd_list {K : PySem.W.Frag} {a : Addr} {xs : List V} {ds : List PyData} (h1 : F a = some (.lst xs)) (h2 : DqAll G F xs ds) : ItD G F (Itl K a) ds :=
  ⟨_, _, dqa_len h2 ▸ walk_list, fun H k => sqL (k _ _ h1), fun i H x H' F' d k1 k2 hd hy => by
    obtain ⟨rfl, hx⟩ := hy
    obtain ⟨v, g1, g2⟩ := dqa_get h2 hd
    rw [hx] at g1; cases g1
    exact ⟨F', NxM.refl k2, dq_up k1 g2⟩⟩
theorem itd_tup {K : PySem.W.Frag} {a : Addr} {xs : List V} {ds : List PyData} (h1 : F a = some (.tup xs)) (h2 : DqAll G F xs ds) : ItD G F (Itt K a) ds :=
  ⟨_, _, dqa_len h2 ▸ walk_tup, fun H k => sqT (k _ _ h1), fun i H x H' F' d k1 k2 hd hy => by
    obtain ⟨rfl, hx⟩ := hy
    obtain ⟨v, g1, g2⟩ := dqa_get h2 hd
    rw [hx] at g1; cases g1
    exact ⟨F', NxM.refl k2, dq_up k1 g2⟩⟩
theorem snd_seq {ta : TE} {f : Ev} (h : SndV G W ta f) : SndI G W (iSeq G.K ta) (seqI f) := fun s F H e ls k E R q => by
  refine h.dat s F H e ls k E _ (Post.mono q.bnd0 fun d e2 ls2 F2 H2 _ T E2 p v hv => ?_)
  cases d with
  | list ds =>
    obtain ⟨a, xs, rfl, h1, h2⟩ := dq_lst hv
    exact .inl ⟨a, rfl, ⟨xs, sqL (T.k _ _ h1)⟩, p ls2 F2 H2 T E2 _ (itd_list h1 h2)⟩
  | tuple ds =>
    obtain ⟨a, xs, rfl, h1, h2⟩ := dq_tup hv
    exact .inr ⟨a, rfl, ⟨xs, sqT (T.k _ _ h1)⟩, p ls2 F2 H2 T E2 _ (itd_tup h1 h2)⟩
  | _ => exact p.elim
theorem rngL_len {lo : Int} {n : Nat} : (rngL lo n).length = n := by unfold rngL; rw [List.length_map, List.length_range]
theorem itd_rng {lo : Int} {n : Nat} : ItD G F (Itr lo n) (rngL lo n) :=
  ⟨fun _ => True, YFn fun i => .int (lo + i), by rw [rngL_len]; exact walk_range, fun H k => trivial, fun i H x H' F' d k1 k2 hd hy => by
    obtain ⟨rfl, rfl⟩ := hy
    unfold rngL at hd
    rw [List.getElem?_map] at hd
    cases g : (List.range n)[i]? with
    | none => rw [g] at hd; cases hd
    | some j =>
      rw [g] at hd
      cases hd
      have : j = i := by
        have h1 := (List.getElem?_eq_some_iff.mp g).2
        rw [List.getElem_range] at h1
        exact h1.symm
      subst this
      exact ⟨F', NxM.refl k2, .int _⟩⟩
theorem inR_ok {i : Int} (h : inR i = true) : -(2 ^ 62) ≤ i ∧ i < 2 ^ 62 := by
  unfold inR at h
  rw [Bool.and_eq_true] at h
  have h1 := of_decide_eq_true h.1
  have h2 := of_decide_eq_true h.2
  constructor <;> omega
theorem snd_rng1 {ta : TE} {f : Ev} (h : SndV G W ta f) : SndI G W (iRng1 (tCons ta tNil)) (rng1 f) := fun s F H e ls k E R q => by
  refine h.dat s F H e ls k E _ (Post.mono q.bnd0 fun d e2 ls2 F2 H2 _ T E2 p v hv => ?_)
  show ∃ j : Int, [v] = [.int j] ∧ _
  cases d with
  | int j =>
    cases hv
    dsimp only at p
    split at p
    · rename_i hr
      obtain ⟨h1, h2⟩ := inR_ok hr
      exact ⟨j, rfl, h1, h2, p ls2 F2 H2 T E2 _ itd_rng⟩
    · exact p.elim
  | _ => exact p.elim
theorem enumF_len : ∀ {ds : List PyData} {n : Nat}, (enumF n ds).length = ds.length
  | [], _ => rfl
  | d :: ds, n => congrArg (· + 1) enumF_len
theorem enumF_get : ∀ {ds : List PyData} {n i : Nat} {d : PyData}, (enumF n ds)[i]? = some d → ∃ x, ds[i]? = some x ∧ d = .tuple [.int ((n + i : Nat) : Int), x]
  | [], n, i, d, h => by simp [enumF] at h
  | x :: ds, n, 0, d, h => by simp [enumF] at h; exact ⟨x, rfl, by rw [← h]; rfl⟩
  | x :: ds, n, i + 1, d, h => by
    obtain ⟨y, h1, h2⟩ := enumF_get (ds := ds) (n := n + 1) (i := i) (d := d) (by simpa [enumF] using h)
    exact ⟨y, by simpa using h1, by rw [h2]; congr 3; omega⟩
theorem itd_enum {K : PySem.W.Frag} {a : Addr} {xs : List V} {ds : List PyData} (h1 : F a = some (.lst xs)) (h2 : DqAll G F xs ds) : ItD G F (Ite K a) (enumF 0 ds) :=
  ⟨_, _, (enumF_len.trans (dqa_len h2).symm).symm ▸ walk_enum, fun H k => sqL (k _ _ h1), fun i H x H' F' d k1 k2 hd hy => by
    obtain ⟨Tp, y1, y2, rfl, hT, rfl, g1, g2⟩ := hy
    obtain ⟨z, w1, rfl⟩ := enumF_get hd
    obtain ⟨v, u1, u2⟩ := dqa_get h2 w1
    cases g1
    have g2 : xs[i]? = some y2 := g2
    rw [g2] at u1; cases u1
    have n := Nx.new (o := .tup [.int (i : Nat), y2]) k2 hT
    exact ⟨_, n, .tup upd_same (.cons (by rw [Nat.zero_add]; exact .int _) (.cons (dq_up (k1.trans n.f) u2) .nil))⟩⟩
theorem snd_enum {ta : TE} {f : Ev} (h : SndV G W ta f) : SndI G W (iEnum G.K (tCons ta tNil)) (enumI f) := fun s F H e ls k E R q => by
  refine h.dat s F H e ls k E _ (Post.mono q.bnd0 fun d e2 ls2 F2 H2 _ T E2 p v hv => ?_)
  show ∃ a xs, [v] = [.ref a] ∧ _
  cases d with
  | list ds =>
    obtain ⟨a, xs, rfl, h1, h2⟩ := dq_lst hv
    exact ⟨a, xs, rfl, sqL (T.k _ _ h1), p ls2 F2 H2 T E2 _ (itd_enum h1 h2)⟩
  | _ => exact p.elim
theorem snd_str {ta : TE} {f : Ev} (h : SndV G W ta f) : SndI G W (iStr ta) (strI f) := fun s F H e ls k E R q => by
  refine h.dat s F H e ls k E _ (Post.mono q.bnd0 fun d e2 ls2 F2 H2 _ T E2 p v hv => ?_)
  cases d with
  | str z =>
    cases hv
    refine ⟨z, rfl, p ls2 F2 H2 T E2 _ ⟨fun _ => True, fun i H v H' => H' = H ∧ ∃ c, z.cps[i]? = some c ∧ v = .str ⟨#[c]⟩, ?_, fun H k => trivial, fun i H x H' F' d k1 k2 hd hy => ?_⟩⟩
    · rw [List.length_map, Array.length_toList]; exact walk_str
    · obtain ⟨rfl, c, h1, rfl⟩ := hy
      rw [List.getElem?_map, Array.getElem?_toList, h1] at hd
      cases hd
      exact ⟨F', NxM.refl k2, .str _⟩
  | _ => exact p.elim
structure JI (X : Cx) (cl : Str → Addr) (W : WX) (tg iter : Expr) (f : Ei) : Prop where
  p : ∃ wi, PI X tg iter wi ∧ SndI (GX X cl) W wi f
end R

/-! Comprehensions. -/
namespace R
open PySem PySem.Spec PyProof.Rows L2
open Evl (Ex)
variable {G : Gs} {W : WX} {F H F1 H1 F2 H2 F3 H3 H0 : Hp} {M O : Addr → Prop} {s s2 s3 : L2.St} {e e1 e2 e3 : En} {ls ls1 ls2 ls3 : Ls}
def W0 : WX := fun _ _ _ _ => False
def wipeL (ls : Ls) : List Nat → Ls
  | [] => ls
  | v :: vs => (wipeL ls vs).set v []
theorem Env.forget {i : Nat} {o : Option V} (E : Env G F H s e ls) : Env G F H (s.set i o) (e.set i (.o .un)) (ls.set i []) := by
  refine ⟨by rw [set_len, set_len, E.len], by rw [set_len, set_len, E.lenl], fun j y m q1 q2 => ?_, fun j m q => ?_, fun j k m m' a njk q1 q2 ha => ?_, E.tb⟩
  · rcases set_at q1 with ⟨rfl, rfl⟩ | ⟨c, r⟩
    · rcases set_at q2 with ⟨_, rfl⟩ | ⟨c, _⟩
      · exact .inl ⟨rfl, rfl⟩
      · exact absurd rfl c
    · rcases set_at q2 with ⟨c2, _⟩ | ⟨_, r2⟩
      · exact absurd c2 c
      · rw [List.getElem?_set_ne (Ne.symm c)]; exact E.ent j y m r r2
  · rcases set_at q with ⟨_, rfl⟩ | ⟨_, r⟩
    · exact List.nodup_nil
    · exact E.nd j m r
  · rcases set_at q1 with ⟨_, rfl⟩ | ⟨_, r1⟩
    · cases ha
    · rcases set_at q2 with ⟨_, rfl⟩ | ⟨_, r2⟩
      · exact fun z => nomatch z
      · exact E.ap j k m m' a njk r1 r2 ha
theorem Env.wipe (E : Env G F H s e ls) : ∀ (vs : List Nat), Env G F H (wipe s vs) (wipeE e vs) (wipeL ls vs)
  | [] => E
  | v :: vs => (Env.wipe E vs).forget
theorem wipe_at {α : Type} {x : α} : ∀ {vs : List Nat} {i : Nat} {f : List Nat → List α} (y : α), (∀ v vs, f (v :: vs) = (f vs).set v y) → i ∉ vs → (f vs)[i]? = (f [])[i]?
  | [], _, _, _, _, _ => rfl
  | v :: vs, i, f, y, h, hi => by
    rw [h, List.getElem?_set_ne (fun z => hi (by subst z; exact List.mem_cons_self))]
    exact wipe_at (x := x) y h fun z => hi (List.mem_cons_of_mem _ z)
theorem wipeE_at {vs : List Nat} {i : Nat} (hi : i ∉ vs) : (wipeE e vs)[i]? = e[i]? := wipe_at (x := Sl.o .un) (.o .un) (fun _ _ => rfl) hi
theorem wipeL_at {vs : List Nat} {i : Nat} (hi : i ∉ vs) : (wipeL ls vs)[i]? = ls[i]? := wipe_at (x := ([] : List Addr)) [] (fun _ _ => rfl) hi
theorem wipeS_at {vs : List Nat} {i : Nat} (hi : i ∉ vs) : (L2.wipe s vs)[i]? = s[i]? := wipe_at (x := (none : Option V)) none (fun _ _ => rfl) hi
theorem wipeE_len : ∀ {vs : List Nat}, (wipeE e vs).length = e.length
  | [] => rfl
  | v :: vs => by unfold wipeE; rw [set_len]; exact wipeE_len
theorem wipeL_len : ∀ {vs : List Nat}, (wipeL ls vs).length = ls.length
  | [] => rfl
  | v :: vs => by unfold wipeL; rw [set_len]; exact wipeL_len
theorem wipeL_in : ∀ {vs : List Nat} {i : Nat} {l : List Addr}, i ∈ vs → (wipeL ls vs)[i]? = some l → l = []
  | v :: vs, i, l, hi, q => by
    unfold wipeL at q
    rcases set_at q with ⟨_, z⟩ | ⟨c, r⟩
    · exact z
    · rcases List.mem_cons.mp hi with z | z
      · exact absurd z c
      · exact wipeL_in z r
theorem ow_wipe {vs : List Nat} {a : Addr} (h : Ow (wipeE e vs) (wipeL ls vs) a) : Ow e ls a := by
  obtain ⟨i, t, l, h1, h2, h3⟩ := h
  by_cases c : i ∈ vs
  · rw [wipeL_in c h2] at h3; cases h3
  · rw [wipeE_at c] at h1
    rw [wipeL_at c] at h2
    exact ⟨i, t, l, h1, h2, h3⟩
theorem all_wipe {vs : List Nat} {a : Addr} (h : All (wipeL ls vs) a) : All ls a := by
  obtain ⟨i, l, h2, h3⟩ := h
  by_cases c : i ∈ vs
  · rw [wipeL_in c h2] at h3; cases h3
  · rw [wipeL_at c] at h2
    exact ⟨i, l, h2, h3⟩
theorem wipeOk_at {vs : List Nat} {v : Nat} (h : wipeOk e vs = true) (hv : v ∈ vs) : e[v]? = some (.o .un) ∨ ∃ d, e[v]? = some (.o (.dat d)) := by
  unfold wipeOk at h
  have := List.all_eq_true.mp h v hv
  split at this
  · rename_i q; exact .inl q
  · rename_i d q; exact .inr ⟨d, q⟩
  · cases this
/-- wiped at a turn's end -/
theorem Stp.wipe {vs : List Nat} {s0 sw : L2.St} (T : Stp e ls F H s0 e2 ls2 F2 H2 s2) (hr : ∀ v ∈ vs, ∀ t, e[v]? ≠ some (.r t)) (hs : ∀ i, i ∉ vs → sw[i]? = s2[i]?) : Stp e ls F H s0 (wipeE e2 vs) (wipeL ls2 vs) F2 H2 sw :=
  ⟨T.nx, by rw [wipeE_len]; exact T.ln, fun a h => T.ow a (ow_wipe h), fun a h => T.al a (all_wipe h), fun i t h => by
    have c : i ∉ vs := fun z => hr i z t h
    obtain ⟨h1, h2, h3⟩ := T.ro i t h
    rw [wipeE_at c, wipeL_at c, hs i c]
    exact ⟨h1, h2, h3⟩⟩
theorem unwipe_at : ∀ {vs : List Nat} {i : Nat}, i ∉ vs → (unwipe e e2 vs)[i]? = e2[i]?
  | [], _, _ => rfl
  | v :: vs, i, hi => by
    unfold unwipe
    have h1 : i ∉ vs := fun z => hi (List.mem_cons_of_mem _ z)
    split
    · rw [List.getElem?_set_ne (fun z => hi (by subst z; exact List.mem_cons_self))]; exact unwipe_at h1
    · exact unwipe_at h1
theorem unwipe_len : ∀ {vs : List Nat}, (unwipe e e2 vs).length = e2.length
  | [] => rfl
  | v :: vs => by
    unfold unwipe
    split
    · rw [set_len]; exact unwipe_len
    · exact unwipe_len
theorem unwipe_in (hl : e.length = e2.length) : ∀ {vs : List Nat} {i : Nat}, i ∈ vs → (unwipe e e2 vs)[i]? = e[i]?
  | v :: vs, i, hi => by
    unfold unwipe
    by_cases c : i = v
    · subst c
      cases q : e[i]? with
      | none =>
        dsimp only
        have h1 := List.getElem?_eq_none_iff.mp q
        exact List.getElem?_eq_none_iff.mpr (by rw [unwipe_len]; omega)
      | some x =>
        have h1 := (List.getElem?_eq_some_iff.mp q).1
        rw [List.getElem?_set_self (by rw [unwipe_len]; omega)]
    · have h1 : i ∈ vs := (List.mem_cons.mp hi).resolve_left c
      split
      · rw [List.getElem?_set_ne (Ne.symm c)]; exact unwipe_in hl h1
      · exact unwipe_in hl h1
/-- back behind the block -/
theorem Env.unwipe {vs : List Nat} (E1 : Env G F1 H1 s e1 ls1) (E2 : Env G F2 H2 (L2.wipe s vs) e2 ls2) (T : Stp (wipeE e1 vs) (wipeL ls1 vs) F1 H1 (L2.wipe s vs) e2 ls2 F2 H2 (L2.wipe s vs)) (hw : wipeOk e1 vs = true) :
    Env G F2 H2 s (unwipe e1 e2 vs) (wipeL ls2 vs) ∧ Stp e1 ls1 F1 H1 s (R.unwipe e1 e2 vs) (wipeL ls2 vs) F2 H2 s := by
  have hl : e1.length = e2.length := by rw [T.ln, wipeE_len]
  have hs : s.length = e2.length := by rw [← hl]; exact E1.len
  refine ⟨⟨by rw [unwipe_len]; exact hs, by rw [unwipe_len, wipeL_len]; exact E2.lenl, fun i x l q1 q2 => ?_, fun i l q => ?_, fun i j l m a nij q1 q2 ha => ?_, E2.tb⟩, ⟨T.nx.to fun a h => ow_wipe h, by rw [unwipe_len]; exact hl.symm, fun a h => ?_, fun a h => ?_, fun i t h => ?_⟩⟩
  · by_cases c : i ∈ vs
    · have z := wipeL_in c q2
      subst z
      rw [unwipe_in hl c] at q1
      obtain ⟨l0, g1, g2⟩ := E1.at q1
      rcases wipeOk_at hw c with w | ⟨d, w⟩
      · rw [w] at q1; cases q1; exact .inl ⟨rfl, rfl⟩
      · rw [w] at q1; cases q1
        obtain ⟨v, k1, k2⟩ := g2.to (fun z => nomatch z)
        cases k2 with
        | dat k2 => exact .inr ⟨v, k1, .dat (dq_up T.nx.f k2)⟩
    · rw [unwipe_at c] at q1
      rw [wipeL_at c] at q2
      have := E2.ent i x l q1 q2
      rw [wipeS_at c] at this
      exact this
  · by_cases c : i ∈ vs
    · rw [wipeL_in c q]; exact List.nodup_nil
    · rw [wipeL_at c] at q; exact E2.nd i l q
  · by_cases c : i ∈ vs
    · rw [wipeL_in c q1] at ha; cases ha
    · by_cases c2 : j ∈ vs
      · rw [wipeL_in c2 q2]; exact fun z => nomatch z
      · rw [wipeL_at c] at q1; rw [wipeL_at c2] at q2; exact E2.ap i j l m a nij q1 q2 ha
  · obtain ⟨i, t, l, h1, h2, h3⟩ := h
    by_cases c : i ∈ vs
    · rw [wipeL_in c h2] at h3; cases h3
    · rw [unwipe_at c] at h1
      rw [wipeL_at c] at h2
      exact (T.ow a ⟨i, t, l, h1, h2, h3⟩).imp ow_wipe id
  · exact (T.al a (all_wipe h)).imp all_wipe id
  · have c : i ∉ vs := fun z => by
      rcases wipeOk_at hw z with w | ⟨d, w⟩ <;> (rw [w] at h; cases h)
    obtain ⟨h1, h2, h3⟩ := T.ro i t (by rw [wipeE_at c]; exact h)
    rw [unwipe_at c, wipeL_at c]
    refine ⟨h1, rfl, ?_⟩
    rw [h3, wipeL_at c]
theorem lcF_exc {vs : List Nat} {g : Tg} {c : Et} {t : En → Out Tr} {x : Xc} {e2 : En} : ∀ {ds : List PyData} {acc : List Tr} {e : En}, lcF vs g c t ds acc e ≠ .exc x e2
  | [], _, _ => fun z => by cases z
  | d :: ds, acc, e => fun z => by
    unfold lcF at z
    split at z
    · cases z
    · rename_i e1 _
      cases hc : c e1 with
      | no => rw [hc] at z; cases z
      | exc _ _ => rw [hc] at z; cases z
      | ok b e3 =>
        rw [hc] at z
        have z : (if b then ((t e3).noX.bnd fun y e3 => if lenOk acc.length then lcF vs g c t ds (acc ++ [y]) (wipeE e3 vs) else .no) else lcF vs g c t ds acc (wipeE e3 vs)) = .exc x e2 := z
        cases b with
        | false => exact lcF_exc z
        | true =>
          rw [if_pos rfl] at z
          cases ht : t e3 with
          | no => rw [ht] at z; cases z
          | exc _ _ => rw [ht] at z; cases z
          | ok y e4 =>
            rw [ht] at z
            have z : (if lenOk acc.length then lcF vs g c t ds (acc ++ [y]) (wipeE e4 vs) else .no) = .exc x e2 := z
            split at z
            · exact lcF_exc z
            · cases z
/-- where a comprehension stands between two turns -/
structure LcAt (G : Gs) (vs : List Nat) (g : Tg) (c : Et) (t : En → Out Tr) (ds : List PyData) (s : L2.St) (e1 : En) (ls1 : Ls) (F1 H1 : Hp) (D : Addr) (accF : List Tr) (eF : En) (i : Nat) (H' : Hp) (F' : Hp) (e' : En) (ls' : Ls) (acc : List Tr) (xs : List V) : Prop where
  T : Stp (wipeE e1 vs) (wipeL ls1 vs) F1 H1 (L2.wipe s vs) e' ls' F' H' (L2.wipe s vs)
  E : Env G F' H' (L2.wipe s vs) e' ls'
  d1 : F' D = none
  d2 : H' D = some (.lst xs)
  d3 : ¬ All ls' D
  n : ∃ l, TRs G F' H' xs acc l ∧ l.Nodup ∧ (∀ a ∈ l, Ow e1 ls1 a ∨ H1 a = none) ∧ (∀ a ∈ l, ¬ All ls' a) ∧ D ∉ l
  r : lcF vs g c t (ds.drop i) acc e' = .ok accF eF
theorem TRs.snoc : ∀ {ts : List Tr} {vs : List V} {l m : List Addr} {v : V} {t : Tr}, TRs G F H vs ts l → TR G F H v t m → TRs G F H (vs ++ [v]) (ts ++ [t]) (l ++ m)
  | [], _, _, m, _, _, h, g => by
    cases h
    have := TRs.cons g TRs.nil
    rw [List.append_nil] at this
    exact this
  | t :: ts, _, _, _, _, _, h, g => by
    cases h with
    | cons h1 h2 => rw [List.append_assoc]; exact .cons h1 (TRs.snoc h2 g)
theorem wipe_eq {vs : List Nat} {s2 : L2.St} (hl : s2.length = s.length) (h : ∀ i, i ∉ vs → s2[i]? = s[i]?) : L2.wipe s2 vs = L2.wipe s vs := by
  apply List.ext_getElem?
  intro i
  by_cases c : i ∈ vs
  · have key : ∀ (vs : List Nat) (a b : L2.St), a.length = b.length → i ∈ vs → (L2.wipe a vs)[i]? = (L2.wipe b vs)[i]? := fun vs => by
      induction vs with
      | nil => intro a b _ z; cases z
      | cons v vs ih =>
        intro a b hl hi
        unfold L2.wipe
        by_cases c : v = i
        · subst c
          rw [List.getElem?_set_self', List.getElem?_set_self']
          have : (L2.wipe a vs).length = (L2.wipe b vs).length := by rw [wipe_length, wipe_length, hl]
          by_cases q : v < (L2.wipe a vs).length
          · rw [List.getElem?_eq_getElem q, List.getElem?_eq_getElem (by omega)]; rfl
          · rw [List.getElem?_eq_none (by omega), List.getElem?_eq_none (by omega)]
        · rw [List.getElem?_set_ne c, List.getElem?_set_ne c]
          exact ih a b hl ((List.mem_cons.mp hi).resolve_left (Ne.symm c))
    exact key vs s2 s hl c
  · rw [wipeS_at c, wipeS_at c]; exact h i c
theorem wipe_idem {vs : List Nat} : L2.wipe (L2.wipe s vs) vs = L2.wipe s vs := wipe_eq (wipe_length _ _) fun i hi => wipeS_at hi
theorem no_ro_wipe : ∀ {vs : List Nat} {v : Nat} {t : Tr}, v ∈ vs → (wipeE e vs)[v]? ≠ some (.r t)
  | w :: vs, v, t, hv, z => by
    unfold wipeE at z
    rcases set_at z with ⟨_, q⟩ | ⟨c, q⟩
    · cases q
    · exact no_ro_wipe ((List.mem_cons.mp hv).resolve_left c) q
theorem lc_turns {tg : TG} {tt : TT} {te : TE} {vs : List Nat} {g : Tg} {c : Et} {t : En → Out Tr} {J : It} {ds : List PyData} {Gd : Hp → Prop} {Y : Nat → Hp → V → Hp → Prop} {accF : List Tr} {eF : En} {Q : VK} (hg : SndG G tg g) (hgn : ∀ i ∈ g.ns, i ∈ vs) (ht : SndT G W0 tt c) (he : SndTr G W0 te t) (k1 : Ex F1 H1) (E1 : Env G F1 H1 s e1 ls1)
    (w : Walk J ds.length Gd Y) (hgd : ∀ F' H' e' ls', Stp (wipeE e1 vs) (wipeL ls1 vs) F1 H1 (L2.wipe s vs) e' ls' F' H' (L2.wipe s vs) → Env G F' H' (L2.wipe s vs) e' ls' → Gd H') (hy : ∀ i H x H' F d, Ex F1 F → Ex F H → ds[i]? = some d → Y i H x H' → ∃ F', Nx F H F' H' ∧ Dq G F' x d)
    (hw : wipeOk e1 vs = true) (ho : lcF vs g c t ds [] (wipeE e1 vs) = .ok accF eF) (p : ∀ ls2 F2 H2, Stp e1 ls1 F1 H1 s (unwipe e1 eF vs) ls2 F2 H2 s → Env G F2 H2 s (unwipe e1 eF vs) ls2 → ∀ v, NewOk G (Ow e1 ls1) H1 F2 H2 ls2 v (mkLst accF) → Q v H2) :
    tLc (fun _ H R => R J H) tg tt te vs s H1 Q := by
  show ∀ D, H1 D = none → _
  intro D hD
  have D0 : ¬ All ls1 D := fun z => (E1.adr z).2 hD
  refine lc_it w (fun i H' => ∃ F' e' ls' acc xs, LcAt G vs g c t ds s e1 ls1 F1 H1 D accF eF i H' F' e' ls' acc xs) ?_ (fun i H' _ hp => ?_) (fun i x H' H'' hin hp hY => ?_) (fun H' hp => ?_)
  · have n := Nx.mut (o := .lst []) k1 hD
    exact ⟨F1, wipeE e1 vs, wipeL ls1 vs, [], [], ⟨Stp.n0 n, (E1.wipe vs).n0 n, ex_free k1 hD, upd_same, fun z => D0 (all_wipe z), ⟨[], .nil, List.nodup_nil, fun _ z => (nomatch z), fun _ z => (nomatch z), fun z => nomatch z⟩, by rw [List.drop_zero]; exact ho⟩⟩
  · obtain ⟨F', e', ls', acc, xs, L⟩ := hp
    exact hgd F' H' e' ls' L.T L.E
  · obtain ⟨F', e', ls', acc, xs, L⟩ := hp
    have hd : ds[i]? = some ds[i] := List.getElem?_eq_getElem hin
    obtain ⟨F'', n1, dx⟩ := hy i H' x H'' F' ds[i] L.T.nx.f L.T.k hd hY
    have hr := L.r
    rw [List.drop_eq_getElem_cons hin] at hr
    unfold lcF at hr
    cases hb : bindG g ds[i] e' with
    | none => rw [hb] at hr; cases hr
    | some e2 =>
      rw [hb] at hr
      dsimp only at hr
      have Tn := Stp.n0 (e := e') (ls := ls') (s := L2.wipe s vs) n1
      refine hg (L2.wipe s vs) F'' H'' e' ls' x ds[i] e2 n1.k (L.E.n0 n1) dx hb _ fun s2 ls2 T2 E2 sl sn => ?_
      have hws : L2.wipe s2 vs = L2.wipe s vs := by
        rw [← wipe_idem (s := s)]
        exact wipe_eq sl fun i hi => sn i fun z => hi (hgn i z)
      refine ⟨hws, ?_⟩
      have T3 := Tn.trans T2
      have post0 : ∀ {α β : Type} {o : Out α} {k' : α → En → Out β} {b : β} {eb : En} {R : α → En → Ls → Hp → Hp → Prop}, o.noX.bnd k' = .ok b eb → (∀ a ea, k' a ea = .ok b eb → ∀ ls3 F3 H3, Stp e2 ls2 F'' H'' s2 ea ls3 F3 H3 s2 → Env G F3 H3 s2 ea ls3 → R a ea ls3 F3 H3) → Post G W0 s2 e2 ls2 F'' H'' o R := fun {α β o k' b eb R} h1 h2 => by
        cases o with
        | no => cases h1
        | exc _ _ => cases h1
        | ok a ea => exact h2 a ea h1
      refine ht s2 F'' H'' e2 ls2 n1.k E2 _ (post0 hr fun b e3 hr ls3 F3 H3 T4 E3 => ?_)
      have T5 := T3.trans T4
      have Dk : ∀ {ls4 F4 H4 e4}, Stp e' ls' F' H' (L2.wipe s vs) e4 ls4 F4 H4 s2 → F4 D = none ∧ H4 D = some (.lst xs) ∧ ¬ All ls4 D := fun {ls4 F4 H4 e4} T => by
        have nD : ¬ Ow e' ls' D := fun z => L.d3 z.all
        exact ⟨T.nx.ap D _ nD L.d1 L.d2 rfl, T.nx.h D _ nD L.d2 rfl, fun z => (T.al D z).elim L.d3 fun w => by rw [L.d2] at w; cases w⟩
      have nro : ∀ v ∈ vs, ∀ t, (wipeE e1 vs)[v]? ≠ some (.r t) := fun v hv t => no_ro_wipe hv
      have sws : ∀ i, i ∉ vs → (L2.wipe s vs)[i]? = s2[i]? := fun i hi => (sn i fun z => hi (hgn i z)).symm
      cases b with
      | false =>
        show ∃ F' e' ls' acc xs, _
        have hr : lcF vs g c t (ds.drop (i + 1)) acc (wipeE e3 vs) = .ok accF eF := hr
        obtain ⟨k1, k2, k3⟩ := Dk T5
        refine ⟨F3, wipeE e3 vs, wipeL ls3 vs, acc, xs, ⟨(L.T.trans T5).wipe nro sws, hws ▸ E3.wipe vs, k1, k2, fun z => k3 (all_wipe z), ?_, hr⟩⟩
        obtain ⟨l, z1, z2, z3, z4, z5⟩ := L.n
        refine ⟨l, z1.nx T5.nx fun a ha hm => z4 a ha hm.all, z2, z3, fun a ha hm => ?_, z5⟩
        rcases T5.al a (all_wipe hm) with y | y
        · exact z4 a ha y
        · exact (z1.adr a ha).2 y
      | true =>
        show te s2 H3 _
        have hr : ((t e3).noX.bnd fun y e3 => if lenOk acc.length then lcF vs g c t (ds.drop (i + 1)) (acc ++ [y]) (wipeE e3 vs) else .no) = .ok accF eF := hr
        have post1 : ∀ {β : Type} {o : Out Tr} {k' : Tr → En → Out β} {b : β} {eb : En} {R : Tr → En → Ls → Hp → Hp → Prop}, o.noX.bnd k' = .ok b eb → (∀ a ea, k' a ea = .ok b eb → ∀ ls4 F4 H4, Stp e3 ls3 F3 H3 s2 ea ls4 F4 H4 s2 → Env G F4 H4 s2 ea ls4 → R a ea ls4 F4 H4) → Post G W0 s2 e3 ls3 F3 H3 o R := fun {β o k' b eb R} h1 h2 => by
          cases o with
          | no => cases h1
          | exc _ _ => cases h1
          | ok a ea => exact h2 a ea h1
        refine he s2 F3 H3 e3 ls3 T5.k E3 _ (post1 hr fun y e4 hr ls4 F4 H4 T6 E4 v hv => ?_)
        have T7 := T5.trans T6
        obtain ⟨k1, k2, k3⟩ := Dk T7
        split at hr
        · rename_i hl
          obtain ⟨l, z1, z2, z3, z4, z5⟩ := L.n
          have hlen : xs.length = acc.length := z1.len
          have z1' : TRs G F4 H4 xs acc l := z1.nx T7.nx fun a ha hm => z4 a ha hm.all
          have z4' : ∀ a ∈ l, ¬ All ls4 a := fun a ha hm => by
            rcases T7.al a hm with y | y
            · exact z4 a ha y
            · exact (z1.adr a ha).2 y
          obtain ⟨m, y1, y2, y3, y4⟩ := hv
          have Dm : D ∉ m := fun z => by
            obtain ⟨d1, d2, d3⟩ := Dk T5
            rcases y3 D z with q | q
            · exact d3 q.all
            · rw [d2] at q; cases q
          have nn : NxM (· ∈ [D]) F4 H4 F4 (upd H4 D (.lst (xs ++ [v]))) := NxM.wr T7.k (List.mem_singleton.mpr rfl) k1 k2 rfl
          have Tw : Stp e4 ls4 F4 H4 s2 e4 ls4 F4 (upd H4 D (.lst (xs ++ [v]))) s2 ∨ True := .inr trivial
          refine ⟨xs, k2, by rw [hlen]; exact len_lt hl, F4, wipeE e4 vs, wipeL ls4 vs, acc ++ [y], xs ++ [v], ⟨?_, ?_, k1, upd_same, fun z => k3 (all_wipe z), ?_, hr⟩⟩
          · have T8 := (L.T.trans T7).wipe nro sws
            refine ⟨⟨fun a o na ha wt => ?_, T8.nx.f, fun a o ha => ?_, T8.nx.ap, fun a ha => ?_, fun P q hq => ⟨tab_wr (fun u hu => by rw [k2] at hu; cases hu; rfl) (T8.nx.tb P q hq).1, (T8.nx.tb P q hq).2.1, upd_only (T8.nx.tb P q hq).2.2 rfl⟩⟩, T8.ln, T8.ow, T8.al, T8.ro⟩
            · have c1 : a ≠ D := fun z => by subst z; rw [hD] at ha; cases ha
              rw [upd_ne c1]; exact T8.nx.h a o na ha wt
            · have c1 : a ≠ D := fun z => by subst z; rw [k1] at ha; cases ha
              rw [upd_ne c1]; exact T7.k a o ha
            · have c1 : a ≠ D := fun z => by subst z; exact ha hD
              rw [upd_ne c1]; exact T8.nx.th a ha
          · have E5 := E4.nx nn fun a ha hm => by rw [List.mem_singleton.mp hm] at ha; exact k3 ha
            exact hws ▸ E5.wipe vs
          · refine ⟨l ++ m, TRs.snoc (z1'.nx nn fun a ha hm => by rw [List.mem_singleton.mp hm] at ha; exact z5 ha) (y1.nx nn fun a ha hm => by rw [List.mem_singleton.mp hm] at ha; exact Dm ha), nodup_app z2 y2 fun a ha hb => ?_, fun a ha => ?_, fun a ha hm => ?_, fun z => ?_⟩
            · have z1s : TRs G F3 H3 xs acc l := z1.nx T5.nx fun a ha hm => z4 a ha hm.all
              rcases y3 a hb with q | q
              · rcases T5.al a q.all with y | y
                · exact z4 a ha y
                · exact (z1.adr a ha).2 y
              · exact (z1s.adr a ha).2 q
            · rcases List.mem_append.mp ha with q | q
              · exact z3 a q
              · rcases y3 a q with r | r
                · rcases (L.T.trans T5).ow a r with r | r
                  · exact .inl (ow_wipe r)
                  · exact .inr r
                · exact .inr (th_none (L.T.trans T5).nx r)
            · rcases List.mem_append.mp ha with q | q
              · exact z4' a q (all_wipe hm)
              · exact y4 a q (all_wipe hm)
            · rcases List.mem_append.mp z with q | q
              · exact z5 q
              · exact Dm q
        · cases hr
  · obtain ⟨F', e', ls', acc, xs, L⟩ := hp
    have hr := L.r
    rw [List.drop_length] at hr
    cases hr
    obtain ⟨E2, T2⟩ := E1.unwipe L.E L.T hw
    obtain ⟨l, z1, z2, z3, z4, z5⟩ := L.n
    refine p _ F' H' T2 E2 _ ?_
    have hO : ∀ a, Ow e1 ls1 a ∨ H1 a = none → Ow e1 ls1 a ∨ H1 a = none := fun a h => h
    have fD : H1 D = none := hD
    unfold mkLst
    cases gd : datsOf accF with
    | some dds => exact ⟨[D], .own L.d1 L.d2 (datsOf_ok z1 gd), by simp, fun a ha => .inr (by rw [List.mem_singleton.mp ha]; exact fD), fun a ha hm => by rw [List.mem_singleton.mp ha] at hm; exact L.d3 (all_wipe hm)⟩
    | none =>
      refine ⟨D :: l, .lst L.d1 L.d2 z1, List.nodup_cons.mpr ⟨z5, z2⟩, fun a ha => ?_, fun a ha hm => ?_⟩
      · rcases List.mem_cons.mp ha with rfl | q
        · exact .inr fD
        · exact hO a (z3 a q)
      · rcases List.mem_cons.mp ha with rfl | q
        · exact L.d3 (all_wipe hm)
        · exact z4 a q (all_wipe hm)
theorem snd_lc {wi : TI} {tg : TG} {tt : TT} {te : TE} {vs : List Nat} {g : Tg} {it : Ei} {c : Et} {t : En → Out Tr} (hi : SndI G W wi it) (hg : SndG G tg g) (hgn : ∀ i ∈ g.ns, i ∈ vs) (ht : SndT G W0 tt c) (he : SndTr G W0 te t) : SndV G W (tLc wi tg tt te vs) (lcV vs g it c t mkLst) := fun s F H e ls k E Q q => by
  refine hi s F H e ls k E _ (Post.mono q.bnd0 fun ds e1 ls1 F1 H1 _ T1 E1 p J hJ => ?_)
  split at p
  · rename_i hw
    cases ho : lcF vs g c t ds [] (wipeE e1 vs) with
    | no => rw [ho] at p; exact p.elim
    | exc x e2 => exact absurd ho lcF_exc
    | ok accF eF =>
      rw [ho] at p
      have p : ∀ ls2 F2 H2, Stp e ls F H s (unwipe e1 eF vs) ls2 F2 H2 s → Env G F2 H2 s (unwipe e1 eF vs) ls2 → ∀ v, NewOk G (Ow e ls) H F2 H2 ls2 v (mkLst accF) → Q v H2 := p
      obtain ⟨Gd, Y, w, hgd, hy⟩ := hJ
      exact lc_turns hg hgn ht he T1.k E1 w (fun F' H' e' ls' T _ => hgd H' (T.nx.f.trans T.k)) hy hw ho fun ls2 F2 H2 T2 E2 v hv => p ls2 F2 H2 (T1.trans T2) E2 v (NewOk.back T1 hv)
  · exact p.elim
end R

/-! Statements. -/
namespace R
open PySem PySem.Spec PyProof.Rows L2
open Evl (Ex)
variable {G : Gs} {W : WX} {F H F1 H1 F2 H2 F3 H3 H0 : Hp} {M O : Addr → Prop} {s s1 s2 s3 : L2.St} {e e1 e2 e3 : En} {ls ls1 ls2 ls3 : Ls}
inductive So where
  | nx (e : En)
  | rt (t : Tr) (e : En)
  | bk (e : En)
  | ct (e : En)
  | exc (x : Xc) (e : En)
  | no
abbrev Es := En → So
def So.thn : So → Es → So
  | .nx e, f => f e
  | r, _ => r
def Out.so {α : Type} : Out α → (α → En → So) → So
  | .ok a e, f => f a e
  | .exc x e, _ => .exc x e
  | .no, _ => .no
def seqS (a b : Es) (e : En) : So := (a e).thn b
def skipS (e : En) : So := .nx e
def brkS (e : En) : So := .bk e
def cntS (e : En) : So := .ct e
def asgS (i : Nat) (f : Ev) (e : En) : So := (asT f e).so fun t e1 => match setN i t e1 with
  | some e2 => .nx e2
  | none => .no
/-- a tuple of trees to names -/
def bindT : Tgs → List Tr → En → Option En
  | .nil, [], e => some e
  | .cons (.name i) gs, t :: ts, e => match setN i t e with
    | some e1 => bindT gs ts e1
    | none => none
  | _, _, _ => none
def asgG (g : Tg) (f : Ev) (e : En) : So := (asT f e).so fun t e1 => match t with
  | .dat d => match bindG g d e1 with
    | some e2 => .nx e2
    | none => .no
  | .tup ts => match g with
    | .tup gs => match bindT gs ts e1 with
      | some e2 => .nx e2
      | none => .no
    | _ => .no
  | .lst ts => match g with
    | .tup gs => match bindT gs ts e1 with
      | some e2 => .nx e2
      | none => .no
    | _ => .no
  | _ => .no
/-- a, b = x, y -/
def parS (i j : Nat) (f g : Ev) (e : En) : So := (argsT [f, g] e).so fun ts e1 => match ts with
  | [t, u] => match setN i t e1 with
    | some e2 => match setN j u e2 with
      | some e3 => .nx e3
      | none => .no
    | none => .no
  | _ => .no
def setAt : Tr → Int → Tr → Option Tr
  | .own ds, j, .dat d => match ixN ds.length j with
    | some k => some (.own (ds.set k d))
    | none => none
  | .own ds, j, t => match ixN ds.length j with
    | some k => some (.lst ((ds.map .dat).set k t))
    | none => none
  | .lst ts, j, t => match ixN ts.length j with
    | some k => some (.lst (ts.set k t))
    | none => none
  | _, _, _ => none
/-- o[i] = x -/
def stoS (o i f : Ev) (e : En) : So := (asT f e).so fun t e1 => (twoF o i e1).so fun p e2 => match rdS e2 p.2 with
  | some (.int j) => match p.1 with
    | .pl k pa => match getPl e2 k pa with
      | some t0 => if isO e2 k then (match setAt t0 j t with
        | some t1 => .nx (putPl e2 k pa t1)
        | none => .no) else .no
      | none => .no
    | _ => .no
  | _ => .no
def exprS (f : Ev) (e : En) : So := (f e).so fun _ e1 => .nx e1
/-- a thing of a slot that is not a parameter's is moved out -/
def mvV (ms : List Nat) (f : Ev) (e : En) : Out Rs := (f e).bnd fun r e1 => match r with
  | .pl i p => if ms.contains i then .ok (.pl i p) e1 else match getPl e1 i p with
    | some .un => .no
    | some t => if isO e1 i then .ok (.new t) (putPl e1 i p .un) else .no
    | none => .no
  | r => .ok r e1
def retS (f : Ev) (e : En) : So := (asT f e).so fun t e1 => .rt t e1
def retN (e : En) : So := .rt (.dat .none) e
def ifS (t : Et) (a b : Es) (e : En) : So := (t e).so fun c e1 => if c then a e1 else b e1
def forF (g : Tg) (body : Es) : List PyData → Es
  | [], e => .nx e
  | d :: ds, e => match bindG g d e with
    | none => .no
    | some e1 => match body e1 with
      | .nx e2 => forF g body ds e2
      | .ct e2 => forF g body ds e2
      | .bk e2 => .nx e2
      | r => r
def forS (g : Tg) (it : Ei) (body : Es) (e : En) : So := (it e).so fun ds e1 => forF g body ds e1
def augS (i : Nat) (o : PyData → PyData → Option Rz) (f : Ev) (e : En) : So := (op2 o (varV i) f e).so fun r e1 => match r with
  | .dat d => match setN i (.dat d) e1 with
    | some e2 => .nx e2
    | none => .no
  | _ => .no
def raiseS (c : Str) (e : En) : So := .exc ⟨c, []⟩ e
/-! ### what is wanted behind a statement -/
def Kp (ms : List Nat) (s s2 : L2.St) : Prop := ∀ k ∈ ms, s2[k]? = s[k]?
theorem Kp.refl {ms : List Nat} : Kp ms s s := fun _ _ => rfl
theorem Kp.trans {ms : List Nat} (a : Kp ms s s2) (b : Kp ms s2 s3) : Kp ms s s3 := fun k h => (b k h).trans (a k h)
def SPost (G : Gs) (W : WX) (ms : List Nat) (s : L2.St) (e : En) (ls : Ls) (F H : Hp) (o : So) (D : Ends) : Prop := match o with
  | .nx e2 => ∀ s2 ls2 F2 H2, Stp e ls F H s e2 ls2 F2 H2 s2 → Env G F2 H2 s2 e2 ls2 → Kp ms s s2 → D.nx s2 H2
  | .bk e2 => ∀ s2 ls2 F2 H2, Stp e ls F H s e2 ls2 F2 H2 s2 → Env G F2 H2 s2 e2 ls2 → Kp ms s s2 → D.bk s2 H2
  | .ct e2 => ∀ s2 ls2 F2 H2, Stp e ls F H s e2 ls2 F2 H2 s2 → Env G F2 H2 s2 e2 ls2 → Kp ms s s2 → D.ct s2 H2
  | .rt t e2 => ∀ v s2 ls2 F2 H2, Stp e ls F H s e2 ls2 F2 H2 s2 → Env G F2 H2 s2 e2 ls2 → Kp ms s s2 → NewOk G (Ow e ls) H F2 H2 ls2 v t → D.rt v H2
  | .exc x e2 => ∀ s2 ls2 F2 H2 c d, Stp e ls F H s e2 ls2 F2 H2 s2 → Env G F2 H2 s2 e2 ls2 → Kp ms s s2 → XR G F2 H2 ls2 x c d → (∀ a, d = some a → H a = none) → W c d s2 H2
  | .no => False
def SndS (G : Gs) (W : WX) (ms : List Nat) (ts : TS) (f : Es) : Prop := ∀ s F H e ls D, Ex F H → Env G F H s e ls → SPost G W ms s e ls F H (f e) D → ts D s H
variable {ms : List Nat} {D D' : Ends}
theorem NewOk.back' {v : V} {t : Tr} (T : Stp e ls F H s e1 ls1 F1 H1 s1) (h : NewOk G (Ow e1 ls1) H1 F2 H2 ls2 v t) : NewOk G (Ow e ls) H F2 H2 ls2 v t := by
  obtain ⟨l, h1, h2, h3, h4⟩ := h
  exact ⟨l, h1, h2, fun a ha => (h3 a ha).elim (T.ow a) fun z => .inr (th_none T.nx z), h4⟩
/-- from a later point -/
theorem SPost.from {o : So} (h : SPost G W ms s e ls F H o D) (T : Stp e ls F H s e1 ls1 F1 H1 s1) (kp : Kp ms s s1) : SPost G W ms s1 e1 ls1 F1 H1 o D := by
  cases o with
  | nx e2 => exact fun s2 ls2 F2 H2 t E k => h s2 ls2 F2 H2 (T.trans t) E (kp.trans k)
  | bk e2 => exact fun s2 ls2 F2 H2 t E k => h s2 ls2 F2 H2 (T.trans t) E (kp.trans k)
  | ct e2 => exact fun s2 ls2 F2 H2 t E k => h s2 ls2 F2 H2 (T.trans t) E (kp.trans k)
  | rt t e2 => exact fun v s2 ls2 F2 H2 t E k n => h v s2 ls2 F2 H2 (T.trans t) E (kp.trans k) (n.back' T)
  | exc x e2 => exact fun s2 ls2 F2 H2 c d t E k x n => h s2 ls2 F2 H2 c d (T.trans t) E (kp.trans k) x fun a ha => th_none T.nx (n a ha)
  | no => exact h
theorem SPost.ends {o : So} (h : SPost G W ms s e ls F H o D) (h1 : ∀ s H, D.nx s H → D'.nx s H) (h2 : ∀ v H, D.rt v H → D'.rt v H) (h3 : ∀ s H, D.bk s H → D'.bk s H) (h4 : ∀ s H, D.ct s H → D'.ct s H) : SPost G W ms s e ls F H o D' := by
  cases o with
  | nx e2 => exact fun s2 ls2 F2 H2 t E k => h1 _ _ (h s2 ls2 F2 H2 t E k)
  | bk e2 => exact fun s2 ls2 F2 H2 t E k => h3 _ _ (h s2 ls2 F2 H2 t E k)
  | ct e2 => exact fun s2 ls2 F2 H2 t E k => h4 _ _ (h s2 ls2 F2 H2 t E k)
  | rt t e2 => exact fun v s2 ls2 F2 H2 t E k n => h2 _ _ (h v s2 ls2 F2 H2 t E k n)
  | exc x e2 => exact h
  | no => exact h
/-- behind an expression -/
theorem Post.so {α : Type} {o : Out α} {f : α → En → So} (h : SPost G W ms s e ls F H (o.so f) D) : Post G W s e ls F H o fun a e1 ls1 F1 H1 => SPost G W ms s e1 ls1 F1 H1 (f a e1) D := by
  cases o with
  | no => exact h
  | exc x e2 => exact fun ls2 F2 H2 c d T E hx hn => h s ls2 F2 H2 c d T E Kp.refl hx hn
  | ok a e1 => exact fun ls1 F1 H1 T E => SPost.from h T Kp.refl
/-- .. seen from the start -/
theorem Post.so0 {α : Type} {o : Out α} {f : α → En → So} (h : SPost G W ms s e ls F H (o.so f) D) : Post G W s e ls F H o fun a e1 ls1 F1 H1 => SPost G W ms s e ls F H (f a e1) D := by
  cases o with
  | no => exact h
  | exc x e2 => exact fun ls2 F2 H2 c d T E hx hn => h s ls2 F2 H2 c d T E Kp.refl hx hn
  | ok a e1 => exact fun ls1 F1 H1 T E => h
theorem snd_seqS {t u : TS} {f g : Es} (h1 : SndS G W ms t f) (h2 : SndS G W ms u g) : SndS G W ms (tSeq t u) (seqS f g) := fun s F H e ls D k E q => by
  refine h1 s F H e ls _ k E ?_
  have q : SPost G W ms s e ls F H ((f e).thn g) D := q
  cases hf : f e with
  | nx e2 => rw [hf] at q; exact fun s2 ls2 F2 H2 T E2 kp => h2 s2 F2 H2 e2 ls2 D T.k E2 (SPost.from q T kp)
  | bk e2 => rw [hf] at q; exact q
  | ct e2 => rw [hf] at q; exact q
  | rt t e2 => rw [hf] at q; exact q
  | exc x e2 => rw [hf] at q; exact q
  | no => rw [hf] at q; exact q
theorem snd_skip : SndS G W ms tNext skipS := fun s F H e ls D k E q => q s ls F H (Stp.refl k) E Kp.refl
theorem kp_set {i : Nat} {o : Option V} (hi : ms.contains i = false) : Kp ms s (s.set i o) := fun k hk => by
  have : i ≠ k := fun z => by subst z; rw [List.contains_iff_mem.mpr hk] at hi; cases hi
  rw [List.getElem?_set_ne this]
theorem snd_asg {te : TE} {i : Nat} {f : Ev} (h : SndV G W te f) (hi : ms.contains i = false) : SndS G W ms (tAsg te (gName i)) (asgS i f) := fun s F H e ls D k E q => by
  refine h.tr s F H e ls k E _ (Post.mono (Post.so0 q) fun t e1 ls1 F1 H1 _ T1 E1 p v hv => ?_)
  cases g : setN i t e1 with
  | none => rw [g] at p; exact p.elim
  | some e2 =>
    rw [g] at p
    obtain ⟨ls2, T2, E2⟩ := set_ok T1.k E1 hv (fun a h => h) T1 g
    exact p _ ls2 F1 H1 T2 E2 (kp_set hi)
theorem kp_ns {ns : List Nat} (hl : ∀ i ∈ ns, ms.contains i = false) (h : ∀ i, i ∉ ns → s2[i]? = s[i]?) : Kp ms s s2 := fun k hk => h k fun z => by
  have := hl k z
  rw [List.contains_iff_mem.mpr hk] at this
  cases this
def gNames : Tgs → TGs
  | .nil => gNil
  | .cons (.name i) gs => gCons (gName i) (gNames gs)
  | .cons (.tup _) _ => gNil
theorem bindT_snd : ∀ {gs : Tgs} {ts : List Tr} {vs : List V} {e0 e1 e2 : En} {ls0 ls1 : Ls} {F0 H0 F H : Hp} {s0 s : L2.St} {Q : L2.St → Hp → Prop}, Stp e0 ls0 F0 H0 s0 e1 ls1 F H s → Env G F H s e1 ls1 → NewsOk G (Ow e0 ls0) H0 F H ls1 vs ts → bindT gs ts e1 = some e2 →
    (∀ s2 ls2, Stp e0 ls0 F0 H0 s0 e2 ls2 F H s2 → Env G F H s2 e2 ls2 → s2.length = s.length → (∀ i, i ∉ gs.ns → s2[i]? = s[i]?) → Q s2 H) → gNames gs vs s H Q
  | .nil, ts, vs, e0, e1, e2, ls0, ls1, F0, H0, F, H, s0, s, Q, T, E, hn, q, hq => by
    cases ts with
    | nil =>
      cases q
      obtain ⟨l, h1, _⟩ := hn
      cases h1
      exact ⟨rfl, hq s ls1 T E rfl fun _ _ => rfl⟩
    | cons t ts => cases q
  | .cons (.tup _) gs, ts, vs, e0, e1, e2, ls0, ls1, F0, H0, F, H, s0, s, Q, T, E, hn, q, hq => by
    cases ts <;> cases q
  | .cons (.name i) gs, ts, vs, e0, e1, e2, ls0, ls1, F0, H0, F, H, s0, s, Q, T, E, hn, q, hq => by
    cases ts with
    | nil => cases q
    | cons t ts =>
      simp only [bindT] at q
      cases g : setN i t e1 with
      | none => rw [g] at q; cases q
      | some e3 =>
        rw [g] at q
        obtain ⟨l, h1, h2, h3, h4⟩ := hn
        cases h1 with
        | cons w1 w2 =>
          rename_i v vs l m
          obtain ⟨t0, g1, rfl⟩ := setN_some g
          have hi : i < e1.length := (List.getElem?_eq_some_iff.mp g1).1
          have T2 := T.set (v := v) (t := t) (l := l) (fun y z => by rw [g1] at z; cases z) fun a ha => h3 a (List.mem_append_left _ ha)
          have E2 := E.set (v := v) hi w1 (nodup_l h2) fun a ha j m hj hm ham => h4 a (List.mem_append_left _ ha) ⟨j, m, hm, ham⟩
          refine ⟨v, vs, rfl, ?_⟩
          show gNames gs vs (s.set i (some v)) H Q
          refine bindT_snd T2 E2 ⟨m, w2, nodup_r h2, fun a ha => h3 a (List.mem_append_right _ ha), fun a ha hm => ?_⟩ q fun s2 ls2 T3 E3 l3 n3 => hq s2 ls2 T3 E3 (by rw [l3, List.length_set]) fun j hj => ?_
          · rcases all_set hm with z | z
            · exact nodup_x h2 a z ha
            · exact h4 a (List.mem_append_right _ ha) z
          · have hj' : j ≠ i ∧ j ∉ gs.ns := by
              simp only [Tgs.ns, Tg.ns, List.mem_append, List.mem_singleton, not_or] at hj
              exact hj
            rw [n3 j hj'.2, List.getElem?_set_ne (Ne.symm hj'.1)]
/-- the target is a tuple of names -/
def namesOnly : Tgs → Bool
  | .nil => true
  | .cons (.name _) gs => namesOnly gs
  | .cons (.tup _) _ => false
theorem snd_par {ta : TA} {i j : Nat} {f g : Ev} (h : SndAT G W ta (argsT [f, g])) (hi : ms.contains i = false) (hj : ms.contains j = false) : SndS G W ms (tPar i j ta) (parS i j f g) := fun s F H e ls D k E q => by
  refine h s F H e ls k E _ (Post.mono (Post.so0 q) fun ts e1 ls1 F1 H1 _ T1 E1 p vs hvs => ?_)
  match ts, p with
  | [], p => exact p.elim
  | [_], p => exact p.elim
  | _ :: _ :: _ :: _, p => exact p.elim
  | [t, u], p =>
    dsimp only at p
    cases g1 : setN i t e1 with
    | none => rw [g1] at p; exact p.elim
    | some e2 =>
      rw [g1] at p
      dsimp only at p
      cases g2 : setN j u e2 with
      | none => rw [g2] at p; exact p.elim
      | some e3 =>
        rw [g2] at p
        have gb : bindT (.cons (.name i) (.cons (.name j) .nil)) [t, u] e1 = some e3 := by simp only [bindT, g1, g2]
        have hl := hvs
        obtain ⟨l, w1, _⟩ := hl
        have b := bindT_snd (Q := fun s2 H2 => ∃ v w, vs = [v, w] ∧ D.nx ((s.set i (some v)).set j (some w)) H2) T1 E1 hvs gb
        match vs, w1.len with
        | [v, w], _ =>
          have b2 := bindT_snd (gs := .cons (.name i) (.cons (.name j) .nil)) (Q := fun s2 H2 => s2 = (s.set i (some v)).set j (some w) → D.nx s2 H2) T1 E1 hvs gb fun s2 ls2 T2 E2 _ sn _ => p s2 ls2 F1 H1 T2 E2 (kp_ns (ns := (Tgs.cons (.name i) (.cons (.name j) .nil)).ns) (fun x hx => by
            simp only [Tgs.ns, Tg.ns, List.mem_append, List.mem_singleton] at hx
            rcases hx with rfl | rfl | z
            · exact hi
            · exact hj
            · cases z) sn)
          obtain ⟨_, _, z1, _, _, z2, _, z3⟩ := b2
          cases z1; cases z2
          exact ⟨v, w, rfl, z3 rfl⟩
theorem snd_exprS {te : TE} {f : Ev} (h : SndV G W te f) : SndS G W ms (tDrop te) (exprS f) := fun s F H e ls D k E q =>
  h s F H e ls k E _ (Post.mono (Post.so0 q) fun r e1 ls1 F1 H1 _ T1 E1 p v hv => p s ls1 F1 H1 T1 E1 Kp.refl)
theorem snd_mv {te : TE} {f : Ev} (h : SndV G W te f) : SndV G W te (mvV ms f) := fun s F H e ls k E Q q => by
  refine h s F H e ls k E _ (Post.mono q.bnd0 fun r e1 ls1 F1 H1 _ T1 E1 p v hv => ?_)
  cases r with
  | dat d => exact p ls1 F1 H1 T1 E1 v hv
  | new t => exact p ls1 F1 H1 T1 E1 v hv
  | pl i pa =>
    dsimp only at p
    split at p
    · exact p ls1 F1 H1 T1 E1 v hv
    · cases g : getPl e1 i pa with
      | none => rw [g] at p; exact p.elim
      | some t =>
        rw [g] at p
        have fin : t ≠ .un → Post G W s e ls F H (if isO e1 i then .ok (.new t) (putPl e1 i pa .un) else .no) (fun r e2 ls2 F2 H2 => ∀ v, ResOk G (Ow e ls) H F2 H2 s e2 ls2 v r → Q v H2) → Q v H1 := fun hn p => by
          split at p
          · rename_i ho
            obtain ⟨l1, w1, w2, w3, w4⟩ := E1.lens T1.k g hn ho hv.1
            obtain ⟨ls2, T2, E2, ap⟩ := w4 F1 H1 .un [] (NxM.refl T1.k) (.un _) List.nodup_nil (fun _ z => nomatch z)
            refine p ls2 F1 H1 (T1.trans T2) E2 v ⟨l1, w1, w2, fun a ha => T1.ow a (w3 a ha), fun a ha hm => ?_⟩
            exact nomatch ap a ha hm
          · exact p.elim
        cases t with
        | un => exact p.elim
        | _ => exact fin (fun z => nomatch z) p
end R

/-! Stores, returns, branches, loops. -/
namespace R
open PySem PySem.Spec PyProof.Rows L2
open Evl (Ex)
variable {G : Gs} {W : WX} {F H F1 H1 F2 H2 F3 H3 H0 : Hp} {M O : Addr → Prop} {s s1 s2 s3 : L2.St} {e e1 e2 e3 : En} {ls ls1 ls2 ls3 : Ls} {ms : List Nat} {D D' : Ends}
theorem TRs.ofDats : ∀ {xs : List V} {ds : List PyData}, DqAll G F xs ds → TRs G F H xs (ds.map .dat) []
  | _, _, .nil => .nil
  | _, _, .cons h1 h2 => by
    have := TRs.cons (l := []) (m := []) (H := H) (TR.dat h1) (TRs.ofDats h2)
    exact this
theorem TRs.setAt : ∀ {xs : List V} {ts : List Tr} {l : List Addr} {k : Nat} {v : V} {t : Tr} {m : List Addr}, TRs G F H xs ts l → l.Nodup → TR G F H v t m → m.Nodup → (∀ a ∈ m, a ∉ l) → k < ts.length → ∃ l', TRs G F H (xs.set k v) (ts.set k t) l' ∧ l'.Nodup ∧ ∀ a ∈ l', a ∈ l ∨ a ∈ m
  | _, _, _, _, _, _, _, .nil, _, _, _, _, hk => absurd hk (Nat.not_lt_zero _)
  | _, _, _, 0, v, t, m, .cons (l := l1) (m := l2) h1 h2, nd, ht, nm, ap, hk => ⟨m ++ l2, .cons ht h2, nodup_app nm (nodup_r nd) fun a ha hb => ap a ha (List.mem_append_right _ hb), fun a ha => (List.mem_append.mp ha).elim .inr fun z => .inl (List.mem_append_right _ z)⟩
  | _, _, _, k + 1, v, t, m, .cons (l := l1) (m := l2) h1 h2, nd, ht, nm, ap, hk => by
    obtain ⟨l', g1, g2, g3⟩ := TRs.setAt (k := k) h2 (nodup_r nd) ht nm (fun a ha hb => ap a ha (List.mem_append_right _ hb)) (by simpa using hk)
    refine ⟨l1 ++ l', .cons h1 g1, nodup_app (nodup_l nd) g2 fun a ha hb => ?_, fun a ha => ?_⟩
    · rcases g3 a hb with z | z
      · exact nodup_x nd a ha z
      · exact ap a z (List.mem_append_left _ ha)
    · rcases List.mem_append.mp ha with z | z
      · exact .inl (List.mem_append_left _ z)
      · exact (g3 a z).imp (List.mem_append_right _) id
/-- a store into an owned list -/
theorem setAt_ok {t0 t t1 : Tr} {j : Int} {v u : V} {l m : List Addr} (k : Ex F H) (h0 : TR G F H u t0 l) (nd : l.Nodup) (ht : TR G F H v t m) (nm : m.Nodup) (ap : ∀ a ∈ m, a ∉ l) (q : setAt t0 j t = some t1) :
    ∃ p xs i, u = .ref p ∧ H p = some (.lst xs) ∧ ixN xs.length j = some i ∧ p ∈ l ∧ ∃ l', NxM (· ∈ l) F H F (upd H p (.lst (xs.set i v))) ∧ TR G F (upd H p (.lst (xs.set i v))) u t1 l' ∧ l'.Nodup ∧ ∀ a ∈ l', a ∈ l ∨ a ∈ m := by
  have lst : ∀ {p xs ts l2 kk}, t1 = .lst (ts.set kk t) → u = .ref p → F p = none → H p = some (.lst xs) → TRs G F H xs ts l2 → (p :: l2).Nodup → (∀ a ∈ p :: l2, a ∈ l) → ixN ts.length j = some kk → kk < ts.length → ∃ p xs i, u = .ref p ∧ H p = some (.lst xs) ∧ ixN xs.length j = some i ∧ p ∈ l ∧ ∃ l', NxM (· ∈ l) F H F (upd H p (.lst (xs.set i v))) ∧ TR G F (upd H p (.lst (xs.set i v))) u t1 l' ∧ l'.Nodup ∧ ∀ a ∈ l', a ∈ l ∨ a ∈ m := fun {p xs ts l2 kk} e1 e2 w0 w1 w2 w3 w4 w5 w6 => by
    subst e1 e2
    have np := List.nodup_cons.mp w3
    have hp := w4 p List.mem_cons_self
    have nn : NxM (· ∈ [p]) F H F (upd H p (.lst (xs.set kk v))) := NxM.wr k (List.mem_singleton.mpr rfl) w0 w1 rfl
    obtain ⟨l', g1, g2, g3⟩ := TRs.setAt (w2.nx nn fun a ha hb => by rw [List.mem_singleton.mp hb] at ha; exact np.1 ha) np.2 (ht.nx nn fun a ha hb => by rw [List.mem_singleton.mp hb] at ha; exact ap p ha hp) nm (fun a ha hb => ap a ha (w4 a (List.mem_cons_of_mem _ hb))) w6
    refine ⟨p, xs, kk, rfl, w1, by rw [w2.len]; exact w5, hp, p :: l', nn.to fun a ha => by rw [List.mem_singleton.mp ha]; exact hp, .lst w0 upd_same g1, List.nodup_cons.mpr ⟨fun z => ?_, g2⟩, fun a ha => ?_⟩
    · rcases g3 p z with y | y
      · exact np.1 y
      · exact ap p y hp
    · rcases List.mem_cons.mp ha with rfl | z
      · exact .inl hp
      · exact (g3 a z).imp (fun y => w4 a (List.mem_cons_of_mem _ y)) id
  have ixlt : ∀ {n : Nat} {i : Nat}, ixN n j = some i → i < n := fun {n i} h => by
    unfold ixN at h
    split at h
    · split at h
      · cases h; omega
      · cases h
    · split at h
      · cases h; omega
      · cases h
  cases h0 with
  | own w0 w1 w2 =>
    rename_i p xs ds
    have so : (∃ i, ixN ds.length j = some i ∧ t1 = .lst ((ds.map .dat).set i t)) → ∃ p' xs i, V.ref p = .ref p' ∧ H p' = some (.lst xs) ∧ ixN xs.length j = some i ∧ p' ∈ [p] ∧ ∃ l', NxM (· ∈ [p]) F H F (upd H p' (.lst (xs.set i v))) ∧ TR G F (upd H p' (.lst (xs.set i v))) (.ref p) t1 l' ∧ l'.Nodup ∧ ∀ a ∈ l', a ∈ [p] ∨ a ∈ m := fun ⟨i, g, e1⟩ =>
      lst (kk := i) (l2 := []) e1 rfl w0 w1 (TRs.ofDats w2) (by simp) (fun a ha => by simpa using ha) (by rw [List.length_map]; exact g) (by rw [List.length_map]; exact ixlt g)
    cases g : ixN ds.length j with
    | none => cases t <;> (simp only [setAt, g] at q; cases q)
    | some i =>
      cases t with
      | dat d =>
        simp only [setAt, g] at q
        cases q
        cases ht with
        | dat hd =>
          have nn : NxM (· ∈ [p]) F H F (upd H p (.lst (xs.set i v))) := NxM.wr k (List.mem_singleton.mpr rfl) w0 w1 rfl
          exact ⟨p, xs, i, rfl, w1, by rw [dqa_len w2]; exact g, List.mem_singleton.mpr rfl, [p], nn, .own w0 upd_same (dqa_set hd i w2), by simp, fun a ha => .inl ha⟩
      | _ =>
        simp only [setAt, g] at q
        cases q
        exact so ⟨i, g, rfl⟩
  | lst w0 w1 w2 =>
    rename_i p xs ts l2
    simp only [setAt] at q
    cases g : ixN ts.length j with
    | none => rw [g] at q; cases q
    | some i =>
      rw [g] at q
      exact lst (kk := i) (by cases q; rfl) rfl w0 w1 w2 nd (fun a ha => ha) g (ixlt g)
  | _ => cases q
/-- an expression from a mid point, the rest seen from the start -/
theorem so_mid {α : Type} {o : Out α} {f : α → En → So} (T : Stp e ls F H s e1 ls1 F1 H1 s) (h : SPost G W ms s e ls F H (o.so f) D) : Post G W s e1 ls1 F1 H1 o fun a e2 ls2 F2 H2 => SPost G W ms s e ls F H (f a e2) D := by
  cases o with
  | no => exact h
  | exc x e2 => exact fun ls2 F2 H2 c d T2 E hx hn => h s ls2 F2 H2 c d (T.trans T2) E Kp.refl hx fun a ha => th_none T.nx (hn a ha)
  | ok a e2 => exact fun ls2 F2 H2 _ _ => h
/-- o[i] = x -/
theorem snd_sto {te to ti : TE} {f o i : Ev} (h : SndV G W te f) (ho : SndV G W to o) (hi : SndV G W ti i) : SndS G W ms (tAsg te (gSub to ti rSetL)) (stoS o i f) := fun s F H e ls D k E q => by
  refine h.tr s F H e ls k E _ (Post.mono (Post.so0 q) fun t e1 ls1 F1 H1 _ T1 E1 p v hv => ?_)
  refine snd_two ho hi T1.k E1 (R := fun x y H2 => rSetL x y v H2 fun H3 => D.nx s H3) (Post.mono (so_mid T1 p) fun pr e2 ls2 F2 H2 _ T2 E2 p2 x y hx hy => ?_)
  cases g : rdS e2 pr.2 with
  | none => rw [g] at p2; exact p2.elim
  | some d =>
    rw [g] at p2
    cases d with
    | int j =>
      have hj := rdS_ok E2 T2.k hy g
      cases hj
      obtain ⟨r1, r2⟩ := pr
      cases r1 with
      | dat _ => exact p2.elim
      | new _ => exact p2.elim
      | pl n pa =>
        dsimp only at p2
        cases g2 : getPl e2 n pa with
        | none => rw [g2] at p2; exact p2.elim
        | some t0 =>
          rw [g2] at p2
          dsimp only at p2
          split at p2
          · rename_i hO
            cases g3 : setAt t0 j t with
            | none => rw [g3] at p2; exact p2.elim
            | some t1 =>
              rw [g3] at p2
              have hn : t0 ≠ .un := fun z => by subst z; cases g3
              obtain ⟨l1, w1, w2, w3, w4⟩ := E2.lensT (T1.trans T2) g2 hn hO hx.1
              obtain ⟨m, y1, y2, y3, y4⟩ := NewOk.stp hv T2
              obtain ⟨a, xs, ii, rfl, u1, u2, u3, l', u4, u5, u6, u7⟩ := setAt_ok T2.k w1 w2 y1 y2 (fun a ha hb => y4 a ha (w3 a hb).all) g3
              refine ⟨a, xs, j, ii, rfl, rfl, u1, u2, ?_⟩
              obtain ⟨ls3, T3, E3, _⟩ := w4 F2 _ t1 l' u4 u5 u6 fun b hb => (u7 b hb).imp id fun z => ⟨y3 b z, y4 b z⟩
              exact p2 s ls3 F2 _ T3 E3 Kp.refl
          · exact p2.elim
    | _ => exact p2.elim
end R

/-! Branches, loops; the rules of expressions and statements. -/
namespace R
open PySem PySem.Spec PyProof.Rows L2
open Evl (Ex)
variable {G : Gs} {W : WX} {F H F1 H1 F2 H2 F3 H3 H0 : Hp} {M O : Addr → Prop} {s s1 s2 s3 : L2.St} {e e1 e2 e3 : En} {ls ls1 ls2 ls3 : Ls} {ms : List Nat} {D D' : Ends}
theorem snd_ret {te : TE} {f : Ev} (h : SndV G W te f) : SndS G W ms (tRet te) (retS f) := fun s F H e ls D k E q =>
  h.tr s F H e ls k E _ (Post.mono (Post.so0 q) fun t e1 ls1 F1 H1 _ T1 E1 p v hv => p v s ls1 F1 H1 T1 E1 Kp.refl hv)
theorem snd_if {tt : TT} {t : Et} {ta tb : TS} {a b : Es} (h : SndT G W tt t) (ha : SndS G W ms ta a) (hb : SndS G W ms tb b) : SndS G W ms (tIfS tt ta tb) (ifS t a b) := fun s F H e ls D k E q => by
  refine h s F H e ls k E _ (Post.mono (Post.so q) fun c e1 ls1 F1 H1 _ T1 E1 p => ?_)
  cases c with
  | true => exact ha s F1 H1 e1 ls1 D T1.k E1 p
  | false => exact hb s F1 H1 e1 ls1 D T1.k E1 p
/-- the body of a loop -/
theorem loop_body {o : So} {k' : Es} (h : SPost G W ms s e ls F H (match o with | .nx e2 => k' e2 | .ct e2 => k' e2 | .bk e2 => .nx e2 | r => r) D) {N : L2.St → Hp → Prop}
    (hN : ∀ e2 s2 ls2 F2 H2, Stp e ls F H s e2 ls2 F2 H2 s2 → Env G F2 H2 s2 e2 ls2 → Kp ms s s2 → SPost G W ms s2 e2 ls2 F2 H2 (k' e2) D → N s2 H2) : SPost G W ms s e ls F H o { D with nx := N, ct := N, bk := D.nx } := by
  cases o with
  | nx e2 => exact fun s2 ls2 F2 H2 T E kp => hN e2 s2 ls2 F2 H2 T E kp (SPost.from h T kp)
  | ct e2 => exact fun s2 ls2 F2 H2 T E kp => hN e2 s2 ls2 F2 H2 T E kp (SPost.from h T kp)
  | bk e2 => exact h
  | rt t e2 => exact h
  | exc x e2 => exact h
  | no => exact h
theorem snd_for {wi : TI} {tg : TG} {tb : TS} {g : Tg} {it : Ei} {b : Es} (hi : SndI G W wi it) (hg : SndG G tg g) (hb : SndS G W ms tb b) (hm : ∀ i ∈ g.ns, ms.contains i = false) : SndS G W ms (tFor wi tg tb) (forS g it b) := fun s F H e ls D k E q => by
  refine hi s F H e ls k E _ (Post.mono (Post.so q) fun ds e1 ls1 F1 H1 _ T1 E1 p J hJ => ?_)
  obtain ⟨Gd, Y, w, hgd, hy⟩ := hJ
  refine for_it w (fun i σ H' => ∃ F' e' ls', Ex F' H' ∧ Ex F1 F' ∧ Env G F' H' σ e' ls' ∧ SPost G W ms σ e' ls' F' H' (forF g b (ds.drop i) e') D) ⟨F1, e1, ls1, T1.k, Ex.refl F1, E1, by rw [List.drop_zero]; exact p⟩ (fun i σ H' _ hp => ?_) (fun i x σ H' H'' hin hp hY => ?_) (fun σ H' hp => ?_)
  · obtain ⟨F', e', ls', k', f', _⟩ := hp
    exact hgd H' (f'.trans k')
  · obtain ⟨F', e', ls', k', f', E', p'⟩ := hp
    have hd : ds[i]? = some ds[i] := List.getElem?_eq_getElem hin
    obtain ⟨F'', n1, dx⟩ := hy i H' x H'' F' ds[i] f' k' hd hY
    rw [List.drop_eq_getElem_cons hin] at p'
    unfold forF at p'
    cases hb' : bindG g ds[i] e' with
    | none => rw [hb'] at p'; exact p'.elim
    | some e2 =>
      rw [hb'] at p'
      dsimp only at p'
      have Tn := Stp.n0 (e := e') (ls := ls') (s := σ) n1
      refine hg σ F'' H'' e' ls' x ds[i] e2 n1.k (E'.n0 n1) dx hb' _ fun s2 ls2 T2 E2 sl sn => ?_
      refine hb s2 F'' H'' e2 ls2 _ n1.k E2 (loop_body (SPost.from p' (Tn.trans T2) (kp_ns hm sn)) fun e3 s3 ls3 F3 H3 T3 E3 kp p3 => ⟨F3, e3, ls3, T3.k, (f'.trans n1.f).trans T3.nx.f, E3, p3⟩)
  · obtain ⟨F', e', ls', k', f', E', p'⟩ := hp
    rw [List.drop_length] at p'
    exact p' σ ls' F' H' (Stp.refl k') E' Kp.refl
def addI : PyData → PyData → Option Rz
  | .int i, .int j => some (.dat (.int (i + j)))
  | _, _ => none
/-! ### the rules -/
structure JA (X : Cx) (cl : Str → Addr) (W : WX) (es : List Expr) (fs : List Ev) : Prop where
  p : ∃ ta, PA X es ta ∧ SndAT (GX X cl) W ta (argsT fs) ∧ SndAD (GX X cl) W ta (argsD fs)
structure JO (X : Cx) (cl : Str → Addr) (W : WX) (ex : Option Expr) (f : Option Ev) : Prop where
  p : ∃ t, PO X ex t ∧ SndO (GX X cl) W t (optI f)
structure JS (X : Cx) (cl : Str → Addr) (W : WX) (ms : List Nat) (st : Stmt) (f : Es) : Prop where
  p : ∃ t, PS X st t ∧ SndS (GX X cl) W ms t f
structure JSs (X : Cx) (cl : Str → Addr) (W : WX) (ms : List Nat) (st : List Stmt) (f : Es) : Prop where
  p : ∃ t, PSs X st t ∧ SndS (GX X cl) W ms t f
section
variable {X : Cx} {cl : Str → Addr} {n : Nat} {a b c tg : Expr} {es : List Expr} {f g : Ev} {fs : List Ev} {t u : Et} {pos p apos : Pos} {it : Ei}
theorem ja_nil : JA X cl W [] [] := ⟨_, pa_nil, snd_atnil, snd_adnil⟩
theorem ja_cons (h : JE X cl W a f) (hr : JA X cl W es fs) (hs : starEach (a :: es) X.env = (false, eval a X.env) :: starEach es X.env := by rfl) : JA X cl W (a :: es) (f :: fs) := let ⟨_, p1, s1⟩ := h.p; let ⟨_, p2, s2, s3⟩ := hr.p; ⟨_, pa_cons p1 p2 hs, snd_atcons s1 s2, snd_adcons s1 s3⟩
theorem je_tup {x1} (h : JA X cl W es fs) : JE X cl W (.Tuple es x1 pos) (tupV fs) := let ⟨_, p1, s1, _⟩ := h.p; ⟨_, pe_tup p1, snd_tup s1⟩
theorem je_lst (h : JA X cl W es fs) : JE X cl W (.List es pos) (lstV fs) := let ⟨_, p1, s1, _⟩ := h.p; ⟨_, pe_lst p1, snd_lst s1⟩
theorem je_ix (ha : JE X cl W a f) (hb : JE X cl W b g) (hs : PlainIx b := by exact fun _ _ => rfl) : JE X cl W (.Subscript a b pos) (ixV f g) := let ⟨_, p1, s1⟩ := ha.p; let ⟨_, p2, s2⟩ := hb.p; ⟨_, pe_ix ix_seq p1 p2 hs, snd_ix s1 s2⟩
theorem jo_none : JO X cl W none none := ⟨_, po_none, snd_onone⟩
theorem jo_some (h : JE X cl W a f) : JO X cl W (some a) (some f) := let ⟨_, p1, s1⟩ := h.p; ⟨_, po_some p1, snd_osome s1⟩
theorem je_sl {lo hi : Option Expr} {fl fh : Option Ev} {p2 : Pos} (h : JE X cl W a f) (h1 : JO X cl W lo fl) (h2 : JO X cl W hi fh) : JE X cl W (.Subscript a (.Slice lo hi none p2) pos) (slcV f fl fh) := let ⟨_, p1, s1⟩ := h.p; let ⟨_, q1, r1⟩ := h1.p; let ⟨_, q2, r2⟩ := h2.p; ⟨_, pe_slice sl_any p1 q1 q2, snd_sl s1 r1 r2⟩
theorem je_len (hm : X.mg "len" = none) (h : JE X cl W a f) (hg : Gl X "len" := by rfl) (hs : starEach [a] X.env = (false, eval a X.env) :: starEach [] X.env := by rfl) : JE X cl W (.Call (.Name "len" p) [a] [] pos) (lenV f) := let ⟨_, p1, s1⟩ := h.p; ⟨_, pe_callB call_lenA hg hm (by decide +kernel) (pa_cons p1 pa_nil hs) (by decide) (by decide) hs rfl, snd_len s1⟩
theorem je_all (k : Cok X W n) (hm : X.mg "all" = none) (h : JE X cl W a f) (hg : Gl X "all" := by rfl) (hs : starEach [a] X.env = (false, eval a X.env) :: starEach [] X.env := by rfl) : JE X cl W (.Call (.Name "all" p) [a] [] pos) (op1 allF f) := let ⟨_, p1, s1⟩ := h.p; ⟨_, pe_callB (cr_all k.calm) hg hm (by decide +kernel) (pa_cons p1 pa_nil hs) (by decide) (by decide) hs rfl, snd_op1 (G := GX X cl) s1 rv_all⟩
theorem je_max2 (k : Cok X W n) (hm : X.mg "max" = none) (ha : JE X cl W a f) (hb : JE X cl W b g) (hg : Gl X "max" := by rfl) (hs : starEach [a, b] X.env = (false, eval a X.env) :: starEach [b] X.env := by rfl) (hs2 : starEach [b] X.env = (false, eval b X.env) :: starEach [] X.env := by rfl) (hpl : (backTo pos (starEach [b] X.env)).any (·.1) = false := by rfl) : JE X cl W (.Call (.Name "max" p) [a, b] [] pos) (op2 max2F f g) := let ⟨_, p1, s1⟩ := ha.p; let ⟨_, p2, s2⟩ := hb.p; ⟨_, pe_callB (call_max2 k.calm) hg hm (by decide +kernel) (pa_cons p1 (pa_cons p2 pa_nil hs2) hs) (by decide) (by decide) hs hpl, snd_op2 (G := GX X cl) s1 s2 rv_max2⟩
theorem je_min2 (k : Cok X W n) (hm : X.mg "min" = none) (ha : JE X cl W a f) (hb : JE X cl W b g) (hg : Gl X "min" := by rfl) (hs : starEach [a, b] X.env = (false, eval a X.env) :: starEach [b] X.env := by rfl) (hs2 : starEach [b] X.env = (false, eval b X.env) :: starEach [] X.env := by rfl) (hpl : (backTo pos (starEach [b] X.env)).any (·.1) = false := by rfl) : JE X cl W (.Call (.Name "min" p) [a, b] [] pos) (op2 min2F f g) := let ⟨_, p1, s1⟩ := ha.p; let ⟨_, p2, s2⟩ := hb.p; ⟨_, pe_callB (call_min2 k.calm) hg hm (by decide +kernel) (pa_cons p1 (pa_cons p2 pa_nil hs2) hs) (by decide) (by decide) hs hpl, snd_op2 (G := GX X cl) s1 s2 rv_min2⟩
theorem je_int1 (hm : X.mg "int" = none) (h : JE X cl W a f) (hg : Gl X "int" := by rfl) (hs : starEach [a] X.env = (false, eval a X.env) :: starEach [] X.env := by rfl) : JE X cl W (.Call (.Name "int" p) [a] [] pos) (op1 intF f) := let ⟨_, p1, s1⟩ := h.p; ⟨_, pe_callTy call_int1 hg hm (by decide +kernel) (pa_cons p1 pa_nil hs) (by decide) (by decide) hs rfl, snd_op1 (G := GX X cl) s1 rv_int1⟩
theorem je_tuple (hm : X.mg "tuple" = none) (h : JE X cl W a f) (hg : Gl X "tuple" := by rfl) (hs : starEach [a] X.env = (false, eval a X.env) :: starEach [] X.env := by rfl) : JE X cl W (.Call (.Name "tuple" p) [a] [] pos) (tupleV f) := let ⟨_, p1, s1⟩ := h.p; ⟨_, pe_callTy call_tupleS hg hm (by decide +kernel) (pa_cons p1 pa_nil hs) (by decide) (by decide) hs rfl, snd_tuple (G := GX X cl) s1⟩
/-- isinstance(x, T), T a built-in class -/
theorem je_isi (T : String) {x : Str} {px : Pos} (hm : X.mg "isinstance" = none) (hT : X.mg x = none) (h : JE X cl W a f) (hgT : Gl X x) (hv : bootBuiltins x = some (.type T)) (hn : x ≠ "__name__" := by decide) (hd : (x == ("__debug__" : Str)) = false := by decide) (hg : Gl X "isinstance" := by rfl) (hs : starEach [a, .Name x px] X.env = (false, eval a X.env) :: starEach [.Name x px] X.env := by rfl) (hpl : (backTo pos (starEach [.Name x px] X.env)).any (·.1) = false := by rfl) : JE X cl W (.Call (.Name "isinstance" p) [a, .Name x px] [] pos) (op1D (isiF T) f) :=
  let ⟨_, p1, s1⟩ := h.p; ⟨_, pe_callB call_isi2 hg hm (by decide +kernel) (pa_cons p1 (pa_cons (pe_bltn (v := .ty T) hgT hT hv rfl hn hd) pa_nil rfl) hs) (by decide) (by decide) hs hpl, snd_op1D (G := GX X cl) s1 rv_isi⟩
/-! methods -/
theorem je_append (ho : JE X cl W a f) (ha : JA X cl W [b] [g]) (hbase : attributeBase a "append" X.env (eval a X.env) = eval a X.env := by rfl) (hfew : (((backTo pos (starEach [b] X.env)).all fun x => !x.1) && (backToKw pos (keywordEach [] X.env)).all fun x => x.1.isSome) && decide ((([b] : List Expr).length + ([] : List Keyword).length + if ([] : List Keyword).isEmpty = true then 0 else 1) < 30) = true := by rfl) (hline : (apos.endLine == pos.line) = true := by rfl) (hs : starEach [b] X.env = (false, eval b X.env) :: starEach [] X.env := by rfl) : JE X cl W (.Call (.Attribute a "append" apos) [b] [] pos) (mthV .append f [g]) :=
  let ⟨_, p1, s1⟩ := ho.p; let ⟨_, p2, _, s2⟩ := ha.p; ⟨_, pe_bm PySem.F.plainAttrs_list PySem.F.slot_list_append PySem.F.type_list_append mt_append p1 p2 hbase hfew (hline := hline) (hs := hs), snd_mth (G := GX X cl) s1 s2 rm_append⟩
theorem je_insert (ho : JE X cl W a f) {g2 : Ev} (ha : JA X cl W [b, c] [g, g2]) (hbase : attributeBase a "insert" X.env (eval a X.env) = eval a X.env := by rfl) (hfew : (((backTo pos (starEach [b, c] X.env)).all fun x => !x.1) && (backToKw pos (keywordEach [] X.env)).all fun x => x.1.isSome) && decide ((([b, c] : List Expr).length + ([] : List Keyword).length + if ([] : List Keyword).isEmpty = true then 0 else 1) < 30) = true := by rfl) (hline : (apos.endLine == pos.line) = true := by rfl) (hs : starEach [b, c] X.env = (false, eval b X.env) :: starEach [c] X.env := by rfl) (hpl : (backTo pos (starEach [c] X.env)).any (·.1) = false := by rfl) : JE X cl W (.Call (.Attribute a "insert" apos) [b, c] [] pos) (mthV .insert f [g, g2]) :=
  let ⟨_, p1, s1⟩ := ho.p; let ⟨_, p2, _, s2⟩ := ha.p; ⟨_, pe_bm PySem.F.plainAttrs_list PySem.F.slot_list_insert PySem.F.type_list_insert mIns p1 p2 hbase hfew (hline := hline) (hs := hs) (hplain := hpl), snd_mth (G := GX X cl) s1 s2 rm_insert⟩
/-! what is walked -/
theorem ji_seq (h : JE X cl W a f) : JI X cl W tg a (seqI f) := let ⟨_, p1, s1⟩ := h.p; ⟨_, pi_seq p1, snd_seq (G := GX X cl) s1⟩
theorem ji_str (h : JE X cl W a f) : JI X cl W tg a (strI f) := let ⟨_, p1, s1⟩ := h.p; ⟨_, pi_str p1, snd_str s1⟩
theorem ji_rng1 (hm : X.mg "range" = none) (h : JE X cl W a f) (hg : Gl X "range" := by rfl) (hs : starEach [a] X.env = [(false, eval a X.env)] := by rfl) : JI X cl W tg (.Call (.Name "range" p) [a] [] pos) (rng1 f) := let ⟨_, p1, s1⟩ := h.p; ⟨_, pi_range1 hg hm (pa_cons p1 pa_nil hs) hs, snd_rng1 s1⟩
theorem ji_enum {elts : List Expr} {kk : Nat} {tpos : Pos} (hm : X.mg "enumerate" = none) (h : JE X cl W a f) (hg : Gl X "enumerate" := by rfl) (hs : starEach [a] X.env = [(false, eval a X.env)] := by rfl) : JI X cl W (.Tuple elts kk tpos) (.Call (.Name "enumerate" p) [a] [] pos) (enumI f) := let ⟨_, p1, s1⟩ := h.p; ⟨_, pi_enum hg hm (pa_cons p1 pa_nil hs) hs, snd_enum (G := GX X cl) s1⟩
end
end R

/-! Rules of comprehensions and statements. -/
namespace R
open PySem PySem.Spec PyProof.Rows L2
open Evl (Ex)
variable {G : Gs} {W : WX} {F H F1 H1 F2 H2 F3 H3 H0 : Hp} {M O : Addr → Prop} {s s1 s2 s3 : L2.St} {e e1 e2 e3 : En} {ls ls1 ls2 ls3 : Ls} {ms : List Nat} {D D' : Ends}
/-! ### comprehensions of data -/
def asDT (f : Ev) (e : En) : Out Tr := (asD f e).bnd fun d e1 => .ok (.dat d) e1
theorem snd_asDT {te : TE} {f : Ev} (h : SndV G W te f) : SndTr G W te (asDT f) := fun s F H e ls k E Q q =>
  h.dat s F H e ls k E Q (Post.mono q.bnd0 fun d e2 ls2 F2 H2 _ T E2 p v hv => p ls2 F2 H2 T E2 v (new_dat hv))
/-- the turns, what is made is data -/
def lcDF (vs : List Nat) (g : Tg) (c : Et) (f : Ev) : List PyData → List PyData → En → Out (List PyData)
  | [], acc, e => .ok acc e
  | d :: ds, acc, e => match bindG g d e with
    | none => .no
    | some e1 => (c e1).noX.bnd fun b e2 => if b then ((asD f e2).noX.bnd fun y e3 => if lenOk acc.length then lcDF vs g c f ds (acc ++ [y]) (wipeE e3 vs) else .no) else lcDF vs g c f ds acc (wipeE e2 vs)
def lcD (vs : List Nat) (g : Tg) (it : Ei) (c : Et) (f : Ev) (e : En) : Out Rs := (it e).bnd fun ds e1 =>
  if wipeOk e1 vs then (lcDF vs g c f ds [] (wipeE e1 vs)).bnd fun acc e2 => .ok (.new (.own acc)) (unwipe e1 e2 vs)
  else .no
def Out.map {α β : Type} (h : α → β) : Out α → Out β
  | .ok a e => .ok (h a) e
  | .exc x e => .exc x e
  | .no => .no
theorem lcDF_eq {vs : List Nat} {g : Tg} {c : Et} {f : Ev} : ∀ {ds acc : List PyData} {e : En}, lcF vs g c (asDT f) ds (acc.map .dat) e = (lcDF vs g c f ds acc e).map (·.map .dat)
  | [], acc, e => rfl
  | d :: ds, acc, e => by
    unfold lcF lcDF
    cases hb : bindG g d e with
    | none => rfl
    | some e1 =>
      dsimp only
      cases hc : c e1 with
      | no => rfl
      | exc _ _ => rfl
      | ok b e2 =>
        show (if b then _ else _) = Out.map _ (if b then _ else _)
        cases b with
        | false => exact lcDF_eq
        | true =>
          show ((asDT f e2).noX.bnd _) = Out.map _ ((asD f e2).noX.bnd _)
          unfold asDT
          cases hf : asD f e2 with
          | no => rfl
          | exc _ _ => rfl
          | ok y e3 =>
            show (if lenOk (acc.map Tr.dat).length then _ else _) = Out.map _ (if lenOk acc.length then _ else _)
            rw [List.length_map]
            split
            · have : acc.map Tr.dat ++ [Tr.dat y] = (acc ++ [y]).map Tr.dat := by rw [List.map_append]; rfl
              show lcF vs g c (asDT f) ds (acc.map Tr.dat ++ [Tr.dat y]) (wipeE e3 vs) = _
              rw [this]
              exact lcDF_eq
            · rfl
theorem datsOf_map : ∀ (ds : List PyData), datsOf (ds.map .dat) = some ds
  | [] => rfl
  | d :: ds => by simp only [List.map_cons, datsOf, datsOf_map ds]
theorem lcD_eq {vs : List Nat} {g : Tg} {it : Ei} {c : Et} {f : Ev} : lcV vs g it c (asDT f) mkLst = lcD vs g it c f := by
  funext e
  unfold lcV lcD
  cases it e with
  | no => rfl
  | exc _ _ => rfl
  | ok ds e1 =>
    show (if wipeOk e1 vs then _ else _) = (if wipeOk e1 vs then _ else _)
    split
    · have h := lcDF_eq (vs := vs) (g := g) (c := c) (f := f) (ds := ds) (acc := []) (e := wipeE e1 vs)
      rw [show (([] : List PyData).map Tr.dat) = [] from rfl] at h
      rw [h]
      cases lcDF vs g c f ds [] (wipeE e1 vs) with
      | no => rfl
      | exc _ _ => rfl
      | ok acc e2 =>
        show Out.ok (Rs.new (mkLst (acc.map Tr.dat))) _ = _
        unfold mkLst
        rw [datsOf_map]
        rfl
    · rfl
structure JTs (X : Cx) (cl : Str → Addr) (W : WX) (ifs : List Expr) (f : Et) : Prop where
  p : ∃ t, PTs X ifs t ∧ SndT (GX X cl) W t f
theorem JTs.can {X : Cx} {cl : Str → Addr} {ifs : List Expr} {f : Et} (h : JTs X cl W ifs f) : PTs X ifs (tOfT (GX X cl) W f) := by
  obtain ⟨te, p, sn⟩ := h.p
  exact ⟨fun pins sh σ H Q I q => by obtain ⟨F, e, ls, k, E, q⟩ := q; exact p.run pins sh σ H Q I (sn σ F H e ls k E Q q)⟩
section
variable {X : Cx} {cl : Str → Addr} {n : Nat} {a b c tg ex : Expr} {es : List Expr} {f g : Ev} {fs : List Ev} {t u : Et} {pos p apos spos : Pos} {it : Ei} {st : Stmt} {sts : List Stmt} {fa fb : Es}
theorem jts_nil : JTs X cl W [] yesT := ⟨_, pts_nil, snd_bool⟩
theorem jts_one (h : JT X cl W a t) : JTs X cl W [a] t := let ⟨_, p1, s1⟩ := h.p; ⟨_, pts_one p1, s1⟩
/-- where a block of a comprehension stands -/
theorem Cok.blk {s : Shared} {H : Hp} {scope : Scope} {C : Addr} {cs : List (Str × Addr)} {fp : List Addr} (k : Cok X W n) (hp : PassesOwn (model X.prog X.w) X.A (compEnvC scope cs C X.env) (X.blk s H scope (compEnvC scope cs C X.env) fp).xe) : Cok (X.blk s H scope (compEnvC scope cs C X.env) fp) W0 n := ⟨k.calm, k.room, k.gd, takes0, hp⟩
theorem je_lc {elt iter : Expr} {ifs : List Expr} {scope : Scope} {own : List (Str × Nat)} {gt : Tg} {tt : Et} (k : Cok X W n) (hN : X.N.Nodup) (hi : JI X cl W tg iter it) (ok : BlkOk X.N X.env.scope scope own)
    (hg : ∀ (s : Shared) (H : Hp) (C : Addr) (cs : List (Str × Addr)) (fp : List Addr), Cok (X.blk s H scope (compEnvC scope cs C X.env) fp) W0 n → JG (X.blk s H scope (compEnvC scope cs C X.env) fp) cl tg gt)
    (ht : ∀ (s : Shared) (H : Hp) (C : Addr) (cs : List (Str × Addr)) (fp : List Addr), Cok (X.blk s H scope (compEnvC scope cs C X.env) fp) W0 n → JTs (X.blk s H scope (compEnvC scope cs C X.env) fp) cl W0 ifs tt)
    (he : ∀ (s : Shared) (H : Hp) (C : Addr) (cs : List (Str × Addr)) (fp : List Addr), Cok (X.blk s H scope (compEnvC scope cs C X.env) fp) W0 n → JE (X.blk s H scope (compEnvC scope cs C X.env) fp) cl W0 elt f)
    (hns : ∀ i ∈ gt.ns, i ∈ own.map (·.2)) (hs : ∀ x, foldedSetIterable iter X.env x = pure x := by intro _; rfl)
    (hpo : ∀ (s : Shared) (H : Hp) (C : Addr) (cs : List (Str × Addr)) (fp : List Addr), PassesOwn (model X.prog X.w) X.A (compEnvC scope cs C X.env) (X.blk s H scope (compEnvC scope cs C X.env) fp).xe := by exact fun _ _ _ _ _ => PassesOwn.never) :
    JE X cl W (.ListComp elt [⟨tg, iter, ifs, 0⟩] scope pos) (lcD (own.map (·.2)) gt it tt f) := by
  obtain ⟨wi, p1, s1⟩ := hi.p
  rw [← lcD_eq]
  exact ⟨_, pe_lc k.calm hN p1 ok (fun s H C cs fp => (hg s H C cs fp (k.blk (hpo s H C cs fp))).can) (fun s H C cs fp => (ht s H C cs fp (k.blk (hpo s H C cs fp))).can) (fun s H C cs fp => (he s H C cs fp (k.blk (hpo s H C cs fp))).can) hs, snd_lc s1 snd_ofG hns snd_ofT (snd_asDT snd_of)⟩
/-- y = [..] -/
theorem js_setLc {i : Nat} {y : Str} {py : Pos} {elt iter : Expr} {ifs : List Expr} {scope : Scope} {own : List (Str × Nat)} {gt : Tg} {tt : Et} (k : Cok X W n) (hN : X.N.Nodup) (hy : X.N[i]? = some y) (hyl : X.env.scope.names.lookup y = some .local)
    (hsw : swapsWith (.ListComp elt [⟨tg, iter, ifs, 0⟩] scope pos) (some (.Name y py)) spos.line X.env = pure true) (hms : ms.contains i = false) (hi : JI X cl W tg iter it) (ok : BlkOk X.N X.env.scope scope own)
    (hg : ∀ (s : Shared) (H : Hp) (C : Addr) (cs : List (Str × Addr)) (fp : List Addr), Cok (X.blk s H scope (compEnvC scope cs C X.env) fp) W0 n → JG (X.blk s H scope (compEnvC scope cs C X.env) fp) cl tg gt)
    (ht : ∀ (s : Shared) (H : Hp) (C : Addr) (cs : List (Str × Addr)) (fp : List Addr), Cok (X.blk s H scope (compEnvC scope cs C X.env) fp) W0 n → JTs (X.blk s H scope (compEnvC scope cs C X.env) fp) cl W0 ifs tt)
    (he : ∀ (s : Shared) (H : Hp) (C : Addr) (cs : List (Str × Addr)) (fp : List Addr), Cok (X.blk s H scope (compEnvC scope cs C X.env) fp) W0 n → JE (X.blk s H scope (compEnvC scope cs C X.env) fp) cl W0 elt f)
    (hns : ∀ i ∈ gt.ns, i ∈ own.map (·.2)) (hs : ∀ x, foldedSetIterable iter X.env x = pure x := by intro _; rfl)
    (hpo : ∀ (s : Shared) (H : Hp) (C : Addr) (cs : List (Str × Addr)) (fp : List Addr), PassesOwn (model X.prog X.w) X.A (compEnvC scope cs C X.env) (X.blk s H scope (compEnvC scope cs C X.env) fp).xe := by exact fun _ _ _ _ _ => PassesOwn.never) :
    JS X cl W ms (.Assign [.Name y py] (.ListComp elt [⟨tg, iter, ifs, 0⟩] scope pos) spos) (asgS i (lcD (own.map (·.2)) gt it tt f)) := by
  obtain ⟨wi, p1, s1⟩ := hi.p
  rw [← lcD_eq]
  exact ⟨_, ps_setLc k.calm hN hy hyl hsw p1 ok (fun s H C cs fp => (hg s H C cs fp (k.blk (hpo s H C cs fp))).can) (fun s H C cs fp => (ht s H C cs fp (k.blk (hpo s H C cs fp))).can) (fun s H C cs fp => (he s H C cs fp (k.blk (hpo s H C cs fp))).can) hs, snd_asg (snd_lc s1 snd_ofG hns snd_ofT (snd_asDT snd_of)) hms⟩
/-! ### statements -/
theorem jss_nil : JSs X cl W ms [] skipS := ⟨_, pss_nil, snd_skip⟩
theorem jss_one (h : JS X cl W ms st fa) : JSs X cl W ms [st] fa := let ⟨_, p1, s1⟩ := h.p; ⟨_, pss_one p1, s1⟩
theorem jss_cons (h : JS X cl W ms st fa) (hr : JSs X cl W ms sts fb) : JSs X cl W ms (st :: sts) (seqS fa fb) := let ⟨_, p1, s1⟩ := h.p; let ⟨_, p2, s2⟩ := hr.p; ⟨_, pss_cons p1 p2, snd_seqS s1 s2⟩
theorem js_set {i : Nat} {x : Str} {px : Pos} (hN : X.N.Nodup) (hi : X.N[i]? = some x) (hx : Loc X.env.scope x) (hms : ms.contains i = false) (h : JE X cl W ex f) (hs : swapsWith ex (some (.Name x px)) pos.line X.env = pure false := by rfl) (hf : X.fn x = true ∨ X.env.scope.names.lookup x = some .local := by first | exact .inl rfl | exact .inr rfl | assumption) : JS X cl W ms (.Assign [.Name x px] ex pos) (asgS i f) := let ⟨_, p1, s1⟩ := h.p; ⟨_, ps_set hN hi hx p1 hs hf, snd_asg s1 hms⟩
theorem js_expr (h : JE X cl W ex f) (hs : swapsWith ex none pos.line X.env = pure false := by rfl) : JS X cl W ms (.Expr ex pos) (exprS f) := let ⟨_, p1, s1⟩ := h.p; ⟨_, ps_expr p1 hs, snd_exprS s1⟩
theorem js_ret (h : JE X cl W ex f) : JS X cl W ms (.Return (some ex) pos) (retS f) := let ⟨_, p1, s1⟩ := h.p; ⟨_, ps_ret p1, snd_ret s1⟩
theorem je_mv (ms : List Nat) (h : JE X cl W ex f) : JE X cl W ex (mvV ms f) := let ⟨_, p1, s1⟩ := h.p; ⟨_, p1, snd_mv s1⟩
theorem js_if {sa sb : List Stmt} (hc : JT X cl W c t) (ha : JSs X cl W ms sa fa) (hb : JSs X cl W ms sb fb) : JS X cl W ms (.If c sa sb pos) (ifS t fa fb) := let ⟨_, p0, s0⟩ := hc.p; let ⟨_, p1, s1⟩ := ha.p; let ⟨_, p2, s2⟩ := hb.p; ⟨_, ps_if p0 p1 p2, snd_if s0 s1 s2⟩
theorem js_for {iter : Expr} {body : List Stmt} {gt : Tg} (k : Cok X W n) (hi : JI X cl W tg iter it) (hg : JG X cl tg gt) (hb : JSs X cl W ms body fa) (hm : ∀ i ∈ gt.ns, ms.contains i = false) (hs : ∀ x, foldedSetIterable iter X.env x = pure x := by intro _; rfl) : JS X cl W ms (.For tg iter body [] pos) (forS gt it fa) := let ⟨_, p0, s0⟩ := hi.p; let ⟨_, p1, s1⟩ := hg.p; let ⟨_, p2, s2⟩ := hb.p; ⟨_, ps_for k.po k.calm p0 p1 p2 hs, snd_for s0 s1 s2 hm⟩
theorem js_sto {o i : Expr} {fo fi : Ev} {p2 : Pos} (h : JE X cl W ex f) (ho : JE X cl W o fo) (hi : JE X cl W i fi)
    (ha : ∀ v, assign (.Subscript o i p2) X.env v = (do
      let ov ← holding [v] (eval o X.env)
      let iv ← holding [v, ov] (eval i X.env)
      standAt p2
      holding [v, ov, iv] (setItem ov iv v)
      release [v, ov, iv] []) := by intro _; rfl)
    (hs : swapsWithSole [.Subscript o i p2] ex pos.line X.env = pure false := by rfl) (hw : swappedStores [.Subscript o i p2] ex X.env = pure none := by rfl)
    (h1 : (assignEach [.Subscript o i p2] X.env).map (·.2) = [assign (.Subscript o i p2) X.env] := by rfl) : JS X cl W ms (.Assign [.Subscript o i p2] ex pos) (stoS fo fi f) := let ⟨_, p0, s0⟩ := h.p; let ⟨_, p1, s1⟩ := ho.p; let ⟨_, q, s2⟩ := hi.p; ⟨_, ps_asg p0 (pg_sub p1 q set_list ha) hs hw h1, snd_sto s0 s1 s2⟩
/-- a tuple of names -/
structure JN (X : Cx) (es : List Expr) (gs : Tgs) : Prop where
  p : PGs X es (gNames gs)
theorem jn_nil : JN X [] .nil := ⟨pgs_nil⟩
theorem jn_cons {i : Nat} {x : Str} {px : Pos} {gs : Tgs} (hN : X.N.Nodup) (hi : X.N[i]? = some x) (hx : Loc X.env.scope x) (hr : JN X es gs) (hf : X.fn x = true ∨ X.env.scope.names.lookup x = some .local := by first | exact .inl rfl | exact .inr rfl | assumption)
    (hs : (assignEach (.Name x px :: es) X.env).map (·.2) = assign (.Name x px) X.env :: (assignEach es X.env).map (·.2) := by rfl) : JN X (.Name x px :: es) (.cons (.name i) gs) := ⟨pgs_cons (pg_name hN hi hx hf) hr.p hs⟩
theorem snd_gNames {G : Gs} : ∀ {gs : Tgs}, namesOnly gs = true → SndGs G (gNames gs) gs
  | .nil, _ => snd_gnil
  | .cons (.name i) gs, h => snd_gcons snd_gname (snd_gNames h)
end
end R

/-! Calls and defs. -/
namespace R
open PySem PySem.Spec PyProof.Rows L2
open Evl (Ex)
variable {G : Gs} {W : WX} {F H F1 H1 F2 H2 F3 H3 H0 : Hp} {M O : Addr → Prop} {s s1 s2 s3 : L2.St} {e e1 e2 e3 : En} {ls ls1 ls2 ls3 : Ls} {ms : List Nat} {D D' : Ends}
/-! ### what a def does -/
inductive Ret where
  | ret (t : Tr) (os : List Tr)
  | exc (x : Xc) (os : List Tr)
  | no
def outs (e : En) : List Nat → Option (List Tr)
  | [] => some []
  | k :: ks => match e[k]? with
    | some (.o t) => match outs e ks with
      | some os => some (t :: os)
      | none => none
    | _ => none
def execF (np nl : Nat) (ms : List Nat) (body : Es) (es : List Tr) : Ret :=
  if es.length = np then (match body (es.map .o ++ List.replicate (nl - np) (.o .un)) with
    | .rt t e => match outs e ms with
      | some os => .ret t os
      | none => .no
    | .nx e => match outs e ms with
      | some os => .ret (.dat .none) os
      | none => .no
    | .exc x e => match outs e ms with
      | some os => .exc x os
      | none => .no
    | _ => .no) else .no
def pick (vs : List V) : List Nat → List V
  | [] => []
  | k :: ks => match vs[k]? with
    | some v => v :: pick vs ks
    | none => pick vs ks
/-- what comes back: the value, the things at the slots that may be changed -/
def RetOk (G : Gs) (l : List Addr) (H F2 H2 : Hp) (v : V) (t : Tr) (ws : List V) (os : List Tr) : Prop := ∃ lt lo, TR G F2 H2 v t lt ∧ TRs G F2 H2 ws os lo ∧ (lt ++ lo).Nodup ∧ ∀ a ∈ lt ++ lo, a ∈ l ∨ H a = none
def ExcOk (G : Gs) (l : List Addr) (H F2 H2 : Hp) (x : Xc) (c : Value) (d : Option Addr) (ws : List V) (os : List Tr) : Prop := ∃ lo, TRs G F2 H2 ws os lo ∧ lo.Nodup ∧ (∀ a ∈ lo, a ∈ l ∨ H a = none) ∧ XR G F2 H2 [lo] x c d ∧ ∀ a, d = some a → H a = none
def spR (G : Gs) (ms : List Nat) (R : List Tr → Ret) : Sp := fun vs H Q E => ∃ F es l, Ex F H ∧ TRs G F H vs es l ∧ l.Nodup ∧ (∀ p ∈ G.T, TbF F H p.1 p.2) ∧ match R es with
  | .ret t os => ∀ v F2 H2, NxM (· ∈ l) F H F2 H2 → RetOk G l H F2 H2 v t (pick vs ms) os → Q v H2
  | .exc x os => ∀ c d F2 H2, NxM (· ∈ l) F H F2 H2 → ExcOk G l H F2 H2 x c d (pick vs ms) os → E c d H2
  | .no => False
structure FnG (P : Program) (w : World) (K : PySem.W.Frag) (mg : Str → Option Value) (base : Heap) (CX : CXT) (k : Nat) (f : Addr) (fd : FuncData) (ps : List Str) (sp : Sp) : Prop where
  len : ∀ vs H Q E, sp vs H Q E → vs.length = ps.length
  run : ∀ (A : Around) (outer : List PySem.Env) (s : Shared) (H : Hp) (args : Args) (us : List Value) (vs : List V) (Q : VK) (E : XK), A.guards = some [] → Room k A → Env0 P w K mg base A outer s H → BindsTo s fd args (ps.zip us) → Vals vs us → sp vs H Q E →
    codeAny (model P w) A (.call (.ref f) args) (CR CX outer P w H s Q E) s
theorem guards_deeper {A : Around} {env : PySem.Env} (h : A.guards = some []) : (A.deeper env).guards = some [] := by
  first | exact h | (simpa [Around.deeper] using h)
abbrev FnP (K : PySem.W.Frag) (y x : Str) (st : Stmt) (f : Addr) (fd : FuncData) : Prop := FunD K y x (defArgs st) (defBody st) (defScope st) [] [] f fd
section
variable {P : Program} {w : World} {K : PySem.W.Frag} {mg : Str → Option Value} {base : Heap}
theorem fun_okC {CX : CXT} {y x : Str} {st : Stmt} {f : Addr} {fd : FuncData} {N ps : List Str} {k : Nat} {sp : Sp} (FF : FnP K y x st f fd) (S : FnScope N ps (defScope st)) (len : ∀ vs H Q E, sp vs H Q E → vs.length = ps.length)
    (hbody : ∀ (cdv : Value) (A : Around) (outer : List PySem.Env) (s : Shared) (H : Hp) (vs : List V) (Q : VK) (E : XK), cdv = fd.code → (A.deeper (envOfC x (defScope st) s.heap.objs.size f cdv)).guards = some [] → Room k (A.deeper (envOfC x (defScope st) s.heap.objs.size f cdv)) → sp vs H Q E →
      ∃ t, PSs (cxOf CX P w K mg base N x (defScope st) f cdv A outer s H E) (defBody st) t ∧ t { nx := fun _ H' => Q .non H', rt := Q } (L2.start N vs) H) : FnG P w K mg base CX (k + 1) f fd ps sp := by
  obtain ⟨oc, od, dV, kV, doc, pm, an, cdv, ct, osl, rfl, lk, hcd, _, _⟩ := FF.ex
  refine ⟨len, fun A outer s H args us vs Q E hg hr e0 hb rv hsp => ?_⟩
  have stay := fun b o e => (e0.bs b o e).1
  have KX : K.In s.heap := e0.mod.kin.keeps stay
  have lim := e0.mod.nolimit.keeps stay
  have kinds : ∀ y ∈ ps.zip us, (defScope st).names.lookup y.1 = some .local ∨ ((defScope st).names.lookup y.1 = some .cell ∧ ((cellsFrom (s.heap.objs.size + 1) (defScope st).names []).lookup y.1).isSome = true) := by
    rintro ⟨n, v⟩ hy
    exact (S.par n (List.of_mem_zip hy).1).imp id fun q => ⟨q, PySem.W.cellsFrom_some _ _ _ (.inl q)⟩
  refine codeAny_call_function hr.depth (KX _ _ lk) rfl S.co S.gen rfl (PySem.W.codeRec_of KX hcd) (hb _ _ _ _ (wpAny_newFunctionEnv_cells S.kind kinds fun env he s1 x => ?_))
  subst he
  obtain ⟨t, ht, hq⟩ := hbody cdv A outer s H vs Q E rfl (guards_deeper hg) (hr.deeper _) hsp
  have I := inv_start (CX := CX) (E := E) (cd := cdv) (f := f) S hr.hd e0 (len _ _ _ _ hsp) rv x
  refine ⟨lim.keeps x.toInCall.keep, codeAny_func (wpAny_mono (ht.run [] s1 _ H _ I hq) (fun fl s' hs => ?_) fun e s' hs => hs)⟩
  cases fl with
  | ret u => obtain ⟨v, s2, H', J, r2, q⟩ := hs; exact ⟨v, H', J.os, J.bare, J.base, J.hok, r2, q⟩
  | next => obtain ⟨s2, H', J, q⟩ := hs; exact ⟨.non, H', J.os, J.bare, J.base, J.hok, rfl, q⟩
  | brk => obtain ⟨_, _, _, q⟩ := hs; exact q.elim
  | cont => obtain ⟨_, _, _, q⟩ := hs; exact q.elim
end
/-! ### at a def's entry -/
/-- the addresses of each argument -/
theorem TRs.split : ∀ {ts : List Tr} {vs : List V} {l : List Addr}, TRs G F H vs ts l → ∃ ls : Ls, ls.length = ts.length ∧ l = ls.flatten ∧ ∀ (i : Nat) t m, ts[i]? = some t → ls[i]? = some m → ∃ v, vs[i]? = some v ∧ TR G F H v t m
  | [], _, _, h => by cases h; exact ⟨[], rfl, rfl, fun i t m q => by simp at q⟩
  | t :: ts, _, _, h => by
    cases h with
    | cons h1 h2 =>
      rename_i v vs l m
      obtain ⟨ls, g1, g2, g3⟩ := TRs.split h2
      refine ⟨l :: ls, by rw [List.length_cons, List.length_cons, g1], by rw [List.flatten_cons, g2], fun i t' m' q1 q2 => ?_⟩
      cases i with
      | zero => simp at q1 q2; subst q1 q2; exact ⟨v, rfl, h1⟩
      | succ i =>
        obtain ⟨w, k1, k2⟩ := g3 i t' m' (by simpa using q1) (by simpa using q2)
        exact ⟨w, by simpa using k1, k2⟩
theorem flat_nd : ∀ {ls : Ls}, ls.flatten.Nodup → (∀ (i : Nat) l, ls[i]? = some l → l.Nodup) ∧ ∀ (i j : Nat) l m a, i ≠ j → ls[i]? = some l → ls[j]? = some m → a ∈ l → a ∉ m
  | [], _ => ⟨fun i l q => by simp at q, fun i j l m a _ q => by simp at q⟩
  | l0 :: ls, h => by
    rw [List.flatten_cons] at h
    obtain ⟨h1, h2⟩ := flat_nd (nodup_r h)
    have mem : ∀ (i : Nat) l a, ls[i]? = some l → a ∈ l → a ∈ ls.flatten := fun i l a q ha => List.mem_flatten.mpr ⟨l, List.mem_of_getElem? q, ha⟩
    refine ⟨fun i l q => ?_, fun i j l m a nij q1 q2 ha => ?_⟩
    · cases i with
      | zero => simp at q; subst q; exact nodup_l h
      | succ i => exact h1 i l (by simpa using q)
    · cases i with
      | zero =>
        simp at q1; subst q1
        cases j with
        | zero => exact absurd rfl nij
        | succ j => exact fun hm => nodup_x h a ha (mem j m a (by simpa using q2) hm)
      | succ i =>
        cases j with
        | zero => simp at q2; subst q2; exact fun hm => nodup_x h a hm (mem i l a (by simpa using q1) ha)
        | succ j => exact h2 i j l m a (fun z => nij (by rw [z])) (by simpa using q1) (by simpa using q2) ha
theorem entry {vs : List V} {es : List Tr} {l : List Addr} {N : List Str} (hT : TRs G F H vs es l) (nd : l.Nodup) (htb : ∀ p ∈ G.T, TbF F H p.1 p.2) (hl : es.length ≤ N.length) :
    ∃ ls, Env G F H (L2.start N vs) (es.map .o ++ List.replicate (N.length - es.length) (.o .un)) ls ∧ ∀ a, All ls a ↔ a ∈ l := by
  obtain ⟨ls, h1, rfl, h3⟩ := hT.split
  obtain ⟨n1, n2⟩ := flat_nd nd
  have hv := hT.len
  have le : (es.map Sl.o).length = es.length := List.length_map ..
  have at0 : ∀ (i : Nat) m, (ls ++ List.replicate (N.length - es.length) [])[i]? = some m → (ls[i]? = some m ∧ i < es.length) ∨ m = [] := fun i m q => by
    by_cases c : i < ls.length
    · rw [List.getElem?_append_left c] at q; exact .inl ⟨q, by omega⟩
    · rw [List.getElem?_append_right (by omega)] at q
      have := List.mem_of_getElem? q
      rw [List.mem_replicate] at this
      exact .inr this.2
  refine ⟨ls ++ List.replicate (N.length - es.length) [], ⟨?_, ?_, fun i x m q1 q2 => ?_, fun i m q => ?_, fun i j m m' a nij q1 q2 ha => ?_, htb⟩, fun a => ⟨fun h => ?_, fun h => ?_⟩⟩
  · unfold L2.start
    simp only [List.length_append, List.length_map, List.length_replicate]
    omega
  · simp only [List.length_append, List.length_map, List.length_replicate]
    omega
  · by_cases c : i < es.length
    · rw [List.getElem?_append_left (by omega)] at q2
      rw [List.getElem?_append_left (by omega), List.getElem?_map] at q1
      cases g : es[i]? with
      | none => rw [g] at q1; cases q1
      | some t =>
        rw [g] at q1; cases q1
        obtain ⟨v, k1, k2⟩ := h3 i t m g q2
        refine .inr ⟨v, ?_, k2⟩
        unfold L2.start
        rw [List.getElem?_append_left (by rw [List.length_map]; omega), List.getElem?_map, k1]
        rfl
    · rw [List.getElem?_append_right (by omega)] at q1
      have z1 := List.mem_of_getElem? q1
      rw [List.mem_replicate] at z1
      rw [List.getElem?_append_right (by omega)] at q2
      have z2 := List.mem_of_getElem? q2
      rw [List.mem_replicate] at z2
      rw [z1.2, z2.2]
      exact .inl ⟨rfl, rfl⟩
  · rcases at0 i m q with z | z
    · exact n1 i m z.1
    · rw [z]; exact List.nodup_nil
  · rcases at0 i m q1 with z | z
    · rcases at0 j m' q2 with y | y
      · exact n2 i j m m' a nij z.1 y.1 ha
      · rw [y]; exact fun w => nomatch w
    · rw [z] at ha; cases ha
  · obtain ⟨i, m, q1, q2⟩ := h
    rcases at0 i m q1 with z | z
    · exact List.mem_flatten.mpr ⟨m, List.mem_of_getElem? z.1, q2⟩
    · rw [z] at q2; cases q2
  · obtain ⟨m, h4, h5⟩ := List.mem_flatten.mp h
    obtain ⟨i, hi⟩ := List.getElem?_of_mem h4
    exact ⟨i, m, by rw [List.getElem?_append_left (List.getElem?_eq_some_iff.mp hi).1]; exact hi, h5⟩
/-- what stands at the slots that may be changed, at the end -/
theorem outs_ok {vs : List V} {N : List Str} (E : Env G F2 H2 s2 e2 ls2) : ∀ {ks : List Nat} {os : List Tr}, ks.Nodup → (∀ k ∈ ks, s2[k]? = (L2.start N vs)[k]? ∧ k < vs.length) → outs e2 ks = some os →
    ∃ lo, TRs G F2 H2 (pick vs ks) os lo ∧ lo.Nodup ∧ ∀ a ∈ lo, ∃ k ∈ ks, ∃ t m, e2[k]? = some (.o t) ∧ ls2[k]? = some m ∧ a ∈ m
  | [], os, _, _, q => by cases q; exact ⟨[], .nil, List.nodup_nil, fun _ z => nomatch z⟩
  | k :: ks, os, nd, hk, q => by
    unfold outs at q
    have nd' := List.nodup_cons.mp nd
    cases g : e2[k]? with
    | none => rw [g] at q; cases q
    | some x =>
      rw [g] at q
      cases x with
      | r t => cases q
      | o t =>
        dsimp only at q
        cases g2 : outs e2 ks with
        | none => rw [g2] at q; cases q
        | some os' =>
          rw [g2] at q; cases q
          obtain ⟨lo, h1, h2, h3⟩ := outs_ok E nd'.2 (fun j hj => hk j (List.mem_cons_of_mem _ hj)) g2
          obtain ⟨m, k1, k2⟩ := E.at g
          obtain ⟨w1, w2⟩ := hk k List.mem_cons_self
          have hv : vs[k]? = some vs[k] := List.getElem?_eq_getElem w2
          have sv : s2[k]? = some (some vs[k]) := by
            rw [w1]
            unfold L2.start
            rw [List.getElem?_append_left (by rw [List.length_map]; exact w2), List.getElem?_map, hv]
            rfl
          have tr : TR G F2 H2 vs[k] t m := by
            rcases k2 with ⟨rfl, rfl⟩ | ⟨v, z1, z2⟩
            · exact .un _
            · rw [sv] at z1; cases z1; exact z2
          have pk : pick vs (k :: ks) = vs[k] :: pick vs ks := by
            show (match vs[k]? with | some v => v :: pick vs ks | none => pick vs ks) = _
            rw [hv]
          rw [pk]
          refine ⟨m ++ lo, .cons tr h1, nodup_app (E.nd k m k1) h2 fun a ha hb => ?_, fun a ha => ?_⟩
          · obtain ⟨j, hj, t', m', q1, q2, q3⟩ := h3 a hb
            have : k ≠ j := fun z => nd'.1 (z ▸ hj)
            exact E.ap k j m m' a this k1 q2 ha q3
          · rcases List.mem_append.mp ha with z | z
            · exact ⟨k, List.mem_cons_self, t, m, g, k1, z⟩
            · obtain ⟨j, hj, t', m', q1, q2, q3⟩ := h3 a z
              exact ⟨j, List.mem_cons_of_mem _ hj, t', m', q1, q2, q3⟩
section
variable {P : Program} {w : World} {K : PySem.W.Frag} {mg : Str → Option Value} {base : Heap} {cl : Str → Addr}
theorem execF_len {np nl : Nat} {body : Es} {es : List Tr} (h : execF np nl ms body es ≠ .no) : es.length = np := by
  unfold execF at h
  by_cases c : es.length = np
  · exact c
  · rw [if_neg c] at h; exact absurd rfl h
/-- a def keeps its promise: it does what the interpreter does -/
theorem def_okC {y x : Str} {st : Stmt} {f : Addr} {fd : FuncData} {N ps : List Str} {k np nl : Nat} {body : Es} (FF : FnP K y x st f fd) (S : FnScope N ps (defScope st)) (hms : ms.Nodup) (hmb : ∀ k ∈ ms, k < np) (hnp : ps.length = np) (hN : N.length = nl) (hle : np ≤ nl)
    (hbody : ∀ (cdv : Value) (A : Around) (outer : List PySem.Env) (s : Shared) (H : Hp) (E : XK), cdv = fd.code → Cok (cxOf (L2.CX P w) P w K mg base N x (defScope st) f cdv A outer s H E) (fun cls d _ H => E cls d H) k →
      JSs (cxOf (L2.CX P w) P w K mg base N x (defScope st) f cdv A outer s H E) cl (fun cls d _ H => E cls d H) ms (defBody st) body) :
    FnG P w K mg base (L2.CX P w) (k + 1) f fd ps (spR ⟨K, cl⟩ ms (execF np nl ms body)) := by
  have lenOf : ∀ vs H Q E, spR ⟨K, cl⟩ ms (execF np nl ms body) vs H Q E → vs.length = np := fun vs H Q E h => by
    obtain ⟨F, es, l, k1, k2, k3, kt, k4⟩ := h
    rw [k2.len]
    refine execF_len (nl := nl) (ms := ms) (body := body) fun z => ?_
    rw [z] at k4
    exact k4
  refine fun_okC FF S (fun vs H Q E h => (lenOf vs H Q E h).trans hnp.symm) fun cdv A outer s H vs Q E hcd hg hr hsp => ?_
  have hlv := lenOf vs H Q E hsp
  obtain ⟨F, es, l, k1, k2, k3, kt, k4⟩ := hsp
  have hle' : es.length = np := by rw [← k2.len]; exact hlv
  obtain ⟨t, p1, s1⟩ := (hbody cdv A outer s H E hcd ⟨rfl, hr, hg, takes_of rfl rfl rfl rfl, passes_of rfl⟩).p
  obtain ⟨ls, E0, hall⟩ := entry (N := N) k2 k3 kt (by omega)
  refine ⟨t, p1, s1 _ F H _ ls _ k1 E0 ?_⟩
  have ow0 : ∀ a, Ow (es.map .o ++ List.replicate (N.length - es.length) (.o .un)) ls a → a ∈ l := fun a h => (hall a).mp h.all
  unfold execF at k4
  rw [if_pos hle'] at k4
  rw [hle', hN]
  rw [hle', hN] at ow0
  generalize hb : body (es.map .o ++ List.replicate (nl - np) (.o .un)) = o at k4
  have pre : ∀ {s2 e2 ls2 F2 H2 os}, Stp (es.map .o ++ List.replicate (nl - np) (.o .un)) ls F H (L2.start N vs) e2 ls2 F2 H2 s2 → Env ⟨K, cl⟩ F2 H2 s2 e2 ls2 → Kp ms (L2.start N vs) s2 → outs e2 ms = some os →
      ∃ lo, TRs ⟨K, cl⟩ F2 H2 (pick vs ms) os lo ∧ lo.Nodup ∧ (∀ a ∈ lo, a ∈ l ∨ H a = none) ∧ ∀ a ∈ lo, All ls2 a := fun {s2 e2 ls2 F2 H2 os} T E2 kp q => by
    obtain ⟨lo, h1, h2, h3⟩ := outs_ok (vs := vs) (N := N) E2 hms (fun k hk => ⟨kp k hk, by have := hmb k hk; omega⟩) q
    refine ⟨lo, h1, h2, fun a ha => ?_, fun a ha => ?_⟩
    · obtain ⟨k, hk, t, m, q1, q2, q3⟩ := h3 a ha
      exact (T.ow a ⟨k, t, m, q1, q2, q3⟩).imp (ow0 a) id
    · obtain ⟨k, hk, t, m, q1, q2, q3⟩ := h3 a ha
      exact ⟨k, m, q2, q3⟩
  cases o with
  | no => exact k4.elim
  | bk e2 => exact k4.elim
  | ct e2 => exact k4.elim
  | nx e2 =>
    dsimp only at k4
    cases g : outs e2 ms with
    | none => rw [g] at k4; exact k4.elim
    | some os =>
      rw [g] at k4
      intro s2 ls2 F2 H2 T E2 kp
      obtain ⟨lo, h1, h2, h3, _⟩ := pre T E2 kp g
      exact k4 .non F2 H2 (T.nx.to fun a ha => ow0 a ha) ⟨[], lo, .dat .non, h1, h2, h3⟩
  | rt t e2 =>
    dsimp only at k4
    cases g : outs e2 ms with
    | none => rw [g] at k4; exact k4.elim
    | some os =>
      rw [g] at k4
      intro v s2 ls2 F2 H2 T E2 kp hn
      obtain ⟨lo, h1, h2, h3, h4⟩ := pre T E2 kp g
      obtain ⟨lt, n1, n2, n3, n4⟩ := hn
      refine k4 v F2 H2 (T.nx.to fun a ha => ow0 a ha) ⟨lt, lo, n1, h1, nodup_app n2 h2 fun a ha hb => n4 a ha (h4 a hb), fun a ha => ?_⟩
      rcases List.mem_append.mp ha with z | z
      · exact (n3 a z).imp (ow0 a) id
      · exact h3 a z
  | exc x e2 =>
    dsimp only at k4
    cases g : outs e2 ms with
    | none => rw [g] at k4; exact k4.elim
    | some os =>
      rw [g] at k4
      intro s2 ls2 F2 H2 c d T E2 kp hx hn
      obtain ⟨lo, h1, h2, h3, h4⟩ := pre T E2 kp g
      refine k4 c d F2 H2 (T.nx.to fun a ha => ow0 a ha) ⟨lo, h1, h2, h3, ⟨hx.1, ?_⟩, hn⟩
      have hx2 := hx.2
      cases d with
      | none => exact hx2
      | some a =>
        obtain ⟨fs, y1, y2, y3, y4⟩ := hx2
        refine ⟨fs, y1, fun z => ?_, y3, y4⟩
        obtain ⟨i, m, q1, q2⟩ := z
        cases i with
        | zero => simp at q1; subst q1; exact y2 (h4 a q2)
        | succ i => simp at q1
/-- a def keeps its promise: it does what the interpreter does -/
theorem def_ok {y x : Str} {st : Stmt} {f : Addr} {fd : FuncData} {N ps : List Str} {k np nl : Nat} {body : Es} (FF : FnP K y x st f fd) (S : FnScope N ps (defScope st)) (hms : ms.Nodup) (hmb : ∀ k ∈ ms, k < np) (hnp : ps.length = np) (hN : N.length = nl) (hle : np ≤ nl)
    (hbody : ∀ (cdv : Value) (A : Around) (outer : List PySem.Env) (s : Shared) (H : Hp) (E : XK), Cok (cxOf (L2.CX P w) P w K mg base N x (defScope st) f cdv A outer s H E) (fun cls d _ H => E cls d H) k →
      JSs (cxOf (L2.CX P w) P w K mg base N x (defScope st) f cdv A outer s H E) cl (fun cls d _ H => E cls d H) ms (defBody st) body) :
    FnG P w K mg base (L2.CX P w) (k + 1) f fd ps (spR ⟨K, cl⟩ ms (execF np nl ms body)) :=
  def_okC FF S hms hmb hnp hN hle fun cdv A outer s H E _ => hbody cdv A outer s H E
end
end R

/-! A call of a def. -/
namespace R
open PySem PySem.Spec PyProof.Rows L2
open Evl (Ex)
variable {G : Gs} {W : WX} {F H F1 H1 F2 H2 F3 H3 H0 : Hp} {M O : Addr → Prop} {s s1 s2 s3 : L2.St} {e e1 e2 e3 : En} {ls ls1 ls2 ls3 : Ls} {ms : List Nat} {D D' : Ends}
/-- an argument: frozen data; the thing in a slot, to be changed; the thing in a slot, to be read only -/
inductive Am where
  | d (f : Ev)
  | m (i : Nat)
  | b (i : Nat)
  | x (f : Ev)
inductive Av where
  | dat (d : PyData)
  | mu (i : Nat)
  | br (i : Nat)
  | bt (i k : Nat)
def isUn : Tr → Bool
  | .un => true
  | _ => false
def hasO (e : En) (i : Nat) : Bool := match e[i]? with
  | some (.o t) => !isUn t
  | _ => false
/-- a part of the tuple in a slot, to be read only -/
def isTupAt (e : En) (i k : Nat) : Bool := match e[i]? with
  | some (.o (.tup ts)) => (match ts[k]? with | some _ => true | none => false)
  | _ => false
def argX (e : En) : Rs → Option Av
  | .dat d => some (.dat d)
  | .pl i [.k n] => if isTupAt e i n then some (.bt i n) else none
  | _ => none
def tupG : PyData → Nat → Option PyData
  | .tuple ds, k => ds[k]?
  | _, _ => none
/-- .. or held -/
def hasS (e : En) (i : Nat) : Bool := match e[i]? with
  | some x => !isUn x.t
  | none => false
def argsA : List Am → En → Out (List Av)
  | [], e => .ok [] e
  | .d f :: r, e => (asD f e).bnd fun d e1 => (argsA r e1).bnd fun vs e2 => .ok (.dat d :: vs) e2
  | .m i :: r, e => if hasO e i then (argsA r e).bnd fun vs e2 => .ok (.mu i :: vs) e2 else .no
  | .b i :: r, e => if hasS e i then (argsA r e).bnd fun vs e2 => .ok (.br i :: vs) e2 else .no
  | .x f :: r, e => (f e).bnd fun rs e1 => match argX e1 rs with
    | some a => (argsA r e1).bnd fun vs e2 => .ok (a :: vs) e2
    | none => .no
def esOf (e : En) : List Av → Option (List Tr)
  | [] => some []
  | .dat d :: r => match esOf e r with
    | some es => some (.dat d :: es)
    | none => none
  | .mu i :: r => match e[i]? with
    | some (.o t) => match esOf e r with
      | some es => some (t :: es)
      | none => none
    | _ => none
  | .br i :: r => match e[i]? with
    | some x => match x.t.data with
      | some d => match esOf e r with
        | some es => some (.dat d :: es)
        | none => none
      | none => none
    | none => none
  | .bt i k :: r => match e[i]? with
    | some (.o t) => match t.data with
      | some D => match tupG D k with
        | some d => match esOf e r with
          | some es => some (.dat d :: es)
          | none => none
        | none => none
      | none => none
    | _ => none
def mus : List Av → List Nat
  | [] => []
  | .mu i :: r => i :: mus r
  | _ :: r => mus r
def brs : List Av → List Nat
  | [] => []
  | .br i :: r => i :: brs r
  | .bt i _ :: r => i :: brs r
  | _ :: r => brs r
/-- the places of those that may be changed -/
def muPos (n : Nat) : List Am → List Nat
  | [] => []
  | .m _ :: r => n :: muPos (n + 1) r
  | _ :: r => muPos (n + 1) r
def puts : En → List Nat → List Tr → En
  | e, k :: ks, t :: ts => puts (e.set k (.o t)) ks ts
  | e, _, _ => e
mutual
def lfT : Tr → Bool
  | .un => true
  | .dat d => lf d
  | .own ds => lfs ds
  | .lst ts => lfTs ts
  | .tup ts => lfTs ts
  | .dic _ => false
  | .dit _ => false
  | .obj _ _ => false
  | .scr _ => false
def lfTs : List Tr → Bool
  | [] => true
  | t :: ts => lfT t && lfTs ts
end
def callV (R : List Tr → Ret) (as : List Am) (e : En) : Out Rs := (argsA as e).bnd fun avs e1 => match esOf e1 avs with
  | none => .no
  | some es => if (mus avs ++ brs avs).Nodup then (match R es with
    | .ret t os => if (brs avs).isEmpty || (lfT t && lfTs os) then .ok (mkNew t) (puts e1 (mus avs) os) else .no
    | .exc x os => if (brs avs).isEmpty || (x.fs.isEmpty && lfTs os) then .exc x (puts e1 (mus avs) os) else .no
    | .no => .no) else .no
/-! ### the arguments -/
def AvR (G : Gs) (F : Hp) (s : L2.St) (v : V) : Av → Prop
  | .dat d => Dq G F v d
  | .mu i => s[i]? = some (some v)
  | .br i => s[i]? = some (some v)
  | .bt i k => ∃ a xs, s[i]? = some (some (.ref a)) ∧ F a = some (.tup xs) ∧ xs[k]? = some v
inductive AvsR (G : Gs) (F : Hp) (s : L2.St) : List V → List Av → Prop
  | nil : AvsR G F s [] []
  | cons {v : V} {vs : List V} {a : Av} {as : List Av} : AvR G F s v a → AvsR G F s vs as → AvsR G F s (v :: vs) (a :: as)
theorem AvR.up {v : V} {a : Av} (e : Ex F F2) (h : AvR G F s v a) : AvR G F2 s v a := by
  cases a with
  | dat d => exact dq_up e h
  | mu i => exact h
  | br i => exact h
  | bt i k => obtain ⟨a, xs, h1, h2, h3⟩ := h; exact ⟨a, xs, h1, e _ _ h2, h3⟩
def SndAA (G : Gs) (W : WX) (ta : TA) (f : En → Out (List Av)) : Prop := ∀ s F H e ls, Ex F H → Env G F H s e ls → ∀ Q : List V → Hp → Prop, Post G W s e ls F H (f e) (fun avs e2 ls2 F2 H2 => ∀ vs, AvsR G F2 s vs avs → Q vs H2) → ta s H Q
theorem snd_aanil : SndAA G W tNil (argsA []) := fun s F H e ls k E Q q => q.now k E [] .nil
theorem snd_aad {ta : TE} {tr : TA} {f : Ev} {as : List Am} (ha : SndV G W ta f) (hr : SndAA G W tr (argsA as)) : SndAA G W (tCons ta tr) (argsA (.d f :: as)) := fun s F H e ls k E Q q => by
  refine ha.dat s F H e ls k E _ (Post.mono q.bnd fun t e1 ls1 F1 H1 _ T1 E1 p v hv => ?_)
  obtain ⟨_, _, p⟩ := p
  refine hr s F1 H1 e1 ls1 T1.k E1 _ (Post.mono p.bnd0 fun ts e2 ls2 F2 H2 _ T2 E2 r vs hvs => ?_)
  exact (r ls2 F2 H2 T2 E2).2 (v :: vs) (.cons (dq_up T2.nx.f hv) hvs)
theorem hasO_ok (E : Env G F H s e ls) {i : Nat} (h : hasO e i = true) : ∃ v, s[i]? = some (some v) := by
  unfold hasO at h
  split at h
  · rename_i t q
    obtain ⟨l, h1, h2⟩ := E.at q
    obtain ⟨v, h3, _⟩ := h2.to (fun z => by
      have z : t = .un := z
      subst z; cases h)
    exact ⟨v, h3⟩
  · cases h
theorem snd_aam {tr : TA} {i : Nat} {as : List Am} (hr : SndAA G W tr (argsA as)) : SndAA G W (tCons (tVar i) tr) (argsA (.m i :: as)) := fun s F H e ls k E Q q => by
  have q : Post G W s e ls F H (if hasO e i then (argsA as e).bnd fun vs e2 => .ok (.mu i :: vs) e2 else .no) _ := q
  split at q
  · rename_i ho
    obtain ⟨v, hv⟩ := hasO_ok E ho
    refine ⟨v, hv, hr s F H e ls k E _ (Post.mono q.bnd0 fun ts e2 ls2 F2 H2 _ T2 E2 r vs hvs => r ls2 F2 H2 T2 E2 (v :: vs) (.cons hv hvs))⟩
  · exact q.elim
/-! ### frozen for a while -/
def fzF (F H : Hp) (L : List Addr) : Hp := fun a => if a ∈ L then H a else F a
theorem fzF_in {L : List Addr} {a : Addr} (h : a ∈ L) : fzF F H L a = H a := by unfold fzF; rw [if_pos h]
theorem fzF_out {L : List Addr} {a : Addr} (h : a ∉ L) : fzF F H L a = F a := by unfold fzF; rw [if_neg h]
theorem fzF_nx {L : List Addr} (k : Ex F H) (hL : ∀ a ∈ L, F a = none ∧ ∀ ps, H a ≠ some (.tbl ps)) : NxM (· ∈ L) F H (fzF F H L) H :=
  ⟨fun _ _ _ h _ => h, fun a o h => by
    rw [fzF_out (fun z => by rw [(hL a z).1] at h; cases h)]; exact h, fun a o h => by
    by_cases c : a ∈ L
    · rw [fzF_in c] at h; exact h
    · rw [fzF_out c] at h; exact k a o h, fun a _ m h1 _ _ => by rw [fzF_out m]; exact h1, fun _ h => h, fun P q t => ⟨t.1, fun a ps z => by
    by_cases c : a ∈ L
    · rw [fzF_in c] at z; exact (hL a c).2 ps z
    · rw [fzF_out c] at z; exact t.2.1 a ps z, t.2.2⟩⟩
mutual
theorem TR.dqz {L : List Addr} (k : Ex F H) (hL : ∀ a ∈ L, F a = none ∧ ∀ ps, H a ≠ some (.tbl ps)) : ∀ {t : Tr} {v : V} {l : List Addr} {d : PyData}, TR G F H v t l → t.data = some d → (∀ a ∈ l, a ∈ L) → Dq G (fzF F H L) v d ∧ ∀ a ∈ l, ∃ ys, H a = some (.lst ys)
  | .un, v, l, d, h, q, s => by simp [Tr.data] at q
  | .dat d0, v, l, d, h, q, s => by
    simp [Tr.data] at q; subst q
    cases h with
    | dat h => exact ⟨dq_up (fzF_nx k hL).f h, fun _ z => nomatch z⟩
  | .own ds, v, l, d, h, q, s => by
    simp [Tr.data] at q; subst q
    cases h with
    | own h1 h2 h3 => exact ⟨.lst ((fzF_in (s _ (List.mem_singleton.mpr rfl))).trans h2) (dqa_up (fzF_nx k hL).f h3), fun a ha => by rw [List.mem_singleton.mp ha]; exact ⟨_, h2⟩⟩
  | .lst ts, v, l, d, h, q, s => by
    simp only [Tr.data] at q
    cases g : Tr.datas ts with
    | none => rw [g] at q; cases q
    | some ds =>
      rw [g] at q; cases q
      cases h with
      | lst h1 h2 h3 =>
        obtain ⟨w1, w2⟩ := TRs.dqz k hL h3 g (fun a ha => s a (List.mem_cons_of_mem _ ha))
        exact ⟨.lst ((fzF_in (s _ List.mem_cons_self)).trans h2) w1, fun a ha => by
          rcases List.mem_cons.mp ha with rfl | z
          · exact ⟨_, h2⟩
          · exact w2 a z⟩
  | .tup ts, v, l, d, h, q, s => by
    simp only [Tr.data] at q
    cases g : Tr.datas ts with
    | none => rw [g] at q; cases q
    | some ds =>
      rw [g] at q; cases q
      cases h with
      | tup h1 h2 =>
        obtain ⟨w1, w2⟩ := TRs.dqz k hL h2 g s
        exact ⟨.tup ((fzF_nx k hL).f _ _ h1) w1, w2⟩
  | .dic _, v, l, d, h, q, s => by simp [Tr.data] at q
  | .dit _, v, l, d, h, q, s => by simp [Tr.data] at q
  | .obj _ _, v, l, d, h, q, s => by simp [Tr.data] at q
  | .scr _, v, l, d, h, q, s => by simp [Tr.data] at q
theorem TRs.dqz {L : List Addr} (k : Ex F H) (hL : ∀ a ∈ L, F a = none ∧ ∀ ps, H a ≠ some (.tbl ps)) : ∀ {ts : List Tr} {vs : List V} {l : List Addr} {ds : List PyData}, TRs G F H vs ts l → Tr.datas ts = some ds → (∀ a ∈ l, a ∈ L) → DqAll G (fzF F H L) vs ds ∧ ∀ a ∈ l, ∃ ys, H a = some (.lst ys)
  | [], vs, l, ds, h, q, s => by
    simp [Tr.datas] at q; subst q
    cases h
    exact ⟨.nil, fun _ z => nomatch z⟩
  | t :: ts, vs, l, ds, h, q, s => by
    simp only [Tr.datas] at q
    cases g1 : t.data with
    | none => rw [g1] at q; cases q
    | some d =>
      cases g2 : Tr.datas ts with
      | none => rw [g1, g2] at q; cases q
      | some es =>
        rw [g1, g2] at q; cases q
        cases h with
        | cons h1 h2 =>
          obtain ⟨w1, w2⟩ := TR.dqz k hL h1 g1 (fun a ha => s a (List.mem_append_left _ ha))
          obtain ⟨y1, y2⟩ := TRs.dqz k hL h2 g2 (fun a ha => s a (List.mem_append_right _ ha))
          exact ⟨.cons w1 y1, fun a ha => (List.mem_append.mp ha).elim (w2 a) (y2 a)⟩
end
mutual
theorem TR.cut {L : List Addr} (hL : ∀ a ∈ L, ∃ ys, F a = some (.lst ys)) : ∀ {t : Tr} {v : V} {l : List Addr}, TR G F H v t l → lfT t = true → TR G (cutF F L) H v t l
  | .un, v, l, h, q => by cases h; exact .un _
  | .dat d, v, l, h, q => by cases h with | dat h => exact .dat (dq_cut hL h (by simpa [lfT] using q))
  | .own ds, v, l, h, q => by cases h with | own h1 h2 h3 => exact .own (ex_free cutF_ex h1) h2 (dqa_cut hL h3 (by simpa [lfT] using q))
  | .lst ts, v, l, h, q => by cases h with | lst h1 h2 h3 => exact .lst (ex_free cutF_ex h1) h2 (TRs.cut hL h3 (by simpa [lfT] using q))
  | .tup ts, v, l, h, q => by cases h with | tup h1 h2 => exact .tup (tup_cut hL h1) (TRs.cut hL h2 (by simpa [lfT] using q))
  | .dic _, v, l, h, q => by simp [lfT] at q
  | .dit _, v, l, h, q => by simp [lfT] at q
  | .obj _ _, v, l, h, q => by simp [lfT] at q
  | .scr _, v, l, h, q => by simp [lfT] at q
theorem TRs.cut {L : List Addr} (hL : ∀ a ∈ L, ∃ ys, F a = some (.lst ys)) : ∀ {ts : List Tr} {vs : List V} {l : List Addr}, TRs G F H vs ts l → lfTs ts = true → TRs G (cutF F L) H vs ts l
  | [], vs, l, h, q => by cases h; exact .nil
  | t :: ts, vs, l, h, q => by
    have q' : lfT t = true ∧ lfTs ts = true := by simpa [lfTs] using q
    cases h with
    | cons h1 h2 => exact .cons (TR.cut hL h1 q'.1) (TRs.cut hL h2 q'.2)
end
/-! ### the slots put back -/
theorem puts_at : ∀ {ks : List Nat} {ts : List Tr} {e : En} {i : Nat}, i ∉ ks → (puts e ks ts)[i]? = e[i]?
  | [], _, _, _, _ => by unfold puts; rfl
  | k :: ks, [], _, _, _ => by unfold puts; rfl
  | k :: ks, t :: ts, e, i, h => by
    unfold puts
    rw [puts_at (fun z => h (List.mem_cons_of_mem _ z)), List.getElem?_set_ne (fun (z : k = i) => h (by subst z; exact List.mem_cons_self))]
theorem puts_len : ∀ {ks : List Nat} {ts : List Tr} {e : En}, (puts e ks ts).length = e.length
  | [], _, _ => by unfold puts; rfl
  | k :: ks, [], _ => by unfold puts; rfl
  | k :: ks, t :: ts, e => by unfold puts; rw [puts_len, set_len]
theorem puts_in : ∀ {ks : List Nat} {ts : List Tr} {e : En} {j k : Nat}, ks.Nodup → ts.length = ks.length → ks[j]? = some k → k < e.length → ∃ t, ts[j]? = some t ∧ (puts e ks ts)[k]? = some (.o t)
  | [], _, _, _, _, _, _, q, _ => by simp at q
  | k0 :: ks, [], _, _, _, _, hl, _, _ => by cases hl
  | k0 :: ks, t :: ts, e, 0, k, nd, hl, q, hk => by
    simp at q; subst q
    unfold puts
    rw [puts_at (List.nodup_cons.mp nd).1, List.getElem?_set_self hk]
    exact ⟨t, rfl, rfl⟩
  | k0 :: ks, t :: ts, e, j + 1, k, nd, hl, q, hk => by
    unfold puts
    obtain ⟨t', h1, h2⟩ := puts_in (ks := ks) (ts := ts) (e := e.set k0 (.o t)) (j := j) (k := k) (List.nodup_cons.mp nd).2 (by simpa using hl) (by simpa using q) (by rw [set_len]; exact hk)
    exact ⟨t', by simpa using h1, h2⟩
def putsL : Ls → List Nat → Ls → Ls
  | e, k :: ks, t :: ts => putsL (e.set k t) ks ts
  | e, _, _ => e
theorem putsL_at : ∀ {ks : List Nat} {ts : Ls} {e : Ls} {i : Nat}, i ∉ ks → (putsL e ks ts)[i]? = e[i]?
  | [], _, _, _, _ => by unfold putsL; rfl
  | k :: ks, [], _, _, _ => by unfold putsL; rfl
  | k :: ks, t :: ts, e, i, h => by
    unfold putsL
    rw [putsL_at (fun z => h (List.mem_cons_of_mem _ z)), List.getElem?_set_ne (fun (z : k = i) => h (by subst z; exact List.mem_cons_self))]
theorem putsL_len : ∀ {ks : List Nat} {ts : Ls} {e : Ls}, (putsL e ks ts).length = e.length
  | [], _, _ => by unfold putsL; rfl
  | k :: ks, [], _ => by unfold putsL; rfl
  | k :: ks, t :: ts, e => by unfold putsL; rw [putsL_len, set_len]
theorem putsL_in : ∀ {ks : List Nat} {ts : Ls} {e : Ls} {j k : Nat}, ks.Nodup → ts.length = ks.length → ks[j]? = some k → k < e.length → ∃ t, ts[j]? = some t ∧ (putsL e ks ts)[k]? = some t
  | [], _, _, _, _, _, _, q, _ => by simp at q
  | k0 :: ks, [], _, _, _, _, hl, _, _ => by cases hl
  | k0 :: ks, t :: ts, e, 0, k, nd, hl, q, hk => by
    simp at q; subst q
    unfold putsL
    rw [putsL_at (List.nodup_cons.mp nd).1, List.getElem?_set_self hk]
    exact ⟨t, rfl, rfl⟩
  | k0 :: ks, t :: ts, e, j + 1, k, nd, hl, q, hk => by
    unfold putsL
    obtain ⟨t', h1, h2⟩ := putsL_in (ks := ks) (ts := ts) (e := e.set k0 t) (j := j) (k := k) (List.nodup_cons.mp nd).2 (by simpa using hl) (by simpa using q) (by rw [set_len]; exact hk)
    exact ⟨t', by simpa using h1, h2⟩
/-- behind a call: the slots ks hold the things os now -/
theorem puts_ok {ks : List Nat} {ws : List V} {os : List Tr} {lo l : List Addr} (E : Env G F1 H1 s e1 ls1) (n : NxM (· ∈ l) F1 H1 F2 H2) (nd : ks.Nodup) (hk : ∀ k ∈ ks, ∃ t, e1[k]? = some (.o t)) (hl : ∀ a, a ∈ l → ∃ k ∈ ks, ∃ m, ls1[k]? = some m ∧ a ∈ m)
    (hs : ∀ (j k : Nat) w, ks[j]? = some k → ws[j]? = some w → s[k]? = some (some w)) (hw : ws.length = ks.length) (hT : TRs G F2 H2 ws os lo) (ndo : lo.Nodup) (sub : ∀ a ∈ lo, a ∈ l ∨ H1 a = none) :
    ∃ ls2, Stp e1 ls1 F1 H1 s (puts e1 ks os) ls2 F2 H2 s ∧ Env G F2 H2 s (puts e1 ks os) ls2 ∧ ∀ a, All ls2 a → a ∈ lo ∨ (All ls1 a ∧ a ∉ l) := by
  obtain ⟨los, g1, rfl, g3⟩ := hT.split
  obtain ⟨n1, n2⟩ := flat_nd ndo
  have ho : os.length = ks.length := by rw [← hT.len]; exact hw
  have low : ∀ a ∈ l, Ow e1 ls1 a := fun a ha => by
    obtain ⟨k, hk1, m, hm, hma⟩ := hl a ha
    obtain ⟨t, ht⟩ := hk k hk1
    exact ⟨k, t, m, ht, hm, hma⟩
  have notl : ∀ (j : Nat) m a, j ∉ ks → ls1[j]? = some m → a ∈ m → a ∉ l := fun j m a hj hm ha z => by
    obtain ⟨k, hk1, m', hm', hma⟩ := hl a z
    exact E.ap j k m m' a (fun q => hj (q ▸ hk1)) hm hm' ha hma
  have inl : ∀ (k : Nat), k ∈ ks → ∃ (j : Nat) (t : Tr) (m : List Addr) (w : V), (puts e1 ks os)[k]? = some (.o t) ∧ (putsL ls1 ks los)[k]? = some m ∧ los[j]? = some m ∧ ks[j]? = some k ∧ s[k]? = some (some w) ∧ TR G F2 H2 w t m := fun k hk1 => by
    obtain ⟨j, hj⟩ := List.getElem?_of_mem hk1
    obtain ⟨t0, ht0⟩ := hk k hk1
    have hkl : k < e1.length := (List.getElem?_eq_some_iff.mp ht0).1
    obtain ⟨t, a1, a2⟩ := puts_in (e := e1) nd ho hj hkl
    obtain ⟨m, b1, b2⟩ := putsL_in (e := ls1) nd (g1.trans ho) hj (by rw [E.lenl]; exact hkl)
    obtain ⟨w, c1, c2⟩ := g3 j t m a1 b1
    exact ⟨j, t, m, w, a2, b2, b1, hj, hs j k w hj c1, c2⟩
  have memf : ∀ (j : Nat) m a, los[j]? = some m → a ∈ m → a ∈ los.flatten := fun j m a q ha => List.mem_flatten.mpr ⟨m, List.mem_of_getElem? q, ha⟩
  have alln : ∀ a, All (putsL ls1 ks los) a → a ∈ los.flatten ∨ (All ls1 a ∧ a ∉ l) := fun a h => by
    obtain ⟨i, m, q1, q2⟩ := h
    by_cases c : i ∈ ks
    · obtain ⟨j, t, m', w, _, b2, b1, _⟩ := inl i c
      rw [q1] at b2; cases b2
      exact .inl (memf j m a b1 q2)
    · rw [putsL_at c] at q1
      exact .inr ⟨⟨i, m, q1, q2⟩, notl i m a c q1 q2⟩
  refine ⟨putsL ls1 ks los, ⟨n.to low, by rw [puts_len], fun a h => ?_, fun a h => ?_, fun i t h => ?_⟩, ⟨by rw [puts_len]; exact E.len, by rw [puts_len, putsL_len]; exact E.lenl, fun i x m q1 q2 => ?_, fun i m q => ?_, fun i j m m' a nij q1 q2 ha => ?_, fun pt hpt => n.tb _ _ (E.tb pt hpt)⟩, alln⟩
  · obtain ⟨i, t, m, q0, q1, q2⟩ := h
    by_cases c : i ∈ ks
    · obtain ⟨j, t', m', w, _, b2, b1, _⟩ := inl i c
      rw [q1] at b2; cases b2
      exact (sub a (memf j m a b1 q2)).imp (low a) id
    · rw [putsL_at c] at q1
      rw [puts_at c] at q0
      exact .inl ⟨i, t, m, q0, q1, q2⟩
  · rcases alln a h with z | z
    · exact (sub a z).imp (fun y => (low a y).all) id
    · exact .inl z.1
  · have c : i ∉ ks := fun z => by
      obtain ⟨t', ht'⟩ := hk i z
      rw [h] at ht'; cases ht'
    rw [puts_at c, putsL_at c]
    exact ⟨h, rfl, rfl⟩
  · by_cases c : i ∈ ks
    · obtain ⟨j, t, m', w, a2, b2, b1, hj, sw, tr⟩ := inl i c
      rw [q1] at a2; cases a2
      rw [q2] at b2; cases b2
      exact .inr ⟨w, sw, tr⟩
    · rw [puts_at c] at q1
      rw [putsL_at c] at q2
      exact (E.ent i x m q1 q2).nx n fun a ha hb => notl i m a c q2 ha hb
  · by_cases c : i ∈ ks
    · obtain ⟨j, t, m', w, a2, b2, b1, _⟩ := inl i c
      rw [q] at b2; cases b2
      exact n1 j m b1
    · rw [putsL_at c] at q
      exact E.nd i m q
  · by_cases c : i ∈ ks
    · obtain ⟨x, t, m0, w, _, b2, b1, hx, _⟩ := inl i c
      rw [q1] at b2; cases b2
      by_cases c2 : j ∈ ks
      · obtain ⟨y, t', m1, w', _, d2, d1, hy, _⟩ := inl j c2
        rw [q2] at d2; cases d2
        exact n2 x y m m' a (fun z => nij (by subst z; rw [hx] at hy; cases hy; rfl)) b1 d1 ha
      · rw [putsL_at c2] at q2
        intro hm
        rcases sub a (memf x m a b1 ha) with z | z
        · exact notl j m' a c2 q2 hm z
        · exact (E.adr ⟨j, m', q2, hm⟩).2 z
    · rw [putsL_at c] at q1
      by_cases c2 : j ∈ ks
      · obtain ⟨y, t', m1, w', _, d2, d1, hy, _⟩ := inl j c2
        rw [q2] at d2; cases d2
        intro hm
        rcases sub a (memf y m' a d1 hm) with z | z
        · exact notl i m a c q1 ha z
        · exact (E.adr ⟨i, m, q1, ha⟩).2 z
      · rw [putsL_at c2] at q2
        exact E.ap i j m m' a nij q1 q2 ha
/-! ### the call -/
def adrs (ls : Ls) : List Nat → List Addr
  | [] => []
  | k :: ks => (match ls[k]? with | some m => m | none => []) ++ adrs ls ks
theorem mem_adrs {a : Addr} : ∀ {ks : List Nat}, a ∈ adrs ls ks → ∃ k ∈ ks, ∃ m, ls[k]? = some m ∧ a ∈ m
  | k :: ks, h => by
    unfold adrs at h
    rcases List.mem_append.mp h with z | z
    · cases q : ls[k]? with
      | none => rw [q] at z; cases z
      | some m => rw [q] at z; exact ⟨k, List.mem_cons_self, m, q, z⟩
    · obtain ⟨j, hj, m, h1, h2⟩ := mem_adrs z
      exact ⟨j, List.mem_cons_of_mem _ hj, m, h1, h2⟩
theorem adrs_mem {a : Addr} {m : List Addr} : ∀ {ks : List Nat} {k : Nat}, k ∈ ks → ls[k]? = some m → a ∈ m → a ∈ adrs ls ks
  | k0 :: ks, k, hk, hm, ha => by
    unfold adrs
    rcases List.mem_cons.mp hk with rfl | z
    · rw [hm]; exact List.mem_append_left _ ha
    · exact List.mem_append_right _ (adrs_mem z hm ha)
/-- the things handed over, what is read only being frozen -/
theorem es_ok {L : List Addr} (E : Env G F1 H1 s e1 ls1) (k : Ex F1 H1) (hL : ∀ a ∈ L, F1 a = none ∧ ∀ ps, H1 a ≠ some (.tbl ps)) : ∀ {avs : List Av} {vs : List V} {es : List Tr}, AvsR G F1 s vs avs → esOf e1 avs = some es → (mus avs).Nodup → (∀ i ∈ mus avs, ∀ m, ls1[i]? = some m → ∀ a ∈ m, a ∉ L) → (∀ i ∈ brs avs, ∀ m, ls1[i]? = some m → ∀ a ∈ m, a ∈ L) →
    ∃ l, TRs G (fzF F1 H1 L) H1 vs es l ∧ l.Nodup ∧ (∀ a ∈ l, ∃ k ∈ mus avs, ∃ m, ls1[k]? = some m ∧ a ∈ m) ∧ (∀ k ∈ mus avs, ∃ t, e1[k]? = some (.o t)) ∧ (∀ i ∈ brs avs, ∀ m, ls1[i]? = some m → ∀ a ∈ m, ∃ ys, H1 a = some (.lst ys))
  | [], vs, es, hv, q, _, _, _ => by
    cases hv; cases q
    exact ⟨[], .nil, List.nodup_nil, fun _ z => (nomatch z), fun _ z => (nomatch z), fun _ z => nomatch z⟩
  | .dat d :: r, vs, es, hv, q, nd, hm, hb => by
    cases hv with
    | cons h1 h2 =>
      simp only [esOf] at q
      cases g : esOf e1 r with
      | none => rw [g] at q; cases q
      | some es' =>
        rw [g] at q; cases q
        obtain ⟨l, a1, a2, a3, a4, a5⟩ := es_ok E k hL h2 g nd hm hb
        exact ⟨l, .cons (l := []) (.dat (dq_up (fzF_nx k hL).f h1)) a1, a2, a3, a4, a5⟩
  | .mu i :: r, vs, es, hv, q, nd, hm, hb => by
    cases hv with
    | cons h1 h2 =>
      simp only [esOf] at q
      cases g0 : e1[i]? with
      | none => rw [g0] at q; cases q
      | some x =>
        rw [g0] at q
        cases x with
        | r t => cases q
        | o t =>
          dsimp only at q
          cases g : esOf e1 r with
          | none => rw [g] at q; cases q
          | some es' =>
            rw [g] at q; cases q
            have nd' := List.nodup_cons.mp (show (i :: mus r).Nodup from nd)
            obtain ⟨l, a1, a2, a3, a4, a5⟩ := es_ok E k hL h2 g nd'.2 (fun j hj => hm j (List.mem_cons_of_mem _ hj)) hb
            obtain ⟨m, b1, b2⟩ := E.at g0
            rename_i v vs
            have tr : TR G F1 H1 v t m := by
              rcases b2 with ⟨z1, z2⟩ | ⟨w, z1, z2⟩
              · have z1 : t = .un := z1
                subst z1 z2; exact .un _
              · have h1 : s[i]? = some (some v) := h1
                rw [h1] at z1; cases z1; exact z2
            refine ⟨m ++ l, .cons (tr.nx (fzF_nx k hL) (hm i List.mem_cons_self m b1)) a1, nodup_app (E.nd i m b1) a2 fun a ha hb' => ?_, fun a ha => ?_, fun j hj => ?_, a5⟩
            · obtain ⟨j, hj, m', c1, c2⟩ := a3 a hb'
              exact E.ap i j m m' a (fun z => nd'.1 (z ▸ hj)) b1 c1 ha c2
            · rcases List.mem_append.mp ha with z | z
              · exact ⟨i, List.mem_cons_self, m, b1, z⟩
              · obtain ⟨j, hj, m', c1, c2⟩ := a3 a z
                exact ⟨j, List.mem_cons_of_mem _ hj, m', c1, c2⟩
            · rcases List.mem_cons.mp hj with rfl | z
              · exact ⟨t, g0⟩
              · exact a4 j z
  | .br i :: r, vs, es, hv, q, nd, hm, hb => by
    cases hv with
    | cons h1 h2 =>
      simp only [esOf] at q
      cases g0 : e1[i]? with
      | none => rw [g0] at q; cases q
      | some x =>
        rw [g0] at q
        dsimp only at q
        cases gd : x.t.data with
        | none => rw [gd] at q; cases q
        | some d =>
          rw [gd] at q
          dsimp only at q
          cases g : esOf e1 r with
          | none => rw [g] at q; cases q
          | some es' =>
            rw [g] at q; cases q
            obtain ⟨l, a1, a2, a3, a4, a5⟩ := es_ok E k hL h2 g nd hm (fun j hj => hb j (List.mem_cons_of_mem _ hj))
            obtain ⟨m, b1, b2⟩ := E.at g0
            rename_i v vs
            obtain ⟨w, z1, z2⟩ := b2.to (data_un gd)
            have h1 : s[i]? = some (some v) := h1
            rw [h1] at z1; cases z1
            obtain ⟨y1, y2⟩ := z2.dqz k hL gd (hb i List.mem_cons_self m b1)
            refine ⟨l, .cons (l := []) (.dat y1) a1, a2, a3, a4, fun j hj m' hm' a ha => ?_⟩
            rcases List.mem_cons.mp hj with rfl | z
            · rw [b1] at hm'; cases hm'; exact y2 a ha
            · exact a5 j z m' hm' a ha
  | .bt i k' :: r, vs, es, hv, q, nd, hm, hb => by
    cases hv with
    | cons h1 h2 =>
      simp only [esOf] at q
      cases g0 : e1[i]? with
      | none => rw [g0] at q; cases q
      | some x =>
        rw [g0] at q
        cases x with
        | r t => cases q
        | o t =>
          dsimp only at q
          cases gd : t.data with
          | none => rw [gd] at q; cases q
          | some D =>
            rw [gd] at q
            dsimp only at q
            cases gk : tupG D k' with
            | none => rw [gk] at q; cases q
            | some d =>
              rw [gk] at q
              dsimp only at q
              cases g : esOf e1 r with
              | none => rw [g] at q; cases q
              | some es' =>
                rw [g] at q; cases q
                obtain ⟨l, a1, a2, a3, a4, a5⟩ := es_ok E k hL h2 g nd hm (fun j hj => hb j (List.mem_cons_of_mem _ hj))
                obtain ⟨m, b1, b2⟩ := E.at g0
                rename_i v vs
                obtain ⟨w, z1, z2⟩ := b2.to (data_un gd)
                obtain ⟨b, xs, c1, c2, c3⟩ := h1
                rw [c1] at z1; cases z1
                obtain ⟨y1, y2⟩ := z2.dqz k hL gd (hb i List.mem_cons_self m b1)
                have y3 : Dq G (fzF F1 H1 L) v d := by
                  cases D with
                  | tuple ds =>
                    obtain ⟨b', ys, e1, e2, e3⟩ := dq_tup y1
                    cases e1
                    rw [(fzF_nx k hL).f _ _ c2] at e2
                    cases e2
                    obtain ⟨v', e4, e5⟩ := dqa_get e3 (show ds[k']? = some d from gk)
                    rw [c3] at e4; cases e4
                    exact e5
                  | _ => cases gk
                refine ⟨l, .cons (l := []) (.dat y3) a1, a2, a3, a4, fun j hj m' hm' a ha => ?_⟩
                rcases List.mem_cons.mp hj with rfl | z
                · rw [b1] at hm'; cases hm'; exact y2 a ha
                · exact a5 j z m' hm' a ha
/-- as and avs are alike -/
inductive Alike : List Am → List Av → Prop
  | nil : Alike [] []
  | d {f : Ev} {d : PyData} {as : List Am} {avs : List Av} : Alike as avs → Alike (.d f :: as) (.dat d :: avs)
  | m {i : Nat} {as : List Am} {avs : List Av} : Alike as avs → Alike (.m i :: as) (.mu i :: avs)
  | b {i : Nat} {as : List Am} {avs : List Av} : Alike as avs → Alike (.b i :: as) (.br i :: avs)
  | x {f : Ev} {a : Av} {as : List Am} {avs : List Av} : Alike as avs → (∀ i, a ≠ .mu i) → Alike (.x f :: as) (a :: avs)
theorem argX_mu {rs : Rs} {a : Av} (h : argX e rs = some a) (i : Nat) : a ≠ .mu i := by
  unfold argX at h
  split at h
  · cases h; exact fun z => nomatch z
  · split at h
    · cases h; exact fun z => nomatch z
    · cases h
  · cases h
theorem mus_nm {a : Av} {r : List Av} (h : ∀ i, a ≠ .mu i) : mus (a :: r) = mus r := by
  cases a with
  | mu i => exact absurd rfl (h i)
  | _ => rfl
theorem argsA_alike : ∀ {as : List Am} {avs : List Av} {e e2 : En}, argsA as e = .ok avs e2 → Alike as avs
  | [], avs, e, e2, h => by cases h; exact .nil
  | .d f :: as, avs, e, e2, h => by
    simp only [argsA] at h
    cases h1 : asD f e with
    | no => rw [h1] at h; cases h
    | exc _ _ => rw [h1] at h; cases h
    | ok d e1 =>
      rw [h1] at h
      have h : ((argsA as e1).bnd fun vs e2 => .ok (.dat d :: vs) e2) = Out.ok avs e2 := h
      cases h2 : argsA as e1 with
      | no => rw [h2] at h; cases h
      | exc _ _ => rw [h2] at h; cases h
      | ok vs e3 => rw [h2] at h; cases h; exact .d (argsA_alike h2)
  | .m i :: as, avs, e, e2, h => by
    simp only [argsA] at h
    split at h
    · cases h2 : argsA as e with
      | no => rw [h2] at h; cases h
      | exc _ _ => rw [h2] at h; cases h
      | ok vs e3 => rw [h2] at h; cases h; exact .m (argsA_alike h2)
    · cases h
  | .b i :: as, avs, e, e2, h => by
    simp only [argsA] at h
    split at h
    · cases h2 : argsA as e with
      | no => rw [h2] at h; cases h
      | exc _ _ => rw [h2] at h; cases h
      | ok vs e3 => rw [h2] at h; cases h; exact .b (argsA_alike h2)
    · cases h
  | .x f :: as, avs, e, e2, h => by
    simp only [argsA] at h
    cases h1 : f e with
    | no => rw [h1] at h; cases h
    | exc _ _ => rw [h1] at h; cases h
    | ok rs e1 =>
      rw [h1] at h
      have h : (match argX e1 rs with
        | some a => (argsA as e1).bnd fun vs e2 => .ok (a :: vs) e2
        | none => .no) = Out.ok avs e2 := h
      cases g : argX e1 rs with
      | none => rw [g] at h; cases h
      | some a =>
        rw [g] at h
        dsimp only at h
        cases h2 : argsA as e1 with
        | no => rw [h2] at h; cases h
        | exc _ _ => rw [h2] at h; cases h
        | ok vs e3 => rw [h2] at h; cases h; exact .x (argsA_alike h2) (argX_mu g)
theorem picked : ∀ {as : List Am} {avs : List Av} {pre vs : List V}, Alike as avs → AvsR G F s vs avs → (pick (pre ++ vs) (muPos pre.length as)).length = (mus avs).length ∧ ∀ (j k : Nat) w, (mus avs)[j]? = some k → (pick (pre ++ vs) (muPos pre.length as))[j]? = some w → s[k]? = some (some w)
  | [], _, pre, vs, .nil, h => ⟨rfl, fun j k w q => by simp [mus] at q⟩
  | .d f :: as, _, pre, _, .d ha, .cons (v := v) (vs := vs) h1 h2 => by
    have := picked (pre := pre ++ [v]) ha h2
    rw [List.length_append, List.append_assoc] at this
    exact this
  | .b i :: as, _, pre, _, .b ha, .cons (v := v) (vs := vs) h1 h2 => by
    have := picked (pre := pre ++ [v]) ha h2
    rw [List.length_append, List.append_assoc] at this
    exact this
  | .x f :: as, _, pre, _, .x ha hn, .cons (v := v) (vs := vs) h1 h2 => by
    have := picked (pre := pre ++ [v]) ha h2
    rw [List.length_append, List.append_assoc] at this
    rw [mus_nm hn]
    exact this
  | .m i :: as, _, pre, _, .m ha, .cons (v := v) (vs := vs) h1 h2 => by
    have := picked (pre := pre ++ [v]) ha h2
    rw [List.length_append, List.append_assoc] at this
    obtain ⟨p1, p2⟩ := this
    have e0 : pick (pre ++ v :: vs) (muPos pre.length (.m i :: as)) = v :: pick (pre ++ v :: vs) (muPos (pre.length + 1) as) := by
      show (match (pre ++ v :: vs)[pre.length]? with | some v' => v' :: _ | none => _) = _
      rw [List.getElem?_append_right (Nat.le_refl _), Nat.sub_self]
      rfl
    rw [e0]
    refine ⟨congrArg (· + 1) p1, fun j k w q1 q2 => ?_⟩
    cases j with
    | zero => simp [mus] at q1 q2; subst q1 q2; exact h1
    | succ j => exact p2 j k w (by simpa [mus] using q1) (by simpa using q2)
theorem mkNew_ok {v : V} {t : Tr} (h : NewOk G O H0 F H ls v t) : ResOk G O H0 F H s e ls v (mkNew t) := by
  cases t with
  | dat d =>
    obtain ⟨l, h1, _⟩ := h
    cases h1 with
    | dat h1 => exact h1
  | _ => exact h
theorem cutF_nil {F : Hp} : cutF F [] = F := by
  funext a
  unfold cutF
  simp
/-- taken out of what is frozen again -/
theorem nx_cut {L l : List Addr} (k : Ex F1 H1) (hL : ∀ a ∈ L, F1 a = none ∧ ∀ ps, H1 a ≠ some (.tbl ps)) (n : NxM (· ∈ l) (fzF F1 H1 L) H1 F2 H2) (hl : ∀ a ∈ L, ∃ ys, H1 a = some (.lst ys)) : NxM (· ∈ l) F1 H1 (cutF F2 L) H2 ∧ ∀ a ∈ L, ∃ ys, F2 a = some (.lst ys) := by
  have fz := fzF_nx (L := L) k hL
  have hF2 : ∀ a ∈ L, ∃ ys, F2 a = some (.lst ys) := fun a ha => by
    obtain ⟨ys, hy⟩ := hl a ha
    exact ⟨ys, n.f a _ ((fzF_in ha).trans hy)⟩
  refine ⟨⟨n.h, fun a o h => ?_, fun a o h => n.k a o (cutF_ex a o h), fun a o m h1 h2 w => ?_, n.th, fun P q t => by
    obtain ⟨y1, y2⟩ := n.tb P q (fz.tb P q t)
    exact ⟨y1, fun a ps z => y2.1 a ps (cutF_ex a _ z), y2.2⟩⟩, hF2⟩
  · have c : a ∉ L := fun z => by rw [(hL a z).1] at h; cases h
    unfold cutF
    rw [if_neg c]
    exact n.f a o (fz.f a o h)
  · unfold cutF
    split
    · rfl
    · rename_i c
      exact n.ap a o m ((fzF_out c).trans h1) h2 w
theorem snd_call {R : List Tr → Ret} {as : List Am} {ta : TA} {ms : List Nat} (ha : SndAA G W ta (argsA as)) (hp : muPos 0 as = ms) : SndV G W (tCallS (spR G ms R) (WE W) ta) (callV R as) := fun s F H e ls k E Q q => by
  refine ha s F H e ls k E _ (Post.mono q.bnd0 fun avs e1 ls1 F1 H1 ho T1 E1 p vs hvs => ?_)
  have hal := argsA_alike ho
  cases g : esOf e1 avs with
  | none => rw [g] at p; exact p.elim
  | some es =>
    rw [g] at p
    dsimp only at p
    split at p
    · rename_i hnd
      have ndm := (List.nodup_append.mp hnd).1
      have ndx : ∀ i ∈ mus avs, i ∉ brs avs := fun i h1 h2 => (List.nodup_append.mp hnd).2.2 i h1 i h2 rfl
      have hL : ∀ a ∈ adrs ls1 (brs avs), F1 a = none ∧ ∀ ps, H1 a ≠ some (.tbl ps) := fun a h => by
        obtain ⟨i, _, m, h1, h2⟩ := mem_adrs h
        exact ⟨(E1.adr ⟨i, m, h1, h2⟩).1, E1.ntb ⟨i, m, h1, h2⟩⟩
      obtain ⟨l, x1, x2, x3, x4, x5⟩ := es_ok (L := adrs ls1 (brs avs)) E1 T1.k hL hvs g ndm (fun i hi m hm a ham hb => by
        obtain ⟨j, hj, m', h1, h2⟩ := mem_adrs hb
        exact E1.ap i j m m' a (fun z => ndx i hi (z ▸ hj)) hm h1 ham h2) (fun i hi m hm a ham => adrs_mem hi hm ham)
      have hlst : ∀ a ∈ adrs ls1 (brs avs), ∃ ys, H1 a = some (.lst ys) := fun a h => by
        obtain ⟨i, hi, m, h1, h2⟩ := mem_adrs h
        exact x5 i hi m h1 a h2
      have fz := fzF_nx (L := adrs ls1 (brs avs)) T1.k hL
      have pk := picked (pre := []) hal hvs
      rw [List.length_nil, List.nil_append, hp] at pk
      obtain ⟨pk1, pk2⟩ := pk
      refine ⟨fzF F1 H1 (adrs ls1 (brs avs)), es, l, fz.k, x1, x2, fun pt hpt => fz.tb _ _ (E1.tb pt hpt), ?_⟩
      cases hR : R es with
      | no => rw [hR] at p; exact p.elim
      | ret t os =>
        rw [hR] at p
        dsimp only at p
        intro v F2 H2 n hret
        split at p
        · rename_i hlf
          obtain ⟨n', hF2⟩ := nx_cut T1.k hL n hlst
          obtain ⟨lt, lo, y1, y2, y3, y4⟩ := hret
          have cuts : TR G (cutF F2 (adrs ls1 (brs avs))) H2 v t lt ∧ TRs G (cutF F2 (adrs ls1 (brs avs))) H2 (pick vs ms) os lo := by
            rw [Bool.or_eq_true] at hlf
            rcases hlf with z | z
            · have : brs avs = [] := List.isEmpty_iff.mp z
              rw [this]
              show TR G (cutF F2 []) H2 v t lt ∧ TRs G (cutF F2 []) H2 (pick vs ms) os lo
              rw [cutF_nil]
              exact ⟨y1, y2⟩
            · rw [Bool.and_eq_true] at z
              exact ⟨y1.cut hF2 z.1, y2.cut hF2 z.2⟩
          obtain ⟨ls2, T2, E2, al⟩ := puts_ok E1 n' ndm x4 x3 pk2 pk1 cuts.2 (nodup_r y3) fun a ha => y4 a (List.mem_append_right _ ha)
          have lO : ∀ a ∈ l, Ow e1 ls1 a := fun a ha => by
            obtain ⟨i, hi, m, h1, h2⟩ := x3 a ha
            obtain ⟨t', ht'⟩ := x4 i hi
            exact ⟨i, t', m, ht', h1, h2⟩
          have nw : NewOk G (Ow e1 ls1) H1 (cutF F2 (adrs ls1 (brs avs))) H2 ls2 v t := ⟨lt, cuts.1, nodup_l y3, fun a ha => (y4 a (List.mem_append_left _ ha)).imp (lO a) id, fun a ha hm => by
            rcases al a hm with z | z
            · exact nodup_x y3 a ha z
            · rcases y4 a (List.mem_append_left _ ha) with w | w
              · exact z.2 w
              · exact (E1.adr z.1).2 w⟩
          exact p ls2 _ H2 (T1.trans T2) E2 v (mkNew_ok (nw.back' T1))
        · exact p.elim
      | exc x os =>
        rw [hR] at p
        dsimp only at p
        intro c d F2 H2 n hex
        split at p
        · rename_i hlf
          obtain ⟨n', hF2⟩ := nx_cut T1.k hL n hlst
          obtain ⟨lo, y2, y3, y4, y5, y6⟩ := hex
          have cuts : TRs G (cutF F2 (adrs ls1 (brs avs))) H2 (pick vs ms) os lo ∧ XR G (cutF F2 (adrs ls1 (brs avs))) H2 [lo] x c d := by
            rw [Bool.or_eq_true] at hlf
            rcases hlf with z | z
            · have : brs avs = [] := List.isEmpty_iff.mp z
              rw [this]
              show TRs G (cutF F2 []) H2 (pick vs ms) os lo ∧ XR G (cutF F2 []) H2 [lo] x c d
              rw [cutF_nil]
              exact ⟨y2, y5⟩
            · rw [Bool.and_eq_true] at z
              refine ⟨y2.cut hF2 z.2, y5.1, ?_⟩
              have y52 := y5.2
              have xf : x.fs = [] := List.isEmpty_iff.mp z.1
              cases d with
              | none => exact xf
              | some a =>
                obtain ⟨fs, w1, w2, w3, w4⟩ := y52
                refine ⟨fs, ex_free cutF_ex w1, w2, w3, ?_⟩
                rw [xf] at w4 ⊢
                cases fs with
                | nil => trivial
                | cons _ _ => exact w4.elim
          obtain ⟨ls2, T2, E2, al⟩ := puts_ok E1 n' ndm x4 x3 pk2 pk1 cuts.1 y3 y4
          refine p ls2 _ H2 c d (T1.trans T2) E2 ⟨cuts.2.1, ?_⟩ fun a ha => th_none T1.nx (y6 a ha)
          have y52 := cuts.2.2
          cases d with
          | none => exact y52
          | some a =>
            obtain ⟨fs, w1, w2, w3, w4⟩ := y52
            refine ⟨fs, w1, fun hm => ?_, w3, w4⟩
            rcases al a hm with z | z
            · exact w2 ⟨0, lo, rfl, z⟩
            · exact (E1.adr z.1).2 (y6 a rfl)
        · exact p.elim
    · exact p.elim
/-! ### the rules -/
structure JAm (X : Cx) (cl : Str → Addr) (W : WX) (es : List Expr) (as : List Am) : Prop where
  p : ∃ ta, PA X es ta ∧ SndAA (GX X cl) W ta (argsA as)
section
variable {X : Cx} {cl : Str → Addr} {n : Nat} {a : Expr} {es : List Expr} {f : Ev} {as : List Am} {pos p : Pos}
theorem jm_nil : JAm X cl W [] [] := ⟨_, pa_nil, snd_aanil⟩
theorem jm_d (h : JE X cl W a f) (hr : JAm X cl W es as) (hs : starEach (a :: es) X.env = (false, eval a X.env) :: starEach es X.env := by rfl) : JAm X cl W (a :: es) (.d f :: as) := let ⟨_, p1, s1⟩ := h.p; let ⟨_, p2, s2⟩ := hr.p; ⟨_, pa_cons p1 p2 hs, snd_aad s1 s2⟩
theorem jm_m (i : Nat) {x : Str} {px : Pos} (hr : JAm X cl W es as) (hN : X.N[i]? = some x := by rfl) (hv : Vis X.env.scope x := by first | exact Or.inl rfl | exact Or.inr (Or.inl rfl) | exact Or.inr (Or.inr rfl)) (hd : (x == ("__debug__" : Str)) = false := by decide) (hcd : (x == ("__classdict__" : Str)) = false := by decide) (hs : starEach (.Name x px :: es) X.env = (false, eval (.Name x px) X.env) :: starEach es X.env := by rfl) : JAm X cl W (.Name x px :: es) (.m i :: as) := let ⟨_, p2, s2⟩ := hr.p; ⟨_, pa_cons (pe_var hN hv hd hcd) p2 hs, snd_aam s2⟩
theorem run_fnG {pins : List (Addr × Obj)} {σ : L2.St} {H : Hp} {s : Shared} {Q : VK} {us : List Value} {vs : List V} {CX : CXT} {k : Nat} {fa : Addr} {fd : FuncData} {ps : List Str} {sp : Sp} {E : L2.St → XK} (Fn : FnG X.prog X.w X.K X.mg X.base CX k fa fd ps sp) (hg : X.A.guards = some []) (hr : Room k X.A) (hb : Binds X.K fd ps []) (hx : PassesAt CX X σ (E σ))
    (I : Inv X pins σ H s) (r : Vals vs us) (h : sp vs H Q (E σ)) : wpAny (model X.prog X.w) X.A (call (.ref fa) us) (EP X pins σ Q) X.xe s := by
  have hl : us.length = ps.length := by rw [← r.length]; exact Fn.len _ _ _ _ h
  have b := hb s us I.kIn (by rw [List.append_nil]; exact hl)
  rw [List.append_nil] at b
  refine wpAny_call (codeAny_mono (Fn.run X.A X.stack s H ⟨us, []⟩ us vs Q (E σ) hg hr I.env0 b r h) fun r s' hq => ?_)
  cases r with
  | error e => exact hx pins H s e s' I hq
  | ok fl =>
    cases fl with
    | ret u => exact I.after hq
    | next => exact False.elim hq
    | brk => exact False.elim hq
    | cont => exact False.elim hq
theorem pe_callG {CX : CXT} {k : Nat} {fa : Addr} {fd : FuncData} {ps : List Str} {sp : Sp} {E : L2.St → XK} {x : Str} {t : TA} (Fn : FnG X.prog X.w X.K X.mg X.base CX k fa fd ps sp) (hgd : X.A.guards = some []) (hr : Room k X.A) (hg : Gl X x) (hm : X.mg x = some (.ref fa)) (hk : PySem.W.keepIn X.K (.ref fa) = true) (hb : Binds X.K fd ps []) (hx : ∀ σ, PassesAt CX X σ (E σ))
    (ha : PA X (a :: es) t) (hdb : (x == ("__debug__" : Str)) = false := by decide) (he : starEach (a :: es) X.env = (false, eval a X.env) :: starEach es X.env := by rfl) (hpl : (backTo pos (starEach es X.env)).any (·.1) = false := by rfl) :
    PE X (.Call (.Name x p) (a :: es) [] pos) (tCallS sp E t) := by
  refine ⟨fun pins s σ H Q I h => wpAny_Call_Name_kw (ld_glob I hg hm ?_ hdb)⟩
  refine PySem.W.callWith_K (h₀ := X.base) I.ok.mod.kin hk (thn (ha.run pos pins s σ H _ I h) fun us s1 ⟨vs, H1, I1, r, q⟩ => ⟨I1.kIn, ?_⟩) he hpl
  exact run_fnG Fn hgd hr hb (hx σ) I1 r q
/-- f(e, ..) -/
theorem je_call {k : Nat} {fa : Addr} {fd : FuncData} {ps : List Str} {x : Str} {Rf : List Tr → Ret} {ms : List Nat} (c : Cok X W n) (Fn : FnG X.prog X.w X.K X.mg X.base (L2.CX X.prog X.w) k fa fd ps (spR (GX X cl) ms Rf)) (hkn : k ≤ n) (hm : X.mg x = some (.ref fa)) (hk : PySem.W.keepIn X.K (.ref fa) = true) (hb : Binds X.K fd ps []) (ha : JAm X cl W (a :: es) as) (hp : muPos 0 as = ms)
    (hg : Gl X x := by rfl) (hdb : (x == ("__debug__" : Str)) = false := by decide) (he : starEach (a :: es) X.env = (false, eval a X.env) :: starEach es X.env := by rfl) (hpl : (backTo pos (starEach es X.env)).any (·.1) = false := by rfl) : JE X cl W (.Call (.Name x p) (a :: es) [] pos) (callV Rf as) :=
  let ⟨_, p1, s1⟩ := ha.p; ⟨_, pe_callG Fn c.gd (c.room.mono hkn) hg hm hk hb (fun σ => passAt c.tk σ) p1 hdb he hpl, snd_call s1 hp⟩
end
end R

/-! Dicts with keys that are ints and texts. -/
namespace R
open PySem PySem.Spec PyProof.Rows L2
open Evl (Ex)
variable {G : Gs} {W : WX} {F H F1 H1 F2 H2 F3 H3 H0 : Hp} {M O : Addr → Prop} {s s1 s2 s3 : L2.St} {e e1 e2 e3 : En} {ls ls1 ls2 ls3 : Ls} {ms : List Nat} {D D' : Ends}
abbrev Kvs := List (Key × PyData)
def valD {κ : Type} [DecidableEq κ] (kvs : List (κ × PyData)) (k : κ) : Option PyData := (kvs.find? fun kv => decide (kv.1 = k)).map (·.2)
def putD {κ : Type} [DecidableEq κ] (kvs : List (κ × PyData)) (k : κ) (v : PyData) : List (κ × PyData) := if (kvs.any fun kv => decide (kv.1 = k)) = true then kvs.map (fun kv => if kv.1 = k then (kv.1, v) else kv) else kvs ++ [(k, v)]
def keyOf : PyData → Option Key
  | .int i => some (.inl i)
  | .str x => some (.inr x)
  | _ => none
theorem KvR.len {κ : Type} : ∀ {ks : List (κ × V)} {kvs : List (κ × PyData)}, KvR G F ks kvs → ks.length = kvs.length
  | [], [], _ => rfl
  | (_, _) :: ks, (_, _) :: kvs, ⟨_, _, h⟩ => congrArg (· + 1) (KvR.len h)
  | [], _ :: _, h => h.elim
  | _ :: _, [], h => h.elim
theorem KvR.any {κ : Type} [DecidableEq κ] {k : κ} : ∀ {ks : List (κ × V)} {kvs : List (κ × PyData)}, KvR G F ks kvs → (ks.any fun kv => decide (kv.1 = k)) = (kvs.any fun kv => decide (kv.1 = k))
  | [], [], _ => rfl
  | (_, _) :: ks, (_, _) :: kvs, ⟨e, _, h⟩ => by rw [List.any_cons, List.any_cons, KvR.any h, e]
  | [], _ :: _, h => h.elim
  | _ :: _, [], h => h.elim
theorem KvR.app {κ : Type} : ∀ {ks ks2 : List (κ × V)} {kvs kvs2 : List (κ × PyData)}, KvR G F ks kvs → KvR G F ks2 kvs2 → KvR G F (ks ++ ks2) (kvs ++ kvs2)
  | [], _, [], _, _, h => h
  | (_, _) :: ks, _, (_, _) :: kvs, _, ⟨e, d, h⟩, g => ⟨e, d, KvR.app h g⟩
  | [], _, _ :: _, _, h, _ => h.elim
  | _ :: _, _, [], _, h, _ => h.elim
theorem KvR.mapPut {κ : Type} [DecidableEq κ] {k : κ} {v : V} {d : PyData} (hv : Dq G F v d) : ∀ {ks : List (κ × V)} {kvs : List (κ × PyData)}, KvR G F ks kvs → KvR G F (ks.map fun kv => if kv.1 = k then (kv.1, v) else kv) (kvs.map fun kv => if kv.1 = k then (kv.1, d) else kv)
  | [], [], _ => trivial
  | (a, b) :: ks, (a', b') :: kvs, ⟨e1, d1, h1⟩ => by
    subst e1
    rw [List.map_cons, List.map_cons]
    by_cases c : a = k
    · rw [if_pos c, if_pos c]; exact ⟨rfl, hv, KvR.mapPut hv h1⟩
    · rw [if_neg c, if_neg c]; exact ⟨rfl, d1, KvR.mapPut hv h1⟩
  | [], _ :: _, h => h.elim
  | _ :: _, [], h => h.elim
theorem KvR.put {κ : Type} [DecidableEq κ] {k : κ} {v : V} {d : PyData} {ks : List (κ × V)} {kvs : List (κ × PyData)} (h : KvR G F ks kvs) (hv : Dq G F v d) : KvR G F (putK ks k v) (putD kvs k d) := by
  unfold putK putD
  rw [h.any]
  split
  · exact h.mapPut hv
  · exact h.app ⟨rfl, hv, trivial⟩
theorem KvR.val {κ : Type} [DecidableEq κ] {k : κ} : ∀ {ks : List (κ × V)} {kvs : List (κ × PyData)}, KvR G F ks kvs → (valD kvs k = none ∧ valV ks k = none) ∨ ∃ v d, valD kvs k = some d ∧ valV ks k = some v ∧ Dq G F v d
  | [], [], _ => .inl ⟨rfl, rfl⟩
  | (a, v) :: ks, (a', d) :: kvs, ⟨e1, d1, h⟩ => by
    subst e1
    by_cases c : a = k
    · right
      exact ⟨v, d, by simp [valD, List.find?_cons, c], valV_pos c, d1⟩
    · rcases KvR.val (k := k) h with ⟨w1, w2⟩ | ⟨v', d', w1, w2, w3⟩
      · left
        refine ⟨by simpa [valD, List.find?_cons, c] using w1, by simpa [valV, List.find?_cons, c] using w2⟩
      · right
        exact ⟨v', d', by simpa [valD, List.find?_cons, c] using w1, by simpa [valV, List.find?_cons, c] using w2, w3⟩
  | [], _ :: _, h => h.elim
  | _ :: _, [], h => h.elim
/-! ### in, d[k] -/
def dicR (e : En) (r : Rs) : Option Kvs := match getR e r with
  | some (.dic kvs) => some kvs
  | _ => none
def dinB (neg : Bool) (f g : Ev) (e : En) : Out Rs := (twoF f g e).bnd fun p e2 => match (rdS e2 p.1).bind keyOf, dicR e2 p.2 with
  | some k, some kvs => .ok (.dat (.bool (if neg then !(valD kvs k).isSome else (valD kvs k).isSome))) e2
  | _, _ => .no
def dgetV (f g : Ev) (e : En) : Out Rs := (twoF f g e).bnd fun p e2 => match dicR e2 p.1, (rdS e2 p.2).bind keyOf with
  | some kvs, some k => match valD kvs k with
    | some d => .ok (.dat d) e2
    | none => .no
  | _, _ => .no
/-! ### new ones -/
def dnewV (e : En) : Out Rs := .ok (.new (.dic [])) e
/-- {k: v} -/
def ddisp1 (f g : Ev) (e : En) : Out Rs := (asD f e).bnd fun d e1 => (asD g e1).bnd fun d2 e2 => match keyOf d with
  | some k => .ok (.new (.dic [(k, d2)])) e2
  | none => .no
/-! ### d[k] = x -/
def dputS (o i f : Ev) (e : En) : So := (asD f e).so fun d e1 => (twoF o i e1).so fun p e2 => match (rdS e2 p.2).bind keyOf with
  | some ky => match p.1 with
    | .pl k pa => match getPl e2 k pa with
      | some (.dic kvs) => if isO e2 k && lenOk kvs.length then .nx (putPl e2 k pa (.dic (putD kvs ky d))) else .no
      | _ => .no
    | _ => .no
  | _ => .no
section
variable {X : Cx} {cl : Str → Addr} {n : Nat} {a b c tg ex o i : Expr} {f g fo fi : Ev} {pos p2 p : Pos}
end
end R

/-! Dict comprehensions; len(set(..)); what is shown; list(range(..)). -/
namespace R
open PySem PySem.Spec PyProof.Rows L2
open Evl (Ex)
variable {G : Gs} {W : WX} {F H F1 H1 F2 H2 F3 H3 H0 : Hp} {M O : Addr → Prop} {s s1 s2 s3 : L2.St} {e e1 e2 e3 : En} {ls ls1 ls2 ls3 : Ls} {ms : List Nat} {D D' : Ends}
def dcF (vs : List Nat) (g : Tg) (c : Et) (fk fv : Ev) : List PyData → Kvs → En → Out Kvs
  | [], acc, e => .ok acc e
  | d :: ds, acc, e => match bindG g d e with
    | none => .no
    | some e1 => (c e1).noX.bnd fun b e2 => if b then ((asD fk e2).noX.bnd fun y e3 => (asD fv e3).noX.bnd fun z e4 => match keyOf y with
      | some k => if lenOk acc.length then dcF vs g c fk fv ds (putD acc k z) (wipeE e4 vs) else .no
      | none => .no) else dcF vs g c fk fv ds acc (wipeE e2 vs)
def dcV (vs : List Nat) (g : Tg) (it : Ei) (c : Et) (fk fv : Ev) (e : En) : Out Rs := (it e).bnd fun ds e1 =>
  if wipeOk e1 vs then (dcF vs g c fk fv ds [] (wipeE e1 vs)).bnd fun acc e2 => .ok (.new (.dic acc)) (unwipe e1 e2 vs)
  else .no
structure DcAt (G : Gs) (vs : List Nat) (g : Tg) (c : Et) (fk fv : Ev) (ds : List PyData) (s : L2.St) (e1 : En) (ls1 : Ls) (F1 H1 : Hp) (D : Addr) (accF : Kvs) (eF : En) (i : Nat) (H' : Hp) (F' : Hp) (e' : En) (ls' : Ls) (acc : Kvs) (ks : List (Key × V)) : Prop where
  T : Stp (wipeE e1 vs) (wipeL ls1 vs) F1 H1 (L2.wipe s vs) e' ls' F' H' (L2.wipe s vs)
  E : Env G F' H' (L2.wipe s vs) e' ls'
  d1 : F' D = none
  d2 : H' D = some (.dK ks)
  d3 : ¬ All ls' D
  n : KvR G F' ks acc
  r : dcF vs g c fk fv (ds.drop i) acc e' = .ok accF eF
section
variable {X : Cx} {cl : Str → Addr} {n : Nat} {tg : Expr} {fk fv : Ev} {pos : Pos} {it : Ei}
end
end R

/-! len(set(..)); what is shown; list(range(..)); the end of a law. -/
namespace R
open PySem PySem.Spec PyProof.Rows L2
open Evl (Ex)
variable {G : Gs} {W : WX} {F H F1 H1 F2 H2 F3 H3 H0 : Hp} {M O : Addr → Prop} {s s1 s2 s3 : L2.St} {e e1 e2 e3 : En} {ls ls1 ls2 ls3 : Ls} {ms : List Nat} {D D' : Ends}
/-! ### len(set(xs)) -/
section
variable {X : Cx} {P : Program} {w : World}
end
/-! ### what is shown -/
def rShow (K : PySem.W.Frag) : List V → Hp → VK → Prop := fun xs H Q => ∃ a d, xs = [.ref a] ∧ Dp K H (.ref a) d ∧ d.showable = true ∧ d.hasDict = false ∧ d.depth ≤ 30 ∧ d.shown.length ≤ sizeLine ∧ Q (.str d.shown) H
section
variable {X : Cx}
theorem cStrD (hg : X.A.guards = some []) (hu : X.A.units + 64 < cLine) : CallR X (.type "str") (rShow X.K) := by
  intro pins s σ H xs us Q I r h
  obtain ⟨a, d, rfl, hd, h1, h2, h3, h4, q⟩ := h
  cases r with
  | cons r1 r2 =>
    cases r2
    cases (show _ = Value.ref a from r1)
    obtain ⟨as, rd⟩ := Dp.reads I d (.ref a) (.ref a) hd rfl
    exact str_of_reads rd h1 (PyData.noDict_hsm h2) hg (by omega) (fun _ _ e => e) (fun h' u tk hk => ⟨.str d.shown, H, I.kept hk, ⟨_, rfl⟩, q⟩) h4
theorem cReprD (hg : X.A.guards = some []) (hu : X.A.units + 64 < cLine) : CallR X (.builtin "repr") (rShow X.K) := by
  intro pins s σ H xs us Q I r h
  obtain ⟨a, d, rfl, hd, h1, h2, h3, h4, q⟩ := h
  cases r with
  | cons r1 r2 =>
    cases r2
    cases (show _ = Value.ref a from r1)
    obtain ⟨as, rd⟩ := Dp.reads I d (.ref a) (.ref a) hd rfl
    exact repr_of_reads' rd h1 (PyData.noDict_hsm h2) hg (by omega) (fun _ _ e => e) (fun h' u tk hk => ⟨.str d.shown, H, I.kept hk, ⟨_, rfl⟩, q⟩) h4
end
def isSeq : PyData → Bool
  | .list _ => true
  | .tuple _ => true
  | _ => false
/-- the text of a list or tuple -/
def showF (d : PyData) : Option PyData := if isSeq d && d.showable && !d.hasDict && decide (d.depth ≤ 30) && lenOk d.shown.length then some (.str d.shown) else none
mutual
theorem nx_hd : ∀ {d : PyData}, d.hasDict = false → nx d = true
  | .none, _ => by simp [nx]
  | .bool _, _ => by simp [nx]
  | .int _, _ => by simp [nx]
  | .str _, _ => by simp [nx]
  | .list ds, h => by
    simp only [PyData.hasDict] at h
    simp only [nx]
    exact nxs_hd h
  | .tuple ds, h => by
    simp only [PyData.hasDict] at h
    simp only [nx]
    exact nxs_hd h
  | .dict _, h => by simp [PyData.hasDict] at h
theorem nxs_hd : ∀ {ds : List PyData}, PyData.hasDictAll ds = false → nxs ds = true
  | [], _ => by simp [nxs]
  | d :: ds, h => by
    simp only [PyData.hasDictAll, Bool.or_eq_false_iff] at h
    simp only [nxs, Bool.and_eq_true]
    exact ⟨nx_hd h.1, nxs_hd h.2⟩
end
theorem rv_show : Rv1D G (fun x H Q => rShow G.K [x] H Q) showF := fun H a x z ha q Q hq => by
  unfold showF at q
  split at q
  · rename_i hc
    simp only [Bool.and_eq_true] at hc
    obtain ⟨⟨⟨⟨c1, c2⟩, c3⟩, c4⟩, c5⟩ := hc
    cases q
    have : ∃ b, a = .ref b := by
      cases ha <;> first | (cases c1; done) | exact ⟨_, rfl⟩
    obtain ⟨b, rfl⟩ := this
    exact ⟨b, x, rfl, ha.p (nx_hd (by simpa using c3)), c2, by simpa using c3, of_decide_eq_true c4, len_line c5, hq _ fun _ => .str _⟩
  · cases q
/-- str(n) -/
def strIF : PyData → Option Rz
  | .int n => if bigB n then some (.dat (.str (Str.ofString (toString n)))) else none
  | _ => none
/-! ### list(range(..)) -/
section
variable {X : Cx} {cl : Str → Addr} {n : Nat} {a b : Expr} {f g : Ev} {pos p p2 q : Pos}
theorem je_strI (hm : X.mg "str" = none) (h : JE X cl W a f) (hg : Gl X "str" := by rfl) (hs : starEach [a] X.env = (false, eval a X.env) :: starEach [] X.env := by rfl) : JE X cl W (.Call (.Name "str" p) [a] [] pos) (op1 strIF f) := let ⟨_, p1, s1⟩ := h.p; ⟨_, pe_callTy call_str_int hg hm (by decide +kernel) (pa_cons p1 pa_nil hs) (by decide) (by decide) hs rfl, snd_op1 (G := GX X cl) s1 fun F H a x z k ha q Q hq => by
  cases ha with
  | int i =>
    simp only [strIF] at q
    split at q
    · rename_i hb
      cases q
      have := big_log hb
      exact ⟨i, rfl, by omega, hq _ F H (rz_now k (.str _))⟩
    · cases q
  | _ => cases q⟩
end
/-! ### the law's own call -/
section
variable {P : Program} {w : World} {mg mb : Str → Option Value} {K : PySem.W.Frag}
theorem law_callG {k : Nat} {fa a : Addr} {fd : FuncData} {v0 : Str} {sp : Sp} {s1 : Shared} {us : List Value} {ns : List Int}
    (hK : K.In s1.heap) (hm : s1.heap.Ns mainGlobals mg) (hb : s1.heap.Ns builtinsNs mb) (hb2 : ∀ y : Str, y ≠ "__name__" → mb y = bootBuiltins y) (hli : s1.heap.NoLimit) (hge : s1.gens = #[])
    (hob : s1.heap.get? a = some { cls := .type "list", data := .seq us.toArray }) (hin : IntsAre us ns) (hz : ns.length ≤ sizeLine) (hr : Room k callerA)
    (Gf : ∀ base : Heap, K.In base → base.Ns mainGlobals mg → FnG P w K mg base (L2.CX P w) k fa fd [v0] sp) (hbd : ∀ (s : Shared) (u : Value), BindsTo s fd ⟨[u], []⟩ [(v0, u)])
    (hsp : ∀ H : Hp, SqL K H a (ns.map V.int) → sp [.ref a] H (fun v _ => v = .bl true) fun _ _ _ => False) :
    codeAny (model P w) callerA (.call (.ref fa) ⟨[.ref a], []⟩) (fun r s' => r = .ok (.ret (.bool true)) ∧ OldK s1.heap s'.heap ∧ s'.os = s1.os ∧ AllBare s'.gens) s1 := by
  let ob : Obj := { cls := .type "list", data := .seq us.toArray }
  let H : Hp := fun b => if b = a ∧ K.lookup a = none then some (.frz ob (.lst (ns.map V.int))) else none
  have vals : Vals (ns.map V.int) us := vals_ints hin
  have len : us.length = ns.length := hin.length
  have inv : ∀ b u, H b = some u → b = a ∧ K.lookup a = none ∧ u = .frz ob (.lst (ns.map V.int)) := fun b u z => by
    by_cases c : b = a ∧ K.lookup a = none
    · have z2 : some (HO.frz ob (.lst (ns.map V.int))) = some u := by rw [← z]; exact (if_pos c).symm
      exact ⟨c.1, c.2, (Option.some.inj z2).symm⟩
    · have z2 : (none : Option HO) = some u := by rw [← z]; exact (if_neg c).symm
      cases z2
  have hok : HOk P w H s1.heap := fun b u z => by
    obtain ⟨rfl, _, rfl⟩ := inv b u z
    exact ⟨hob, by rw [List.length_map]; exact hz, us, _, vals, hob⟩
  have hS : SqL K H a (ns.map V.int) := by
    cases lk : K.lookup a with
    | none => exact .inl (.inr ⟨ob, if_pos ⟨rfl, lk⟩⟩)
    | some o =>
      have e := hK a o lk
      rw [hob] at e
      cases e
      exact .inr ⟨_, us.toArray, _, lk, rfl, rfl, rfl, by rw [List.size_toArray, len]; exact hz, by simpa using vals⟩
  have dn : ∀ {b : Addr} {o : Obj} {es : Array DictEntry} {n : Nat}, s1.heap.get? b = some o → o.data = .dict es n → H b = none := fun {b o es n} e d => by
    cases q : H b with
    | none => rfl
    | some u =>
      obtain ⟨rfl, _, _⟩ := inv b u q
      rw [hob] at e
      cases e
      cases (show Data.seq us.toArray _ = Data.dict es n from d)
  have tr : ∀ {b : Addr} {m : Str → Option Value}, s1.heap.Ns b m → (hidT s1.heap H).Ns b m := fun ⟨o, es, n, e, d, r⟩ => ⟨o, es, n, hidT_get e (dn e d), d, r⟩
  have hKb : K.In (hidT s1.heap H) := fun b o e => hidT_get (hK b o e) (by
    cases q : H b with
    | none => rfl
    | some u =>
      obtain ⟨rfl, lk, _⟩ := inv b u q
      rw [lk] at e
      cases e)
  have e0 : Env0 P w K mg (hidT s1.heap H) callerA [] s1 H :=
    { frames := rfl, mod := ⟨hKb, tr hm, ⟨mb, tr hb, hb2⟩, let ⟨mc, x1, x2⟩ := hli; ⟨mc, tr x1, x2⟩⟩, bs := fun b o e => of_hidT e, bsz := Nat.le_of_eq (hidT_size _ _), funs := trivial, frf := (fun b z => nomatch (show b ∈ ([] : List Addr) from z)), hok := hok, bare := .of_eq hge }
  have run := (Gf _ hKb (tr hm)).run callerA [] s1 H ⟨[.ref a], []⟩ [.ref a] [.ref a] _ _ rfl hr e0 (hbd s1 (.ref a)) (.cons rfl .nil) (hsp H hS)
  refine codeAny_mono run fun r s' z => ?_
  match r, z with
  | .error _, z =>
    obtain ⟨_, _, _, _, _, _, _, _, _, _, _, _, z⟩ := z
    exact z.elim
  | .ok .next, z => exact (show False from z).elim
  | .ok .brk, z => exact (show False from z).elim
  | .ok .cont, z => exact (show False from z).elim
  | .ok (.ret u), z =>
    obtain ⟨v, H2, x1, x2, un, hok2, rel, x3⟩ := z
    cases (show v = .bl true from x3)
    cases (show u = Value.bool true from rel)
    refine ⟨rfl, OldK.of_keep fun b o e => ?_, x1, x2⟩
    cases q : H b with
    | none => exact un.keep b o e q (fun z => nomatch (show b ∈ ([] : List Addr) from z)) (by simp)
    | some u =>
      obtain ⟨rfl, _, rfl⟩ := inv b u q
      have y1 := (hok b _ q).1
      have y2 := (hok2 b _ (un.frzs b ob _ q)).1
      rw [e] at y1
      cases y1
      exact y2
end
theorem walk_ofG {l : PySem.W.OpenLaw} {n k : Nat} {q : Program} {loose : List Str} {XP : (Str → Option Value) → Heap → Prop} {YP : World → Heap → Prop} {df : DefRec} {v0 : Str}
    (hn : l.most = some n) (hn2 : n ≤ sizeLine) (hdf : df.params.defaults = []) (hr : Room k callerA)
    (F : ∀ (w : World) (mg : Str → Option Value) (fa : Addr) (h : Heap), YP w h → h.Ns mainGlobals mg → mg df.name = some (.ref fa) →
      ∃ (K : PySem.W.Frag) (fd : FuncData) (sp : Sp), K.In h ∧ (∀ (s : Shared) (u : Value), BindsTo s fd ⟨[u], []⟩ [(v0, u)]) ∧
        (∀ (H : Hp) (a : Addr) (ns : List Int), ns.length ≤ n → SqL K H a (ns.map V.int) → sp [.ref a] H (fun v _ => v = .bl true) fun _ _ _ => False) ∧
        ∀ base : Heap, K.In base → base.Ns mainGlobals mg → FnG l.prog w K mg base (L2.CX l.prog w) k fa fd [v0] sp) :
    PySem.W.WalkO q loose XP YP l.row.toRowW df [] (fun f vs => PySem.call f vs) :=
  Att.attach_call hn hdf fun w s0 s1 mg mb fa o pm cd doc a vs ns G Y ho hd hcd hmg hobj hints hlen hg => by
    obtain ⟨K, fd, sp, KX, hb, hsp, hF⟩ := F w mg fa _ Y G.T.g hmg
    exact law_callG KX G.T.g G.T.b G.T.builtins G.T.nolimit hg hobj hints (Nat.le_trans hlen hn2) hr hF hb fun H hS => hsp H a ns hlen hS
def cutT (H : Hp) : Hp := fun a => match H a with
  | some (.tbl _) => none
  | o => o
theorem cutT_ex {H : Hp} : Ex (cutT H) H := fun a o h => by
  unfold cutT at h
  cases q : H a with
  | none => rw [q] at h; cases h
  | some u => cases u <;> rw [q] at h <;> first | exact h | cases h
theorem cutT_nt {H : Hp} : ∀ a ps, cutT H a ≠ some (.tbl ps) := fun a ps z => by
  unfold cutT at z
  cases q : H a with
  | none => rw [q] at z; cases z
  | some u => cases u <;> rw [q] at z <;> cases z
theorem cutT_sq {K : PySem.W.Frag} {H : Hp} {a : Addr} {xs : List V} (h : SqL K H a xs) : SqL K (cutT H) a xs := by
  rcases h with (h | ⟨o, h⟩) | h
  · exact .inl (.inl (by unfold cutT; rw [h]))
  · exact .inl (.inr ⟨o, by unfold cutT; rw [h]⟩)
  · exact .inr h
/-- the promise of the law itself, once the interpreter says True -/
theorem law_sp {K : PySem.W.Frag} {cl : Str → Addr} {Rf : List Tr → Ret} {os : List Tr} {H : Hp} {a : Addr} {ns : List Int} (hS : SqL K H a (ns.map V.int)) (hT : ∀ p ∈ Gs.T ⟨K, cl⟩, TabS H p.1 lamQ ∧ ∀ a ps, H a = some (.tbl ps) → a = p.1) (hR : Rf [.scr ns] = .ret (.dat (.bool true)) os) : spR ⟨K, cl⟩ [0] Rf [.ref a] H (fun v _ => v = .bl true) fun _ _ _ => False := by
  refine ⟨cutT H, [.scr ns], [], cutT_ex, .cons (l := []) (.scr (cutT_sq hS)) .nil, List.nodup_nil, fun p hp => ⟨(hT p hp).1, cutT_nt, (hT p hp).2⟩, ?_⟩
  rw [hR]
  intro v F2 H2 _ h
  obtain ⟨lt, lo, h1, _⟩ := h
  cases h1 with
  | dat h1 => exact dq_bl h1
theorem fnG_no {P : Program} {w : World} {K : PySem.W.Frag} {mg : Str → Option Value} {base : Heap} {CX : CXT} {k : Nat} {f : Addr} {fd : FuncData} {ps : List Str} {G : Gs} {ms : List Nat} : FnG P w K mg base CX k f fd ps (spR G ms fun _ => .no) :=
  ⟨fun vs H Q E h => by obtain ⟨_, _, _, _, _, _, _, z⟩ := h; exact z.elim, fun A outer s H args us vs Q E _ _ _ _ _ h => by obtain ⟨_, _, _, _, _, _, _, z⟩ := h; exact z.elim⟩
end R

/-! More rules: two at once, +=, a text that stands alone, pop at a place. -/
namespace R
open PySem PySem.Spec PyProof.Rows L2
open Evl (Ex)
variable {G : Gs} {W : WX} {F H F1 H1 F2 H2 F3 H3 H0 : Hp} {M O : Addr → Prop} {s s1 s2 s3 : L2.St} {e e1 e2 e3 : En} {ls ls1 ls2 ls3 : Ls} {ms : List Nat} {D D' : Ends}
section
variable {X : Cx} {cl : Str → Addr} {n : Nat} {a b c tg ex : Expr} {es : List Expr} {f g : Ev} {fs : List Ev} {t u : Et} {pos p apos spos : Pos} {it : Ei} {st : Stmt} {sts : List Stmt} {fa fb : Es}
theorem js_par {i j : Nat} {x y : Str} {px py pt : Pos} {kt k2 pt2} (k : Cok X W n) (hN : X.N.Nodup) (hi : X.N[i]? = some x) (hj : X.N[j]? = some y) (hij : i ≠ j) (hx : X.env.scope.names.lookup x = some .local) (hy : X.env.scope.names.lookup y = some .local)
    (hmi : ms.contains i = false) (hmj : ms.contains j = false) (ha : JA X cl W [a, b] [f, g])
    (hw : swappedStores [.Tuple [.Name x px, .Name y py] kt pt] (.Tuple [a, b] k2 pt2) X.env = pure (some [x, y]) := by rfl)
    (hs : swapsWithSole [.Tuple [.Name x px, .Name y py] kt pt] (.Tuple [a, b] k2 pt2) pos.line X.env = pure false := by rfl) :
    JS X cl W ms (.Assign [.Tuple [.Name x px, .Name y py] kt pt] (.Tuple [a, b] k2 pt2) pos) (parS i j f g) :=
  let ⟨_, p1, s1, _⟩ := ha.p; ⟨_, ps_par k.calm hN hi hj hij hx hy p1 hw hs, snd_par s1 hmi hmj⟩
end
/-- to a tuple of names, what comes is data -/
def asgD (g : Tg) (f : Ev) (e : En) : So := (asD f e).so fun d e1 => match bindG g d e1 with
  | some e2 => .nx e2
  | none => .no
theorem snd_asgD {te : TE} {tg : TG} {g : Tg} {f : Ev} (h : SndV G W te f) (hg : SndG G tg g) (hi : ∀ i ∈ g.ns, ms.contains i = false) : SndS G W ms (tAsg te tg) (asgD g f) := fun s F H e ls D k E q => by
  refine h.dat s F H e ls k E _ (Post.mono (Post.so0 q) fun d e1 ls1 F1 H1 _ T1 E1 p v hd => ?_)
  cases g2 : bindG g d e1 with
  | none => rw [g2] at p; exact p.elim
  | some e2 =>
    rw [g2] at p
    exact hg s F1 H1 e1 ls1 v d e2 T1.k E1 hd g2 _ fun s2 ls2 T2 E2 _ sn => p s2 ls2 F1 H1 (T1.trans T2) E2 (kp_ns hi sn)
section
variable {X : Cx} {cl : Str → Addr} {n : Nat} {a b c tg ex : Expr} {es : List Expr} {f g : Ev} {fs : List Ev} {t u : Et} {pos p apos spos : Pos} {it : Ei} {st : Stmt} {sts : List Stmt} {fa fb : Es}
theorem js_unpackD {gs : Tgs} {kk : Nat} {pt : Pos} (k : Cok X W n) (hg : JN X es gs) (h : JE X cl W ex f) (hno : namesOnly gs = true) (hms : ∀ i ∈ gs.ns, ms.contains i = false) (hn : (assignEach es X.env).length = gs.len := by rfl) (hst : (assignEach es X.env).findIdx? (·.1) = none := by rfl)
    (hs : swapsWithSole [.Tuple es kk pt] ex pos.line X.env = pure false := by rfl) (hw : swappedStores [.Tuple es kk pt] ex X.env = pure none := by rfl) (h1 : (assignEach [.Tuple es kk pt] X.env).map (·.2) = [assign (.Tuple es kk pt) X.env] := by rfl) : JS X cl W ms (.Assign [.Tuple es kk pt] ex pos) (asgD (.tup gs) f) :=
  let ⟨_, p0, s0⟩ := h.p; ⟨_, ps_asg p0 (pg_seq k.calm hg.p hn hst) hs hw h1, snd_asgD (G := GX X cl) s0 (snd_gtup (snd_gNames hno) fun _ _ _ => bindGs_len) (fun i hi => hms i (by simpa [Tg.ns] using hi))⟩
end
end R

/-! Objects: attributes, methods, new ones. -/
namespace R
open PySem PySem.Spec PyProof.Rows L2
open Evl (Ex)
variable {G : Gs} {W : WX} {F H F1 H1 F2 H2 F3 H3 H0 : Hp} {M O : Addr → Prop} {s s1 s2 s3 : L2.St} {e e1 e2 e3 : En} {ls ls1 ls2 ls3 : Ls} {ms : List Nat} {D D' : Ends}
/-- a field set, or put at the end -/
def putT (f : Str) (t : Tr) : List (Str × Tr) → List (Str × Tr)
  | [] => [(f, t)]
  | (g, x) :: r => if g = f then (g, t) :: r else (g, x) :: putT f t r
/-- o.x -/
def attrV (c x : Str) (f : Ev) (e : En) : Out Rs := (f e).bnd fun r e1 => match getR e1 r with
  | some (.obj c' fs) => if c' = c then (match fs.lookup x with
    | some t => match subR r (.f x) t with
      | some z => .ok z e1
      | none => .no
    | none => .no) else .no
  | _ => .no
/-- o.x = e -/
def stoA (c x : Str) (o f : Ev) (e : En) : So := (asT f e).so fun t e1 => (o e1).so fun r e2 => match r with
  | .pl k pa => match getPl e2 k pa with
    | some (.obj c' fs) => if c' = c then (if isO e2 k then (if fs.length < 1000 then .nx (putPl e2 k pa (.obj c (putT x t fs))) else .no) else .no) else .no
    | _ => .no
  | _ => .no
/-- o.m(e, ..), o in slot i -/
def methV (c m : Str) (i : Nat) (R : List Tr → Ret) (as : List Am) (e : En) : Out Rs := match e[i]? with
  | some (.o (.obj c' fs)) => if c' = c then (if (fs.lookup m).isNone then callV R (.m i :: as) e else .no) else .no
  | _ => .no
/-- C(e, ..) -/
def newV (c : Str) (R : List Tr → Ret) (fs : List Ev) (e : En) : Out Rs := (argsD fs e).bnd fun ds e1 => match R (.obj c [] :: ds.map .dat) with
  | .ret (.dat .none) [t] => .ok (.new t) e1
  | _ => .no
theorem FRs.look {m : Str} : ∀ {vs : List (Str × V)} {ts : List (Str × Tr)} {l : List Addr}, FRs G F H vs ts l → ts.lookup m = none → vs.lookup m = none
  | _, _, _, .nil, _ => rfl
  | _, _, _, .cons (n := n) h1 h2, q => by
    rw [List.lookup_cons] at q ⊢
    cases c : (m == n) with
    | true => rw [c] at q; cases q
    | false => rw [c] at q; exact FRs.look h2 q
theorem FRs.len : ∀ {vs : List (Str × V)} {ts : List (Str × Tr)} {l : List Addr}, FRs G F H vs ts l → vs.length = ts.length
  | _, _, _, .nil => rfl
  | _, _, _, .cons h1 h2 => congrArg (· + 1) (FRs.len h2)
theorem FRs.putT {f : Str} {v : V} {t : Tr} {m : List Addr} (ht : TR G F H v t m) (nm : m.Nodup) : ∀ {vs : List (Str × V)} {ts : List (Str × Tr)} {l : List Addr}, FRs G F H vs ts l → l.Nodup → (∀ a ∈ m, a ∉ l) →
    ∃ l', FRs G F H (L2.putF f v vs) (R.putT f t ts) l' ∧ l'.Nodup ∧ ∀ a ∈ l', a ∈ l ∨ a ∈ m
  | _, _, _, .nil, nd, ap => ⟨m ++ [], .cons ht .nil, by rw [List.append_nil]; exact nm, fun a ha => by rw [List.append_nil] at ha; exact .inr ha⟩
  | _, _, _, .cons (n := n) (v := v0) (vs := vs) (t := t0) (ts := ts) (l := l1) (m := l2) h1 h2, nd, ap => by
    by_cases c : n = f
    · refine ⟨m ++ l2, ?_, nodup_app nm (nodup_r nd) fun a ha hb => ap a ha (List.mem_append_right _ hb), fun a ha => (List.mem_append.mp ha).elim .inr fun z => .inl (List.mem_append_right _ z)⟩
      show FRs G F H (if n = f then (n, v) :: vs else (n, v0) :: L2.putF f v vs) (if n = f then (n, t) :: ts else (n, t0) :: R.putT f t ts) (m ++ l2)
      rw [if_pos c, if_pos c]
      exact .cons ht h2
    · obtain ⟨l', g1, g2, g3⟩ := FRs.putT (f := f) ht nm h2 (nodup_r nd) fun a ha hb => ap a ha (List.mem_append_right _ hb)
      refine ⟨l1 ++ l', ?_, nodup_app (nodup_l nd) g2 fun a ha hb => ?_, fun a ha => ?_⟩
      · show FRs G F H (if n = f then (n, v) :: vs else (n, v0) :: L2.putF f v vs) (if n = f then (n, t) :: ts else (n, t0) :: R.putT f t ts) (l1 ++ l')
        rw [if_neg c, if_neg c]
        exact .cons h1 g1
      · rcases g3 a hb with z | z
        · exact nodup_x nd a ha z
        · exact ap a z (List.mem_append_left _ ha)
      · rcases List.mem_append.mp ha with z | z
        · exact .inl (List.mem_append_left _ z)
        · exact (g3 a z).imp (List.mem_append_right _) id
end R

/-! Objects: the rules. -/
namespace R
open PySem PySem.Spec PyProof.Rows L2
open Evl (Ex)
section
variable {X : Cx} {W : WX} {cl : Str → Addr} {n : Nat} {a b o ex : Expr} {es : List Expr} {f g fo : Ev} {fs : List Ev} {as : List Am} {pos p apos p2 : Pos} {ms : List Nat} {c x m : Str}
section
variable {CX : CXT} {k : Nat} {fa C : Addr} {fd : FuncData} {ps : List Str} {sp : Sp} {E : L2.St → XK} {ta : TE} {t : TA}
end
end
end R

/-! Sorted pairs; a range that goes down. -/
namespace R
open PySem PySem.Spec PyProof.Rows L2
open Evl (Ex)
variable {G : Gs} {W : WX} {F H F1 H1 F2 H2 F3 H3 H0 : Hp} {M O : Addr → Prop} {s s1 s2 s3 : L2.St} {e e1 e2 e3 : En} {ls ls1 ls2 ls3 : Ls} {ms : List Nat} {D D' : Ends}
def prD (p : Int × Int) : PyData := .tuple [.int p.1, .int p.2]
def prsOf : List PyData → Option (List (Int × Int))
  | [] => some []
  | .tuple [.int i, .int j] :: r => match prsOf r with
    | some l => some ((i, j) :: l)
    | none => none
  | _ => none
theorem prsOf_prs : ∀ ps : List (Int × Int), prsOf (ps.map prD) = some ps
  | [] => rfl
  | p :: ps => by
    show (match prsOf (ps.map prD) with | some l => some ((p.1, p.2) :: l) | none => none) = _
    rw [prsOf_prs ps]
def leP (p q : Int × Int) : Prop := p.1 < q.1 ∨ (p.1 = q.1 ∧ p.2 ≤ q.2)
instance : DecidableRel leP := fun p q => inferInstanceAs (Decidable (p.1 < q.1 ∨ (p.1 = q.1 ∧ p.2 ≤ q.2)))
def insP (x : Int × Int) : List (Int × Int) → List (Int × Int)
  | [] => [x]
  | y :: r => if leP x y then x :: y :: r else y :: insP x r
def isortP : List (Int × Int) → List (Int × Int)
  | [] => []
  | x :: r => insP x (isortP r)
def sortPF : PyData → Option Rz
  | .list ds => match prsOf ds with
    | some ps => some (.lst ((isortP ps).map prD))
    | none => none
  | _ => none
/-- range(i, j, -1) -/
def rngD (i : Int) (n : Nat) : List PyData := (List.range n).map fun (k : Nat) => PyData.int (i - k)
section
variable {X : Cx} {cl : Str → Addr} {n : Nat} {a b c tg : Expr} {f g : Ev} {pos p : Pos}
end
end R

/-! o.x.append(o.m(e, ..)): the method leaves the attribute x as it is. -/
namespace R
open PySem PySem.Spec PyProof.Rows L2
open Evl (Ex)
variable {G : Gs} {W : WX} {F H F1 H1 F2 H2 F3 H3 H0 : Hp} {M O : Addr → Prop} {s s1 s2 s3 : L2.St} {e e1 e2 e3 : En} {ls ls1 ls2 ls3 : Ls} {ms : List Nat} {D D' : Ends}
section
variable {X : Cx} {cl : Str → Addr} {n : Nat} {a : Expr} {es : List Expr} {fs : List Ev} {c x m : Str}
end
end R

/-! [.. for i, x in enumerate(o.x) ..]: the list stays the object's. -/
namespace R
open PySem PySem.Spec PyProof.Rows L2
open Evl (Ex)
variable {G : Gs} {W : WX} {F H F1 H1 F2 H2 F3 H3 H0 : Hp} {M O : Addr → Prop} {s s1 s2 s3 : L2.St} {e e1 e2 e3 : En} {ls ls1 ls2 ls3 : Ls} {ms : List Nat} {D D' : Ends}
section
variable {X : Cx} {cl : Str → Addr} {n : Nat} {a : Expr} {f g : Ev} {pos p pe : Pos}
end
end R

/-! [.. for x in y ..]: the list stays y's. -/
namespace R
open PySem PySem.Spec PyProof.Rows L2
open Evl (Ex)
variable {G : Gs} {W : WX} {F H F1 H1 F2 H2 F3 H3 H0 : Hp} {M O : Addr → Prop} {s s1 s2 s3 : L2.St} {e e1 e2 e3 : En} {ls ls1 ls2 ls3 : Ls} {ms : List Nat} {D D' : Ends}
section
variable {X : Cx} {cl : Str → Addr} {n : Nat} {a : Expr} {f g : Ev} {pos p pe : Pos}
end
/-! is it None, of trees, too -/
section
variable {ta : TE} {f : Ev}
def nonT : Tr → Option Bool
  | .dat d => some (isNone d)
  | .own _ => some false
  | .tup _ => some false
  | .lst _ => some false
  | .obj _ _ => some false
  | .dic _ => some false
  | .dit _ => some false
  | _ => none
def isNT (neg : Bool) (f : Ev) (e : En) : Out Rs := (f e).bnd fun r e1 => match getR e1 r with
  | some t => match nonT t with
    | some b => .ok (.dat (.bool (if neg then !b else b))) e1
    | none => .no
  | none => .no
end
section
variable {X : Cx} {cl : Str → Addr} {n : Nat} {a : Expr} {f g : Ev} {pos p pe : Pos}
end
end R

/-! sorted(e, key=lambda x: y[x]) -/
namespace R
open PySem PySem.Spec PyProof.Rows L2
open Evl (Ex)
section
variable {prog : Program} {w : World} {A : Around} {s : Shared}
/-- the lambda's own names: its parameter x, the free y -/
structure LamY (scope : Scope) (x y : Str) : Prop where
  kind : scope.kind = .function
  co : scope.isCoroutine = false
  gen : scope.isGenerator = false
  cells : ∀ z ∈ scope.names, z.2 ≠ .cell
  hx : scope.names.lookup x = some .local
  hy : scope.names.lookup y = some .free
end
/-- ns in the order of their keys, alike ones as they stood -/
def sortBy (g : Int → Int) (ns : List Int) : List Int := ns.mergeSort fun a b => decide (g a ≤ g b)
section
variable {X : Cx} {q : Str} {c P : Addr} {k i : Nat} {x y : Str} {params : Arguments} {scope : Scope} {a : Expr} {ta : TE} {p p1 p2 p3 lpos kpos pos : Pos}
end
/-! the interpreter's -/
def keyAt (us : List PyData) (n : Int) : Option Int := if 0 ≤ n then (match us[n.toNat]? with
  | some (.int k) => some k
  | _ => none) else none
def sortLV (f : Ev) (i : Nat) (e : En) : Out Rs := (asD f e).bnd fun d e1 => match d with
  | .list ds => match intsOf ds, getPl e1 i [] with
    | some ns, some t => match shal t with
      | some (.list us) => if ns.all fun n => (keyAt us n).isSome then .ok (.new (.own ((sortBy (fun n => (keyAt us n).getD 0) ns).map .int))) e1 else .no
      | _ => .no
    | _, _ => .no
  | _ => .no
section
variable {G : Gs} {W : WX} {F H F2 H2 F3 H3 : Hp} {s : L2.St} {e : En} {ls : Ls} {ta : TE} {f : Ev}
end
/-! the judgement -/
/-- what the head tells of the def that makes the lambda -/
structure LamB (base : Heap) (mg : Str → Option Value) (cl : Str → Addr) (cdv : Value) : Prop where
  ex : ∃ c, cdv = .ref c ∧ LamX.TabB base mg c (cl lamTab)
  nz : cl lamTab ≠ 0
theorem LamB.mem {base : Heap} {mg : Str → Option Value} {cl : Str → Addr} {cdv : Value} {K : PySem.W.Frag} (B : LamB base mg cl cdv) : (cl lamTab, lamQ) ∈ Gs.T ⟨K, cl⟩ := by
  unfold Gs.T
  rw [if_neg B.nz]
  exact List.mem_singleton.mpr rfl
section
variable {X : Cx} {W : WX} {cl : Str → Addr} {m i : Nat} {x y : Str} {params : Arguments} {scope : Scope} {a : Expr} {f : Ev} {p p1 p2 p3 lpos kpos pos : Pos}
end
end R

/-! the end of a law whose program makes one lambda; its head -/
namespace R
open PySem PySem.Spec PyProof.Rows L2
/-- the table as the module leaves it -/
def emptyTab : Obj := { cls := .none, data := .fields #[] }
section
variable {P : Program} {w : World} {mg mb : Str → Option Value} {K : PySem.W.Frag}
/-- what the head tells -/
structure TabFact (K : PySem.W.Frag) (h : Heap) (c P : Addr) : Prop where
  tab : h.get? P = some emptyTab
  tabK : K.lookup P = none
  code : PySem.W.CodeHd h c P
end
/-! ### the head's observation -/
abbrev AlT : Type := He.AlD × Bool
/-- what is looked at: the module's names, what they name, and so on, but not what code objects name (of these only by_dues's table) -/
def refsE (g : Addr → Option Obj) (a : Addr) : List Addr := match g a with
  | some o => (match o.data with
    | .fields _ => []
    | _ => He.refsD o)
  | none => []
def asE (g : Addr → Option Obj) : Nat → List Addr → List Addr
  | 0, f => f
  | n + 1, f => f ++ asE g n (f.flatMap (refsE g))
end R

/-! range downwards; comprehensions with two fors -/
namespace R
open PySem PySem.Spec PyProof.Rows L2
open Evl (Ex)
/-- range(i, j, -1) -/
def rng3D (f g h : Ev) (e : En) : Out (List PyData) := (asD f e).bnd fun d e1 => (asD g e1).bnd fun d2 e2 => (asD h e2).bnd fun d3 e3 => match d, d2, d3 with
  | .int i, .int j, .int c => if inR i && inR j && decide (c = -1) then .ok (rngD i (i - j).toNat) e3 else .no
  | _, _, _ => .no
section
variable {G : Gs} {W : WX} {F H F1 H1 F2 H2 F3 H3 H0 : Hp} {s s1 s2 s3 s' : L2.St} {e e1 e2 e3 e' : En} {ls ls1 ls2 ls3 ls' : Ls} {F' H' : Hp} {acc : List PyData} {xs : List V} {vs vs' : List Nat} {D : Addr}
/-- where a comprehension of data stands -/
structure L2At (G : Gs) (vs : List Nat) (s : L2.St) (e1 : En) (ls1 : Ls) (F1 H1 : Hp) (D : Addr) (s' : L2.St) (H' F' : Hp) (e' : En) (ls' : Ls) (acc : List PyData) (xs : List V) : Prop where
  T : Stp (wipeE e1 vs) (wipeL ls1 vs) F1 H1 (L2.wipe s vs) e' ls' F' H' s'
  E : Env G F' H' s' e' ls'
  d0 : H1 D = none
  d1 : F' D = none
  d2 : H' D = some (.lst xs)
  d3 : ¬ All ls' D
  n : DqAll G F' xs acc
theorem L2At.go (L : L2At G vs s e1 ls1 F1 H1 D s' H' F' e' ls' acc xs) (T : Stp e' ls' F' H' s' e2 ls2 F2 H2 s2) (E : Env G F2 H2 s2 e2 ls2) : L2At G vs s e1 ls1 F1 H1 D s2 H2 F2 e2 ls2 acc xs := by
  have nD : ¬ Ow e' ls' D := fun z => L.d3 z.all
  exact ⟨L.T.trans T, E, L.d0, T.nx.ap D _ nD L.d1 L.d2 rfl, T.nx.h D _ nD L.d2 rfl, (fun z => (T.al D z).elim L.d3 fun w => by rw [L.d2] at w; cases w), dqa_up T.nx.f L.n⟩
theorem L2At.wipe (L : L2At G vs s e1 ls1 F1 H1 D s' H' F' e' ls' acc xs) (hv : ∀ v ∈ vs', v ∈ vs) : L2At G vs s e1 ls1 F1 H1 D (L2.wipe s' vs') H' F' (wipeE e' vs') (wipeL ls' vs') acc xs :=
  ⟨L.T.wipe (fun v h t => no_ro_wipe (hv v h)) (fun i hi => wipeS_at hi), L.E.wipe vs', L.d0, L.d1, L.d2, fun z => L.d3 (all_wipe z), L.n⟩
theorem L2At.put {v : V} {y : PyData} (L : L2At G vs s e1 ls1 F1 H1 D s' H' F' e' ls' acc xs) (hv : Dq G F' v y) : L2At G vs s e1 ls1 F1 H1 D s' (upd H' D (.lst (xs ++ [v]))) F' e' ls' (acc ++ [y]) (xs ++ [v]) := by
  have nn : NxM (· ∈ [D]) F' H' F' (upd H' D (.lst (xs ++ [v]))) := NxM.wr L.T.k (List.mem_singleton.mpr rfl) L.d1 L.d2 rfl
  have T8 := L.T
  refine ⟨⟨⟨fun a o na ha wt => ?_, T8.nx.f, fun a o ha => ?_, T8.nx.ap, fun a ha => ?_, fun P q hq => ⟨tab_wr (fun u hu => by rw [L.d2] at hu; cases hu; rfl) (T8.nx.tb P q hq).1, (T8.nx.tb P q hq).2.1, upd_only (T8.nx.tb P q hq).2.2 rfl⟩⟩, T8.ln, T8.ow, T8.al, T8.ro⟩, ?_, L.d0, L.d1, upd_same, L.d3, dqa_app L.n (.cons hv .nil)⟩
  · have c1 : a ≠ D := fun z => by subst z; rw [L.d0] at ha; cases ha
    rw [upd_ne c1]; exact T8.nx.h a o na ha wt
  · have c1 : a ≠ D := fun z => by subst z; rw [L.d1] at ha; cases ha
    rw [upd_ne c1]; exact T8.k a o ha
  · have c1 : a ≠ D := fun z => by subst z; exact ha L.d0
    rw [upd_ne c1]; exact T8.nx.th a ha
  · exact L.E.nx nn fun a ha hm => by rw [List.mem_singleton.mp hm] at ha; exact L.d3 ha
end
def iOfI (G : Gs) (W : WX) (f : Ei) : TI := fun s H R => ∃ F e ls, Ex F H ∧ Env G F H s e ls ∧ Post G W s e ls F H (f e) (fun ds e2 ls2 F2 H2 => ∀ J, ItD G F2 J ds → R J H2)
theorem JI.can {X : Cx} {cl : Str → Addr} {W : WX} {tg iter : Expr} {f : Ei} (h : JI X cl W tg iter f) : PI X tg iter (iOfI (GX X cl) W f) := by
  obtain ⟨wi, p, sn⟩ := h.p
  exact ⟨fun pins sh σ H R I q => by obtain ⟨F, e, ls, k, E, q⟩ := q; exact p.run pins sh σ H R I (sn σ F H e ls k E R q)⟩
section
variable {X : Cx} {W : WX} {cl : Str → Addr} {n : Nat} {a b c tg tg1 : Expr} {f g h : Ev} {pos p : Pos}
end
/-- where the classes lie, and the lambda's table -/
def clP (K : PySem.W.Frag) (P : Addr) (x : Str) : Addr := if x = lamTab then P else He.ga K x
theorem clP_ne {K : PySem.W.Frag} {P : Addr} {x : Str} (h : x ≠ lamTab) : clP K P x = He.ga K x := if_neg h
theorem clP_tab {K : PySem.W.Frag} {P : Addr} : clP K P lamTab = P := if_pos rfl
theorem law_sp0 {K : PySem.W.Frag} {Rf : List Tr → Ret} {os : List Tr} {H : Hp} {a : Addr} {ns : List Int} (hS : SqL K H a (ns.map V.int)) (hR : Rf [.scr ns] = .ret (.dat (.bool true)) os) : spR ⟨K, clP K 0⟩ [0] Rf [.ref a] H (fun v _ => v = .bl true) fun _ _ _ => False :=
  law_sp hS (fun p hp => by
    unfold Gs.T at hp
    rw [if_pos clP_tab] at hp
    cases hp) hR
end R

/-! calls to which new things are handed over, perhaps to be changed -/
namespace R
open PySem PySem.Spec PyProof.Rows L2
open Evl (Ex)
variable {G : Gs} {W : WX} {F H F1 H1 F2 H2 F3 H3 H0 : Hp} {M O : Addr → Prop} {s s1 s2 s3 : L2.St} {e e1 e2 e3 : En} {ls ls1 ls2 ls3 : Ls} {ms : List Nat} {D D' : Ends}
def callT (R : List Tr → Ret) (fs : List Ev) (e : En) : Out Rs := (argsT fs e).bnd fun ts e1 => match R ts with
  | .ret t _ => .ok (mkNew t) e1
  | .exc x _ => if x.fs.isEmpty then .exc x e1 else .no
  | .no => .no
section
variable {X : Cx} {cl : Str → Addr} {n : Nat} {a : Expr} {es : List Expr} {f : Ev} {fs : List Ev} {pos p : Pos}
end
end R

/-! x or y, x a whole number or None -/
namespace R
open PySem PySem.Spec PyProof.Rows L2
open Evl (Ex)
variable {G : Gs} {W : WX} {F H F1 H1 F2 H2 F3 H3 H0 : Hp} {M O : Addr → Prop} {s s1 s2 s3 : L2.St} {e e1 e2 e3 : En} {ls ls1 ls2 ls3 : Ls} {ms : List Nat} {D D' : Ends}
def orI (f g : Ev) (e : En) : Out Rs := (f e).bnd fun r e1 => match rdS e1 r with
  | some (.int i) => if i = 0 then g e1 else .ok (.dat (.int i)) e1
  | some .none => g e1
  | _ => .no
end R

/-! Exceptions caught and kept as data; raised; asked for their class. -/
namespace R
open PySem PySem.Spec PyProof.Rows L2
open Evl (Ex)
section
variable {X : Cx} {pins : List (Addr × Obj)} {σ : L2.St} {H : Hp} {s : Shared}
theorem exK_ok {P : Program} {w : World} {h : Heap} {a : Addr} {cls : Value} {d : Option Addr} {oe : Obj} {vs : Array Value} (e : h.get? a = some oe) (z : Zc cls d oe) (hd : oe.data = .fields vs) : ObjOk P w H h a (ExK cls d a) :=
  ⟨⟨oe, vs, e, z, hd⟩, ⟨oe, e⟩, fun _ _ ⟨o, v, q, r⟩ k => ⟨o, v, k o q, r⟩⟩
/-- an exception's object is tracked from here on -/
theorem inv_track {a : Addr} {cls : Value} {d : Option Addr} {oe : Obj} {vs : Array Value} (I : Inv X pins σ H s) (h0 : X.s_0.heap.get? a = none) (he : s.heap.get? a = some oe) (hz : Zc cls d oe) (hd : oe.data = .fields vs) (hn : H a = none) (nL : a ≠ X.env.locals) (nP : ∀ p ∈ X.pn ++ pins, p.1 ≠ a) : Inv X pins σ (upd H a (ExK cls d a)) s := by
  have ne0 : ∀ b o, X.s_0.heap.get? b = some o → b ≠ a := fun b o e z => by rw [z, h0] at e; cases e
  have neC : ∀ x c, X.env.cells.lookup x = some c → c ≠ a := fun x c e z => by
    obtain ⟨v, o, ho, hv⟩ := I.cell x c e
    rw [z, he] at ho
    cases ho
    rw [hd] at hv
    cases hv
  refine ⟨I.ok, I.os, I.bare, ⟨I.base.keep, I.base.slot, fun b o e n hx => ?_, I.base.there, fun b xs e => ?_, fun b o u e => ?_, fun b ps e => ?_⟩, I.loc, I.cell, ?_, fun x c e => ?_, fun p hp => ?_, fun b u e => ?_, I.len⟩
  · rw [upd_ne (ne0 b o e)]
    exact I.base.free b o e n hx
  · have q := I.base.tups b xs e
    rw [upd_ne (ne_of_none q hn)]
    exact q
  · have q := I.base.frzs b o u e
    rw [upd_ne (ne_of_none q hn)]
    exact q
  · obtain ⟨m, q⟩ := I.base.tbls b ps e
    exact ⟨m, by rw [upd_ne (ne_of_none q hn)]; exact q⟩
  · rw [upd_ne (Ne.symm nL)]
    exact I.free
  · rw [upd_ne (neC x c e)]
    exact I.freeC x c e
  · obtain ⟨e, n, r⟩ := I.pin p hp
    exact ⟨e, by rw [upd_ne (nP p hp)]; exact n, r⟩
  · by_cases hb : b = a
    · subst hb
      rw [upd_same] at e
      cases e
      exact exK_ok he hz hd
    · rw [upd_ne hb] at e
      exact (I.hok b u e).stay (fun c v _ q => q) (fun c q => by rw [upd_ne (ne_of_none q hn)]; exact q) fun c xs q => by rw [upd_ne (ne_of_none q hn)]; exact q
theorem inv_suite (I : Inv X pins σ H s) {a : Addr} : Inv (X.suite a (X.pn ++ pins)) [] σ H s :=
  ⟨I.ok.suite _ _, I.os, I.bare, I.base, I.loc, I.cell, I.free, I.freeC, fun p hp => I.pin p (by rw [List.append_nil] at hp; exact hp), I.hok, I.len⟩
theorem inv_unsuite {a : Addr} {pn' : List (Addr × Obj)} (I : Inv (X.suite a (X.pn ++ pins)) pn' σ H s) (ok : X.Ok) : Inv X pins σ H s :=
  ⟨ok, I.os, I.bare, I.base, I.loc, I.cell, I.free, I.freeC, fun p hp => I.pin p (List.mem_append_left _ hp), I.hok, I.len⟩
end
/-- what the clause 'except x as n' wishes of an exception of the body, which is tracked in the suite -/
def wKeep (K : PySem.W.Frag) (c : Value) (i : Nat) (ts : TS) (Wout : WX) (D : Ends) : WX := fun cls d σ H =>
  ∃ b, PySem.W.exmOne K cls c = some b ∧ (b = true → ∀ a, H a = none → ts { nx := fun σ' H' => D.nx (σ'.set i none) H', rt := D.rt, bk := fun σ' H' => D.bk (σ'.set i none) H', ct := fun σ' H' => D.ct (σ'.set i none) H' } (σ.set i (some (.ref a))) (upd H a (ExK cls d a))) ∧
    (b = false → Wout cls d σ H)
section
variable {X : Cx} {x n : Str} {c : Value} {i : Nat} {body suite : List Stmt} {b₀ : Stmt} {np pos pos' : Pos} {tb : WX → TS} {ts : TS} {Wout : WX}
theorem ps_try_keep (hs : X.stack = X.env :: X.outer) (hf : X.env.frame = some X.env.locals) (hex : X.ex = []) (hN : X.N.Nodup) (hi : X.N[i]? = some n) (hln : X.env.kindOf n = some .local) (hc : Names X x c) (tk : Takes X Wout)
    (hb : ∀ (W : WX) (pn : List (Addr × Obj)) (xe : Value → Shared → Prop), Takes (X.tr pn xe) W → PassesOwn (model X.prog X.w) X.A X.env xe → PSs (X.tr pn xe) body (tb W))
    (hsu : ∀ (a : Addr) (pn : List (Addr × Obj)), PSs (X.suite a pn) (b₀ :: suite) ts) :
    PS X (.Try body [.ExceptHandler (some (.Name x np)) (some n) (b₀ :: suite) pos'] [] [] pos) (fun D σ H => tb (wKeep X.K c i ts Wout D) D σ H) := by
  refine ⟨fun pins s σ H D I h => ?_⟩
  have ok := I.ok
  have hfr : X.A.frames = some (X.env :: X.outer) := by rw [ok.frames, hs]
  have hloc : Loc X.env.scope n := .inl hln
  refine wpAny_Try_except ?_
  refine wpAny_mono ((hb (wKeep X.K c i ts Wout D) (X.pn ++ pins) (fun e s₁ => wpAny (model X.prog X.w) X.A (noteFrame e X.env) (fun _ s₂ => wpAny (model X.prog X.w) X.A (setFlight e none) (fun _ s₃ =>
    wpAny (model X.prog X.w) X.A (handleBy e X.env [.ExceptHandler (some (.Name x np)) (some n) (b₀ :: suite) pos']) (SP X pins D) X.xe s₃) X.xe s₂) X.xe s₁) (fun u s' xx => ?_) PassesOwn.looking).run [] s σ H D (I.toTry _) h) (fun f s1 hsp => ?_) (fun e s1 he => he)
  · -- the catch
    obtain ⟨a, B, sI, pins', σ', H', cls, d, rfl, J', nb, up, sky, na, os, ag, b, hb1, hyes, hno⟩ := xx
    have J : Inv X pins σ' H' sI := J'.ofTry ok
    have sky' : Sky B (X.env :: X.outer) a (Zc cls d) X.env.locals s'.heap := by rw [← hs]; exact sky
    show wpAny (model X.prog X.w) X.A (noteFrame (.ref a) X.env) _ _ _
    refine Sky.land Zc.steady hfr hf sky' fun h3 fl3 up3 => ?_
    have J3 : Inv X pins σ' H' { s' with heap := h3 } := J.landed nb fl3.1 (up.trans up3) os ag
    obtain ⟨oe3, vs3, he3, hz3, hd3⟩ := fl3.there
    have notFr : ∀ {h : Heap} {o : Obj} {vs : Array Value}, h.FunFrames B (X.env :: X.outer) → h.get? a = some o → o.data = .fields vs → a ∉ frs (X.env :: X.outer) := fun {h o vs} ff e dd hm => by
      obtain ⟨_, o', e', hnf⟩ := ff.mem hm
      rw [e] at e'; cases e'
      exact hnf _ dd
    have nfr := notFr fl3.2.2.1 he3 hd3
    have nL : a ≠ X.env.locals := fun z => nfr (List.mem_filterMap.mpr ⟨X.env, List.mem_cons_self, by rw [hf, z]⟩)
    have nB : B.get? a = none := fl3.2.1
    have nI : sI.heap.get? a = none := by
      cases q : sI.heap.get? a with
      | none => rfl
      | some o =>
        have z := nb a o q (by rw [hs]; exact nfr)
        rw [nB] at z
        cases z
    have n0 : X.s_0.heap.get? a = none := by
      cases q : X.s_0.heap.get? a with
      | none => rfl
      | some o =>
        obtain ⟨o', z⟩ := J.base.there a o q (by rw [hex]; exact fun z => nomatch z)
        rw [nI] at z
        cases z
    have nP : ∀ p ∈ X.pn ++ pins, p.1 ≠ a := fun p hp z => by
      have q := (J.pin p hp).1
      rw [z, nI] at q
      cases q
    have S3 := inv_suite J3 (a := a)
    refine wpAny_handleBy_cons (codeAny_handlers_test ?_) (by intro q; cases q)
    have LT : PySem.W.Looks (model X.prog X.w) h3 (typeOf (.ref a)) cls := fun A Q E s k q => wpAny_typeOf_ref (k _ _ he3) (by rw [hz3.1]; exact q)
    have LM := PySem.W.exm_one (M := model X.prog X.w) (J3.kIn) LT hb1
    have test : ∀ {Q : Value → Shared → Prop} {E : Value → Shared → Prop}, Q c { s' with heap := h3 } → wpAny (model X.prog X.w) (X.A.mark (some (.ref a))) (eval (.Name x np) X.env) Q E { s' with heap := h3 } := fun {Q E} q => by
      obtain ⟨hg, hdbg, hm | ⟨hm, hv, hnn⟩⟩ := hc
      · exact ld_glob (X := X.suite a (X.pn ++ pins)) S3 hg hm q hdbg
      · exact ld_blt (X := X.suite a (X.pn ++ pins)) S3 hg hm hv q hnn hdbg
    refine test (LM.here ?_)
    cases b with
    | true =>
      refine codeAny_handlers_suite_as ?_
      refine HandSPX.lands_againZ fl3 fun h4 fl4 up4 => ?_
      have J4 : Inv X pins σ' H' { s' with heap := h4 } := J.landed nb fl4.1 ((up.trans up3).trans up4) os ag
      obtain ⟨oe4, vs4, he4, hz4, hd4⟩ := fl4.there
      have J5 := inv_track J4 n0 he4 hz4 hd4 na nL nP
      have S4 := inv_suite J5 (a := a)
      refine store_ok (X := X.suite a (X.pn ++ pins)) (v := .ref a) S4 hN hi hloc rfl (fun s5 S5 => ?_) (.inr hln)
      refine wpAny_mono ((hsu a (X.pn ++ pins)).run [] s5 _ _ _ S5 (hyes rfl a na)) (fun f s6 hsp => ?_) (fun _ _ z => False.elim z)
      have end_ : ∀ {σ6 : L2.St} {H6 : Hp} {Q : Shared → Prop}, Inv (X.suite a (X.pn ++ pins)) [] σ6 H6 s6 → (∀ s7, Inv X pins (σ6.set i none) H6 s7 → Q s7) →
          wpAny (model X.prog X.w) X.A (do bindName X.env n .none; unbindBehindTheSuite X.env n pos') (fun _ s7 => Q s7) X.xe s6 := fun {σ6 H6 Q} S6 hq => gone_ok (inv_unsuite S6 ok) hN hi hln hq
      cases f with
      | next =>
        obtain ⟨σ6, H6, S6, q6⟩ := hsp
        exact end_ S6 fun s7 J7 => ⟨_, _, J7, q6⟩
      | brk =>
        obtain ⟨σ6, H6, S6, q6⟩ := hsp
        exact end_ S6 fun s7 J7 => ⟨_, _, J7, q6⟩
      | cont =>
        obtain ⟨σ6, H6, S6, q6⟩ := hsp
        exact end_ S6 fun s7 J7 => ⟨_, _, J7, q6⟩
      | ret u =>
        obtain ⟨v6, σ6, H6, S6, r6, q6⟩ := hsp
        exact end_ S6 fun s7 J7 => ⟨_, _, _, J7, r6, q6⟩
    | false =>
      show wpAny _ X.A (handleBy (.ref a) X.env []) _ _ _
      refine wpAny_handleBy_nil ?_
      obtain ⟨k1, k2, k3, oe, vs, T, oT, ts', he, hz, hd, h1, hr⟩ := id fl3
      unfold PySem.passOn
      refine wpAny_bind (wpAny_field he hd h1 ?_)
      rw [if_neg (show ¬ ((Value.ref T == Value.none) = true) from by simp)]
      have fin : wpAny (model X.prog X.w) X.A (setFlight (.ref a) X.env.frame) (fun _ s4 => wpAny (model X.prog X.w) X.A (throw (.ref a) : Sem Flow) (SP X pins D) X.xe s4) X.xe { s' with heap := h3 } := by
        rw [hf]
        refine HandSPX.setFlight_upZ fl3 fun h4 hh4 up4 => wpAny_throw (tk _ _ ?_)
        exact ⟨a, B, sI, pins, σ', H', cls, d, rfl, J, nb, (up.trans up3).trans up4, .inr (.inr (by rw [hs]; exact hh4)), na, os, ag, hno rfl⟩
      first
        | exact wpAny_bind (wpAny_pure (wpAny_bind fin))
        | exact wpAny_bind fin
  · cases f with
    | next =>
      obtain ⟨σ', H', J', q⟩ := hsp
      exact wpAny_execs_nil ⟨σ', H', J'.ofTry ok, q⟩
    | brk =>
      obtain ⟨σ', H', J', q⟩ := hsp
      exact ⟨σ', H', J'.ofTry ok, q⟩
    | cont =>
      obtain ⟨σ', H', J', q⟩ := hsp
      exact ⟨σ', H', J'.ofTry ok, q⟩
    | ret u =>
      obtain ⟨v, σ', H', J', r, q⟩ := hsp
      exact ⟨v, σ', H', J'.ofTry ok, r, q⟩
end
/-! ### by the interpreter -/
variable {G : Gs} {W : WX} {F H F1 H1 F2 H2 F3 H3 H0 : Hp} {M O : Addr → Prop} {s s1 s2 s3 : L2.St} {e e1 e2 e3 : En} {ls ls1 ls2 ls3 : Ls} {ms : List Nat} {D D' : Ends}
def tOfS (G : Gs) (W : WX) (ms : List Nat) (f : Es) : TS := fun D σ H => ∃ F e ls, Ex F H ∧ Env G F H σ e ls ∧ SPost G W ms σ e ls F H (f e) D
theorem JSs.can {X : Cx} {cl : Str → Addr} {sts : List Stmt} {f : Es} (h : JSs X cl W ms sts f) : PSs X sts (tOfS (GX X cl) W ms f) := by
  obtain ⟨te, p, sn⟩ := h.p
  exact ⟨fun pins sh σ H D I q => by obtain ⟨F, e, ls, k, E, q⟩ := q; exact p.run pins sh σ H D I (sn σ F H e ls D k E q)⟩
/-- the name of the clause goes -/
def clrS (i : Nat) : So → So
  | .nx e => if isO e i then .nx (e.set i (.o .un)) else .no
  | .bk e => if isO e i then .bk (e.set i (.o .un)) else .no
  | .ct e => if isO e i then .ct (e.set i (.o .un)) else .no
  | .rt t e => .rt t e
  | _ => .no
def tryS (tab : List (Str × Bool)) (body : Es) (i : Nat) (suite : Es) (e : En) : So := match body e with
  | .exc x e1 => (match tab.lookup x.c with
    | some true => (match setN i (.dat (excD x.c x.fs)) e1 with
      | some e2 => clrS i (suite e2)
      | none => .no)
    | some false => .exc x e1
    | none => .no)
  | o => o
def TabOk (K : PySem.W.Frag) (cl : Str → Addr) (c : Str) : List (Str × Bool) → Prop
  | [] => True
  | p :: r => (PySem.W.exmOne K (.ref (cl p.1)) (.ref (cl c)) = some p.2 ∧ XcOk ⟨K, cl⟩ p.1) ∧ TabOk K cl c r
theorem TabOk.at {K : PySem.W.Frag} {cl : Str → Addr} {c x : Str} {b : Bool} : ∀ {tab : List (Str × Bool)}, TabOk K cl c tab → tab.lookup x = some b → PySem.W.exmOne K (.ref (cl x)) (.ref (cl c)) = some b ∧ XcOk ⟨K, cl⟩ x
  | [], _, h => nomatch h
  | (y, v) :: r, ⟨h1, h2⟩, h => by
    rw [List.lookup_cons] at h
    cases q : x == y with
    | true =>
      rw [q] at h
      cases h
      rw [beq_iff_eq.mp q]
      exact h1
    | false =>
      rw [q] at h
      exact TabOk.at h2 h
/-- a caught exception is frozen and read as data -/
theorem exc_fz {a : Addr} {x : Xc} {c : Value} {d : Option Addr} (k : Ex F H) (E : Env G F H s e ls) (na : H a = none) (hx : XR G F H ls x c d) (hX : XcOk G x.c) : ∃ F2, NxM (fun b => d = some b) F H F2 (upd H a (ExK c d a)) ∧ Dq G F2 (.ref a) (excD x.c x.fs) := by
  have n1 : Nx F H (upd F a (ExK c d a)) (upd H a (ExK c d a)) := Nx.new k na
  obtain ⟨hc, hd⟩ := hx
  obtain ⟨xc, xf⟩ := x
  dsimp only at hc hd hX ⊢
  subst hc
  cases d with
  | none =>
    have hd : xf = [] := hd
    subst hd
    exact ⟨_, n1.toM, .exc upd_same hX⟩
  | some b =>
    obtain ⟨vs, h1, h2, h3, h4⟩ := hd
    have nb : b ≠ a := fun z => by rw [z, na] at h3; cases h3
    have n2 : NxM (fun z => some b = some z) (upd F a (ExK (.ref (G.cl xc)) (some b) a)) (upd H a (ExK (.ref (G.cl xc)) (some b) a)) (upd (upd F a (ExK (.ref (G.cl xc)) (some b) a)) b (.xd vs)) (upd H a (ExK (.ref (G.cl xc)) (some b) a)) :=
      NxM.fz n1.k rfl (by rw [upd_ne nb]; exact h3) (by rw [upd_ne nb]; exact h1) rfl
    refine ⟨_, n1.toM.trans n2, ?_⟩
    have key : ∀ (vs : List (Str × V)) (fs : List (Str × PyData)), XfR G F vs fs → ∃ (ns : List Str) (ws : List V) (ds : List PyData), vs = ns.zip ws ∧ fs = ns.zip ds ∧ ns.length = ws.length ∧ DqAll G F ws ds := by
      intro vs
      induction vs with
      | nil =>
        intro fs h
        cases fs with
        | nil => exact ⟨[], [], [], rfl, rfl, rfl, .nil⟩
        | cons p r => exact h.elim
      | cons v vs ih =>
        intro fs h
        cases fs with
        | nil => obtain ⟨_, _⟩ := v; exact h.elim
        | cons p r =>
          obtain ⟨n, v⟩ := v
          obtain ⟨m, d⟩ := p
          obtain ⟨rfl, g1, g2⟩ := h
          obtain ⟨ns, ws, ds, rfl, rfl, e1, e2⟩ := ih r g2
          exact ⟨n :: ns, v :: ws, d :: ds, rfl, rfl, congrArg (· + 1) e1, .cons g1 e2⟩
    obtain ⟨ns, ws, ds, rfl, rfl, e1, e2⟩ := key vs xf h4
    exact .exf ((upd_ne (Ne.symm nb)).trans upd_same) upd_same e1 (dqa_up (n1.f.trans n2.f) e2) hX
theorem isO_some {i : Nat} (h : isO e i = true) : ∃ t, e[i]? = some (.o t) := by
  unfold isO at h
  split at h
  · rename_i t q; exact ⟨t, q⟩
  · cases h
theorem clr_ok {i : Nat} {t : Tr} (T : Stp e1 ls1 F1 H1 s1 e ls F H s) (E : Env G F H s e ls) (h : e[i]? = some (.o t)) : Stp e1 ls1 F1 H1 s1 (e.set i (.o .un)) (ls.set i []) F H (s.set i none) ∧ Env G F H (s.set i none) (e.set i (.o .un)) (ls.set i []) := by
  have sub : ∀ a, All (ls.set i []) a → All ls a := fun a h => by
    rcases all_set h with z | z
    · cases z
    · exact z
  refine ⟨⟨T.nx, by rw [set_len]; exact T.ln, fun a h => ?_, fun a h => T.al a (sub a h), fun j y hj => ?_⟩, ⟨by rw [set_len, set_len, E.len], by rw [set_len, set_len, E.lenl], fun j y m q1 q2 => ?_, fun j m q => ?_, fun j k m m' a njk q1 q2 ha => ?_, E.tb⟩⟩
  · rcases ow_set h with z | z
    · cases z
    · exact T.ow a z
  · obtain ⟨h1, h2, h3⟩ := T.ro j y hj
    have c : i ≠ j := fun z => by subst z; rw [h] at h1; cases h1
    rw [List.getElem?_set_ne c, List.getElem?_set_ne c, List.getElem?_set_ne c]
    exact ⟨h1, h2, h3⟩
  · rcases set_at q1 with ⟨rfl, rfl⟩ | ⟨c, r⟩
    · rcases set_at q2 with ⟨_, rfl⟩ | ⟨c, _⟩
      · exact .inl ⟨rfl, rfl⟩
      · exact absurd rfl c
    · rcases set_at q2 with ⟨c2, _⟩ | ⟨_, r2⟩
      · exact absurd c2 c
      · rw [List.getElem?_set_ne (Ne.symm c)]
        exact E.ent j y m r r2
  · rcases set_at q with ⟨_, rfl⟩ | ⟨_, r⟩
    · exact List.nodup_nil
    · exact E.nd j m r
  · rcases set_at q1 with ⟨_, rfl⟩ | ⟨_, r1⟩
    · cases ha
    · rcases set_at q2 with ⟨_, rfl⟩ | ⟨_, r2⟩
      · exact fun z => nomatch z
      · exact E.ap j k m m' a njk r1 r2 ha
theorem snd_try {K : PySem.W.Frag} {cl : Str → Addr} {tab : List (Str × Bool)} {c : Str} {i : Nat} {body suite : Es} (ht : TabOk K cl c tab) (hi : ms.contains i = false) : SndS ⟨K, cl⟩ W ms (fun D σ H => tOfS ⟨K, cl⟩ (wKeep K (.ref (cl c)) i (tOfS ⟨K, cl⟩ W0 ms suite) W D) ms body D σ H) (tryS tab body i suite) := fun s F H e ls D k E q => by
  refine ⟨F, e, ls, k, E, ?_⟩
  unfold tryS at q
  cases hb : body e with
  | nx e2 => rw [hb] at q; exact q
  | bk e2 => rw [hb] at q; exact q
  | ct e2 => rw [hb] at q; exact q
  | rt t e2 => rw [hb] at q; exact q
  | no => rw [hb] at q; exact q
  | exc x e1 =>
    rw [hb] at q
    dsimp only at q
    intro s2 ls2 F2 H2 cv d T E2 kp hx hn
    cases g : tab.lookup x.c with
    | none => rw [g] at q; exact q.elim
    | some b =>
      rw [g] at q
      refine ⟨b, by rw [hx.1]; exact (ht.at g).1, fun hbt a na => ?_, fun hbf => ?_⟩
      · subst hbt
        dsimp only at q
        cases g2 : setN i (.dat (excD x.c x.fs)) e1 with
        | none => rw [g2] at q; exact q.elim
        | some e2 =>
          rw [g2] at q
          dsimp only at q
          obtain ⟨F3, n3, hd⟩ := exc_fz T.k E2 na hx (ht.at (show tab.lookup x.c = some true from g)).2
          have E3 : Env ⟨K, cl⟩ F3 (upd H2 a (ExK cv d a)) s2 e1 ls2 := E2.nx n3 fun b hb hm => by
            have hx2 := hx.2
            rw [hm] at hx2
            obtain ⟨_, _, h2, _⟩ := hx2
            exact h2 hb
          -- as a step of the whole, what is frozen is new to the start
          have T3 : Stp e ls F H s e1 ls2 F3 (upd H2 a (ExK cv d a)) s2 := ⟨T.nx.then n3 fun z hz => .inr (hn z hz), T.ln, T.ow, T.al, T.ro⟩
          obtain ⟨ls4, T4, E4⟩ := set_ok (O := Ow e1 ls2) (H0 := H2) T3.k E3 (new_dat hd) (fun b hb => hb.elim (fun z => T.ow b z) fun z => .inr (th_none T.nx z)) T3 g2
          have kp4 : Kp ms s (s2.set i (some (.ref a))) := kp.trans (kp_set hi)
          refine ⟨F3, e2, ls4, T4.k, E4, ?_⟩
          have fin : ∀ {e5 : En} {P : L2.St → Hp → Prop}, isO e5 i = true → (∀ s2 ls2 F2 H2, Stp e ls F H s (e5.set i (.o .un)) ls2 F2 H2 s2 → Env ⟨K, cl⟩ F2 H2 s2 (e5.set i (.o .un)) ls2 → Kp ms s s2 → P s2 H2) → ∀ s5 ls5 F5 H5, Stp e2 ls4 F3 (upd H2 a (ExK cv d a)) (s2.set i (some (.ref a))) e5 ls5 F5 H5 s5 → Env ⟨K, cl⟩ F5 H5 s5 e5 ls5 → Kp ms (s2.set i (some (.ref a))) s5 → P (s5.set i none) H5 := fun {e5 P} ho hp s5 ls5 F5 H5 T5 E5 kp5 => by
            obtain ⟨t5, h5⟩ := isO_some ho
            obtain ⟨T6, E6⟩ := clr_ok (T4.trans T5) E5 h5
            exact hp _ _ _ _ T6 E6 ((kp4.trans kp5).trans (kp_set hi))
          cases hsu : suite e2 with
          | nx e5 =>
            rw [hsu] at q
            have q : SPost ⟨K, cl⟩ W ms s e ls F H (if isO e5 i then .nx (e5.set i (.o .un)) else .no) D := q
            split at q
            · rename_i ho
              exact fin ho q
            · exact q.elim
          | bk e5 =>
            rw [hsu] at q
            have q : SPost ⟨K, cl⟩ W ms s e ls F H (if isO e5 i then .bk (e5.set i (.o .un)) else .no) D := q
            split at q
            · rename_i ho
              exact fin ho q
            · exact q.elim
          | ct e5 =>
            rw [hsu] at q
            have q : SPost ⟨K, cl⟩ W ms s e ls F H (if isO e5 i then .ct (e5.set i (.o .un)) else .no) D := q
            split at q
            · rename_i ho
              exact fin ho q
            · exact q.elim
          | rt t e5 =>
            rw [hsu] at q
            exact fun v s5 ls5 F5 H5 T5 E5 kp5 hn5 => q v s5 ls5 F5 H5 (T4.trans T5) E5 (kp4.trans kp5) (hn5.back' T4)
          | exc y e5 => rw [hsu] at q; exact q.elim
          | no => rw [hsu] at q; exact q.elim
      · subst hbf
        exact q s2 ls2 F2 H2 cv d T E2 kp hx hn
end R

/-! Rules: try, raise, isinstance of a caught exception; what the head tells of exception classes. -/
namespace R
open PySem PySem.Spec PyProof.Rows L2
open Evl (Ex)
variable {G : Gs} {W : WX} {F H F1 H1 F2 H2 F3 H3 H0 : Hp} {M O : Addr → Prop} {s s1 s2 s3 : L2.St} {e e1 e2 e3 : En} {ls ls1 ls2 ls3 : Ls} {ms : List Nat} {D D' : Ends}
/-! ### isinstance(e, C) -/
def excB (K : PySem.W.Frag) (D : Addr) : Bool :=
  decide (PySem.W.findIn K (.ref D) "__getattribute__" = some (some (.builtin "BaseException.__getattribute__"))) && (decide (PySem.W.findIn K (.ref D) "__getattr__" = some none) && (decide (PySem.W.subIn K (.ref D) (.type "BaseException") = some true) && (PySem.W.hasDictIn K D &&
    (decide (PySem.W.findIn K (.ref D) "__class__" = some (some (.builtin "object.__class__"))) && (decide (PySem.W.specialIn K (.builtin "object.__class__") "__get__" = some (some (.builtin "getset_descriptor.__get__"))) && (decide (PySem.W.takesIn K (.builtin "object.__class__") = some true) && decide (PySem.W.mroIn K D (.type "object") = some true)))))))
theorem excB_ok {K : PySem.W.Frag} {D : Addr} (h : excB K D = true) : ExcC K D := by
  unfold excB at h
  simp only [Bool.and_eq_true, decide_eq_true_eq] at h
  obtain ⟨h1, h2, h3, h4, h5, h6, h7, h8⟩ := h
  exact ⟨h1, h2, h3, h4, h5, h6, h7, h8⟩
def KitOk (K : PySem.W.Frag) (cl : Str → Addr) (cv : Value) : List (Str × Bool) → Prop
  | [] => True
  | p :: r => PySem.W.kitOne K (.ref (cl p.1)) cv = some p.2 ∧ KitOk K cl cv r
theorem KitOk.at {K : PySem.W.Frag} {cl : Str → Addr} {cv : Value} {x : Str} {b : Bool} : ∀ {tab : List (Str × Bool)}, KitOk K cl cv tab → tab.lookup x = some b → PySem.W.kitOne K (.ref (cl x)) cv = some b
  | [], _, h => nomatch h
  | (y, v) :: r, ⟨h1, h2⟩, h => by
    rw [List.lookup_cons] at h
    cases q : x == y with
    | true =>
      rw [q] at h
      cases h
      rw [beq_iff_eq.mp q]
      exact h1
    | false =>
      rw [q] at h
      exact KitOk.at h2 h
def isiEF (tab : List (Str × Bool)) : PyData → Option PyData
  | .dict ((_, .str c) :: _) => match tab.lookup c with
    | some b => some (.bool b)
    | none => none
  | _ => none
theorem rv_isx {tab : List (Str × Bool)} {w : V} {cv : Value} (hw : ∀ u, RelV w u → u = cv) (ht : KitOk G.K G.cl cv tab) : Rv1D G (fun x H Q => rIsX G.K [x, w] H Q) (isiEF tab) := fun H a x z ha q Q hq => by
  cases ha with
  | @exc p c h hX =>
    have q : (match tab.lookup c with | some b => some (PyData.bool b) | none => none) = some z := q
    cases g : tab.lookup c with
    | none => rw [g] at q; cases q
    | some b =>
      rw [g] at q
      cases q
      have e := ht.at g
      exact ⟨_, _, _, w, cv, b, rfl, h, fun dd z => (nomatch z), hX.ex, hw, e, hq _ fun _ => .bl _⟩
  | @exf p dd c ns vs ds h h2 h3 h4 hX =>
    have q : (match tab.lookup c with | some b => some (PyData.bool b) | none => none) = some z := q
    cases g : tab.lookup c with
    | none => rw [g] at q; cases q
    | some b =>
      rw [g] at q
      cases q
      have e := ht.at g
      exact ⟨_, _, _, w, cv, b, rfl, h, fun dd z => by cases z; exact ⟨_, h2⟩, hX.ex, hw, e, hq _ fun _ => .bl _⟩
  | _ => cases q
section
variable {X : Cx} {cl : Str → Addr} {n : Nat} {a : Expr} {f : Ev} {pos p : Pos} {tab : List (Str × Bool)}
theorem je_isx {x : Str} {px : Pos} (hm : X.mg "isinstance" = none) (hT : X.mg x = some (.ref (cl x))) (ht : KitOk X.K cl (.ref (cl x)) tab) (h : JE X cl W a f) (hgT : Gl X x := by rfl) (hd : (x == ("__debug__" : Str)) = false := by decide) (hg : Gl X "isinstance" := by rfl) (hs : starEach [a, .Name x px] X.env = (false, eval a X.env) :: starEach [.Name x px] X.env := by rfl) (hpl : (backTo pos (starEach [.Name x px] X.env)).any (·.1) = false := by rfl) : JE X cl W (.Call (.Name "isinstance" p) [a, .Name x px] [] pos) (op1D (isiEF tab) f) :=
  let ⟨_, p1, s1⟩ := h.p; ⟨_, pe_callB call_isX hg hm (by decide +kernel) (pa_cons p1 (pa_cons (pe_glob (v := .ref (cl x)) hgT hT rfl hd) pa_nil rfl) hs) (by decide) (by decide) hs hpl, snd_op1D (G := GX X cl) s1 (rv_isx (fun _ r => r) ht)⟩
theorem je_isxT (T : String) {x : Str} {px : Pos} (hm : X.mg "isinstance" = none) (hT : X.mg x = none) (ht : KitOk X.K cl (.type T) tab) (h : JE X cl W a f) (hgT : Gl X x) (hv : bootBuiltins x = some (.type T)) (hn : x ≠ "__name__" := by decide) (hd : (x == ("__debug__" : Str)) = false := by decide) (hg : Gl X "isinstance" := by rfl) (hs : starEach [a, .Name x px] X.env = (false, eval a X.env) :: starEach [.Name x px] X.env := by rfl) (hpl : (backTo pos (starEach [.Name x px] X.env)).any (·.1) = false := by rfl) : JE X cl W (.Call (.Name "isinstance" p) [a, .Name x px] [] pos) (op1D (isiEF tab) f) :=
  let ⟨_, p1, s1⟩ := h.p; ⟨_, pe_callB call_isX hg hm (by decide +kernel) (pa_cons p1 (pa_cons (pe_bltn (v := .ty T) hgT hT hv rfl hn hd) pa_nil rfl) hs) (by decide) (by decide) hs hpl, snd_op1D (G := GX X cl) s1 (rv_isx (fun _ r => r) ht)⟩
/-! ### raise C("..") -/
structure ExcR (K : PySem.W.Frag) (C : Addr) : Prop where
  ex : PySem.W.excIn K C He.veBase "ValueError.__new__" = true
  ke : PySem.W.keepIn K (.ref C) = true
  su : PySem.W.subIn K (.ref C) (.type "BaseException") = some true
  ty : PySem.W.typeIn K (.ref C) = some (.type "type")
/-! ### try -/
theorem js_try {x nm : Str} {i : Nat} {body suite : List Stmt} {b₀ : Stmt} {np pos' : Pos} {fb fs : Es} (k : Cok X W n) (hN : X.N.Nodup) (hm : X.mg x = some (.ref (cl x))) (ht : TabOk X.K cl x tab)
    (hb : ∀ (W' : WX) (pn : List (Addr × Obj)) (xe : Value → Shared → Prop), Cok (X.tr pn xe) W' n → JSs (X.tr pn xe) cl W' ms body fb)
    (hsu : ∀ (a : Addr) (pn : List (Addr × Obj)), JSs (X.suite a pn) cl W0 ms (b₀ :: suite) fs)
    (hi : X.N[i]? = some nm := by rfl) (hln : X.env.kindOf nm = some .local := by rfl) (hms : ms.contains i = false := by rfl) (hs : X.stack = X.env :: X.outer := by rfl) (hf : X.env.frame = some X.env.locals := by rfl) (hex : X.ex = [] := by rfl) (hg : Gl X x := by rfl) (hd : (x == ("__debug__" : Str)) = false := by decide) :
    JS X cl W ms (.Try body [.ExceptHandler (some (.Name x np)) (some nm) (b₀ :: suite) pos'] [] [] pos) (tryS tab fb i fs) where
  p := ⟨_, ps_try_keep (tb := fun W' => tOfS (GX X cl) W' ms fb) (ts := tOfS (GX X cl) W0 ms fs) hs hf hex hN hi hln ⟨hg, hd, .inl hm⟩ k.tk (fun W' pn xe tk po => (hb W' pn xe ⟨k.calm, k.room, k.gd, tk, po⟩).can) (fun a pn => (hsu a pn).can), snd_try ht hms⟩
end
/-! ### what the head tells -/
inductive Fx where
  | exc (x : Str)
  | kit (x y : Str) (b : Bool)
  | kitT (x : Str) (T : String) (b : Bool)
  | exi (x : Str)
  | exn (x f : Str)
/-- a class of exceptions with its own __init__ -/
def oexB (K : PySem.W.Frag) (C : Addr) : Bool := (match K.lookup C with
  | some ⟨.type "type", _, .cls cd, sl⟩ => (match cd.mro, sl.toList with
    | .ref C' :: bm, [_, _, _, _, some (.builtin n), _] => C' == C && n == "ValueError.__new__" && !cd.hasDel && cd.hasDict && PySem.HandSPX.refsVE bm
    | _, _ => false)
  | _ => false) && (decide (PySem.W.findIn K (.ref C) "__setattr__" = some (some (.builtin "object.__setattr__"))) && (decide (PySem.W.subIn K (.ref C) (.type "BaseException") = some true) && (decide (PySem.W.typeIn K (.ref C) = some (.type "type")) && PySem.W.keepIn K (.ref C))))
theorem oexB_ok {K : PySem.W.Frag} {C : Addr} (h : oexB K C = true) : OexC K C := by
  unfold oexB at h
  rw [Bool.and_eq_true, Bool.and_eq_true, Bool.and_eq_true, Bool.and_eq_true] at h
  obtain ⟨q, h1, h2, h3, h4⟩ := h
  refine ⟨?_, of_decide_eq_true h1, of_decide_eq_true h2, of_decide_eq_true h3, h4⟩
  split at q
  · rename_i dd cd sl ho
    split at q
    · rename_i C' bm k0 k1 k2 k3 n k5 hm hs
      simp only [Bool.and_eq_true, beq_iff_eq, Bool.not_eq_true'] at q
      obtain ⟨⟨⟨⟨rfl, rfl⟩, hdel⟩, hd⟩, ht⟩ := q
      obtain ⟨nm, bs, mro, ns, qn, hd', sn, sub, ab, col, del⟩ := cd
      dsimp only at hm hdel hd
      subst hm hdel hd
      have hsl : sl = #[k0, k1, k2, k3, some (.builtin "ValueError.__new__"), k5] := by
        obtain ⟨l⟩ := sl
        simp only at hs
        rw [hs]
      subst hsl
      exact ⟨nm, qn, ns, bs, bm, sn, sub, ab, col, dd, k0, k1, k2, k3, k5, ho, ht⟩
    · cases q
  · cases q
def Fx.ok (K : PySem.W.Frag) : Fx → Bool
  | .exc x => excB K (He.ga K x) && btys.all fun T => decide (PySem.W.kitOne K (.ref (He.ga K x)) (.type T) = some false)
  | .kit x y b => decide (PySem.W.kitOne K (.ref (He.ga K x)) (.ref (He.ga K y)) = some b)
  | .kitT x T b => decide (PySem.W.kitOne K (.ref (He.ga K x)) (.type T) = some b)
  | .exi x => oexB K (He.ga K x) && (decide (PySem.W.findIn K (.ref (He.ga K x)) "__init__" = some (some (.ref (He.ma K (He.ga K x) "__init__")))) && decide (PySem.W.typeIn K (.ref (He.ma K (He.ga K x) "__init__")) = some (.type "function")))
  | .exn x f => decide (PySem.W.findIn K (.ref (He.ga K x)) f = some none)
/-- a class of exceptions with its own __init__, which is a def -/
structure OexI (K : PySem.W.Frag) (C f : Addr) : Prop where
  c : OexC K C
  i : PySem.W.findIn K (.ref C) "__init__" = some (some (.ref f))
  t : PySem.W.typeIn K (.ref f) = some (.type "function")
theorem fx_exi {K : PySem.W.Frag} {x : Str} (h : (Fx.exi x).ok K = true) : OexI K (He.ga K x) (He.fAd K (x, some "__init__")) := by
  have h : (oexB K (He.ga K x) && (decide (PySem.W.findIn K (.ref (He.ga K x)) "__init__" = some (some (.ref (He.ma K (He.ga K x) "__init__")))) && decide (PySem.W.typeIn K (.ref (He.ma K (He.ga K x) "__init__")) = some (.type "function")))) = true := h
  rw [Bool.and_eq_true, Bool.and_eq_true] at h
  exact ⟨oexB_ok h.1, of_decide_eq_true h.2.1, of_decide_eq_true h.2.2⟩
theorem fx_exn {K : PySem.W.Frag} {x f : Str} (h : (Fx.exn x f).ok K = true) : PySem.W.findIn K (.ref (He.ga K x)) f = some none := of_decide_eq_true h
theorem fx_exc {K : PySem.W.Frag} {cl : Str → Addr} {x : Str} (z : cl x = He.ga K x) (h : (Fx.exc x).ok K = true) : XcOk ⟨K, cl⟩ x := by
  have h : (excB K (He.ga K x) && btys.all fun T => decide (PySem.W.kitOne K (.ref (He.ga K x)) (.type T) = some false)) = true := h
  rw [Bool.and_eq_true, ← z] at h
  exact ⟨excB_ok h.1, fun T hT => of_decide_eq_true (List.all_eq_true.mp h.2 T hT)⟩
theorem Fx.at {K : PySem.W.Frag} {fx : List Fx} (c : (fx.all fun f => f.ok K) = true) (i : Nat) {f : Fx} (h : fx[i]? = some f := by rfl) : f.ok K = true := List.all_eq_true.mp c f (List.mem_of_getElem? h)
def obsX (fa : List He.Fa) (fx : List Fx) (fn : List He.DefD) (K : PySem.W.Frag) : AlT := (He.obsD fa fn K, fx.all fun f => f.ok K)
end R

/-! a, b, c = found, and found shown later: while both names stand for the same things, they are only read -/
namespace R
open PySem PySem.Spec PyProof.Rows L2
open Evl (Ex)
variable {G : Gs} {W : WX} {F H F1 H1 F2 H2 F3 H3 H0 F0 : Hp} {M O : Addr → Prop} {s s0 s1 s2 s3 : L2.St} {e e0 e1 e2 e3 : En} {ls ls0 ls1 ls2 ls3 : Ls} {ms : List Nat} {D D' : Ends}
def holdL : List Nat → En → En
  | [], e => e
  | i :: L, e => holdE i (holdL L e)
theorem Env.holdL (E : Env G F H s e ls) : ∀ {L : List Nat}, Env G F H s (holdL L e) ls
  | [] => E
  | i :: L => (Env.holdL E (L := L)).hold
/-- all of L stand as one's own -/
def OwnAt (e : En) (L : List Nat) : Prop := ∀ i ∈ L, ∃ t, e[i]? = some (.o t)
/-- slot i's tuple has been parted among the names js -/
def VI (F : Hp) (s : L2.St) (e : En) (i : Nat) (js : List Nat) : Prop := e[i]? = some (.o .un) ∧ ∃ a xs, s[i]? = some (some (.ref a)) ∧ F a = some (.tup xs) ∧ xs.length = js.length ∧ ∀ (m j : Nat), js[m]? = some j → ∃ t v, e[j]? = some (.o t) ∧ t ≠ .un ∧ xs[m]? = some v ∧ s[j]? = some (some v)
theorem VI.own {i : Nat} {js : List Nat} (h : VI F s e i js) : OwnAt e (i :: js) := fun k hk => by
  rcases List.mem_cons.mp hk with rfl | hk
  · exact ⟨_, h.1⟩
  · obtain ⟨m, hm⟩ := List.getElem?_of_mem hk
    obtain ⟨_, _, _, _, _, _, g⟩ := h
    obtain ⟨t, _, h1, _⟩ := g m k hm
    exact ⟨t, h1⟩
def SndVI (G : Gs) (W : WX) (ms : List Nat) (i : Nat) (js : List Nat) (ts : TS) (f : Es) : Prop := ∀ s0 F0 H0 e0 ls0 D s F H e ls, Ex F H → Env G F H s e ls → Stp e0 ls0 F0 H0 s0 e ls F H s → Kp ms s0 s → VI F s e i js → SPost G W ms s0 e0 ls0 F0 H0 (f (R.holdL (i :: js) e)) D → ts D s H
/-! ### the end: found is shown -/
def relE (j : Nat) (e : En) : En := match e[j]? with
  | some (.r t) => e.set j (.o t)
  | _ => e
def relL : List Nat → En → En
  | [], e => e
  | i :: L, e => relE i (relL L e)
/-! ### the start -/
def noUn : List Tr → Bool
  | [] => true
  | t :: ts => !isUn t && noUn ts
/-! ### the rules -/
structure JV (X : Cx) (cl : Str → Addr) (W : WX) (ms : List Nat) (i : Nat) (js : List Nat) (sts : List Stmt) (f : Es) : Prop where
  p : ∃ t, PSs X sts t ∧ SndVI (GX X cl) W ms i js t f
section
variable {X : Cx} {cl : Str → Addr} {n : Nat} {i : Nat} {js : List Nat} {st : Stmt} {sts : List Stmt} {es : List Expr} {f g : Es} {pos p : Pos}
end
end R

/-! A clause without a name: except x: .. -/
namespace R
open PySem PySem.Spec PyProof.Rows L2
open Evl (Ex)
variable {G : Gs} {W : WX} {F H F1 H1 F2 H2 F3 H3 H0 : Hp} {M O : Addr → Prop} {s s1 s2 s3 : L2.St} {e e1 e2 e3 : En} {ls ls1 ls2 ls3 : Ls} {ms : List Nat} {D D' : Ends}
def noExc : So → So
  | .exc _ _ => .no
  | o => o
def tryN (tab : List (Str × Bool)) (body : Es) (suite : Es) (e : En) : So := match body e with
  | .exc x e1 => (match tab.lookup x.c with
    | some true => noExc (suite e1)
    | some false => .exc x e1
    | none => .no)
  | o => o
/-! ### tuple(range(..)) -/
def trng1 (f : Ev) (e : En) : Out Rs := (rng1 f e).bnd fun ds e1 => if lenOk ds.length then .ok (.dat (.tuple ds)) e1 else .no
section
variable {X : Cx} {cl : Str → Addr} {n : Nat} {a : Expr} {f : Ev} {pos p p2 q : Pos}
end
section
variable {X : Cx} {cl : Str → Addr} {n : Nat} {pos : Pos} {tab : List (Str × Bool)}
end
end R

/-! Two places at once, bool(x), a comprehension in a comprehension -/
namespace R
open PySem PySem.Spec PyProof.Rows L2
open Evl (Ex)
variable {G : Gs} {W : WX} {F H F1 H1 F2 H2 F3 H3 H0 : Hp} {M O : Addr → Prop} {s s1 s2 s3 : L2.St} {e e1 e2 e3 : En} {ls ls1 ls2 ls3 : Ls} {ms : List Nat} {D D' : Ends}
/-- o1[i1], o2[i2] = a pair of data -/
def swpS (o1 i1 o2 i2 f : Ev) (e : En) : So := (asD f e).so fun d e1 => match d with
  | .tuple [d1, d2] => ((stoS o1 i1 (cstV d1) e1).thn (stoS o2 i2 (cstV d2))).thn skipS
  | _ => .no
/-- frozen first -/
def frzV (f : Ev) (e : En) : Out Rs := (asD f e).bnd fun d e1 => .ok (.dat d) e1
theorem snd_frz {te : TE} {f : Ev} (h : SndV G W te f) : SndV G W te (frzV f) := fun s F H e ls k E Q q =>
  h.dat s F H e ls k E Q (Post.mono q.bnd0 fun d e2 ls2 F2 H2 _ T E2 p v hv => p ls2 F2 H2 T E2 v hv)
def boolF : PyData → Option Rz
  | .int i => some (.dat (.bool (i != 0)))
  | .bool b => some (.dat (.bool b))
  | _ => none
section
variable {X : Cx} {cl : Str → Addr} {n : Nat} {a b c tg ex : Expr} {es : List Expr} {f g : Ev} {fs : List Ev} {t u : Et} {pos p apos spos : Pos} {it : Ei} {st : Stmt} {sts : List Stmt} {fa fb : Es}
theorem je_frz (h : JE X cl W ex f) : JE X cl W ex (frzV f) := let ⟨_, p1, s1⟩ := h.p; ⟨_, p1, snd_frz s1⟩
end
end R

/-! xs[::-1] -/
namespace R
open PySem PySem.Spec PyProof.Rows L2
open Evl (Ex)
variable {G : Gs} {W : WX} {F H F1 H1 F2 H2 F3 H3 H0 : Hp} {M O : Addr → Prop} {s s1 s2 s3 : L2.St} {e e1 e2 e3 : En} {ls ls1 ls2 ls3 : Ls} {ms : List Nat} {D D' : Ends}
def revF : PyData → Option Rz
  | .list ds => some (.lst ds.reverse)
  | _ => none
/-! ### str(x) of what may be no list -/
theorem call_strN {X : Cx} : CallR X (.type "str") (fun xs H Q => xs = [.non] ∧ Q (.str "None") H) := by
  intro pins s σ H xs us Q I r h
  obtain ⟨rfl, q⟩ := h
  cases r with
  | cons r1 r2 =>
    cases r2
    cases (show _ = Value.none from r1)
    exact PySem.P.str_of_none ⟨.str "None", H, I.tok _, ⟨_, rfl⟩, q⟩
theorem call_strS {X : Cx} : CallR X (.type "str") (fun xs H Q => ∃ a, xs = [.str a] ∧ Q (.str a) H) := by
  intro pins s σ H xs us Q I r h
  obtain ⟨a, rfl, q⟩ := h
  obtain ⟨u, rfl, t, rfl⟩ := vals1 r
  exact PySem.P.str_of_str ⟨.str a, H, I, ⟨t, rfl⟩, q⟩
def rStrA (K : PySem.W.Frag) : List V → Hp → VK → Prop := fun xs H Q => rShow K xs H Q ∨ ((∃ i, xs = [.int i] ∧ i.natAbs.log2 < 1920 ∧ Q (.str (toString i)) H) ∨ ((∃ a, xs = [.str a] ∧ Q (.str a) H) ∨ (xs = [.non] ∧ Q (.str "None") H)))
theorem call_strA {X : Cx} (hg : X.A.guards = some []) (hu : X.A.units + 64 < cLine) : CallR X (.type "str") (rStrA X.K) := callR_or (cStrD hg hu) (callR_or call_str_int (callR_or call_strS call_strN))
def strF : PyData → Option PyData
  | .int n => if n.natAbs < 1000000 then some (.str (Str.ofString (toString n))) else none
  | .str z => some (.str z)
  | .none => some (.str "None")
  | d => showF d
theorem rv_strA : Rv1D G (fun x H Q => rStrA G.K [x] H Q) strF := fun H a x z ha q Q hq => by
  have sh : ∀ {y : PyData}, Dq G H a y → showF y = some z → rStrA G.K [a] H Q := fun ha q => .inl (rv_show H a _ z ha q Q hq)
  cases x with
  | int n =>
    unfold strF at q
    dsimp only at q
    split at q
    · rename_i c
      cases q
      cases ha
      refine .inr (.inl ⟨n, rfl, ?_, hq _ fun _ => .str _⟩)
      have h0 : n.natAbs = 0 ∨ n.natAbs ≠ 0 := by omega
      rcases h0 with z | z
      · rw [z]; decide
      · exact (Nat.log2_lt z).mpr (Nat.lt_of_lt_of_le c (Nat.le_trans (by decide : 1000000 ≤ 2 ^ 20) (Nat.pow_le_pow_right (by decide) (by decide))))
    · cases q
  | str y =>
    cases q
    cases ha
    exact .inr (.inr (.inl ⟨_, rfl, hq _ fun _ => .str _⟩))
  | none =>
    cases q
    cases ha
    exact .inr (.inr (.inr ⟨rfl, hq _ fun _ => .str _⟩))
  | bool b => exact sh ha q
  | list ds => exact sh ha q
  | tuple ds => exact sh ha q
  | dict ds => exact sh ha q
section
variable {X : Cx} {cl : Str → Addr} {n : Nat} {a b : Expr} {f g : Ev} {pos p p2 : Pos}
end
theorem rev_eq {ds : List PyData} : revF (.list ds) = some (.lst ds.reverse) := rfl
end R

/-! Dicts with keys that are tuples. -/
namespace R
open PySem PySem.Spec PyProof.Rows L2
open Evl (Ex)
variable {G : Gs} {W : WX} {F H F1 H1 F2 H2 F3 H3 H0 : Hp} {M O : Addr → Prop} {s s1 s2 s3 : L2.St} {e e1 e2 e3 : En} {ls ls1 ls2 ls3 : Ls} {ms : List Nat} {D D' : Ends}
abbrev KvsT := List (List Key × PyData)
def keysOf : List PyData → Option (List Key)
  | [] => some []
  | d :: ds => match keyOf d, keysOf ds with
    | some k, some ks => some (k :: ks)
    | _, _ => none
def keyT : PyData → Option (List Key)
  | .tuple ds => keysOf ds
  | _ => none
/-! ### in, d[k] -/
def ditR (e : En) (r : Rs) : Option KvsT := match getR e r with
  | some (.dit kvs) => some kvs
  | _ => none
def dinT (neg : Bool) (f g : Ev) (e : En) : Out Rs := (twoF f g e).bnd fun p e2 => match (rdS e2 p.1).bind keyT, ditR e2 p.2 with
  | some k, some kvs => .ok (.dat (.bool (if neg then !(valD kvs k).isSome else (valD kvs k).isSome))) e2
  | _, _ => .no
def dgetT (f g : Ev) (e : En) : Out Rs := (twoF f g e).bnd fun p e2 => match ditR e2 p.1, (rdS e2 p.2).bind keyT with
  | some kvs, some k => match valD kvs k with
    | some d => .ok (.dat d) e2
    | none => .no
  | _, _ => .no
/-! ### new ones -/
def dnewT (e : En) : Out Rs := .ok (.new (.dit [])) e
/-! ### d[k] = x -/
def dputT (o i f : Ev) (e : En) : So := (asD f e).so fun d e1 => (twoF o i e1).so fun p e2 => match (rdS e2 p.2).bind keyT with
  | some ky => match p.1 with
    | .pl k pa => match getPl e2 k pa with
      | some (.dit kvs) => if isO e2 k && lenOk kvs.length then .nx (putPl e2 k pa (.dit (putD kvs ky d))) else .no
      | _ => .no
    | _ => .no
  | _ => .no
/-! ### the dict in slot i is walked: it is locked for the time -/
section
variable {d : Addr} {od : Obj} {ks : List (List Key × V)} {kvs : KvsT}
end
def unlS (i : Nat) (kvs : KvsT) : So → So
  | .nx e2 => .nx (e2.set i (.o (.dit kvs)))
  | .bk e2 => .bk (e2.set i (.o (.dit kvs)))
  | .ct e2 => .ct (e2.set i (.o (.dit kvs)))
  | .rt t e2 => .rt t (e2.set i (.o (.dit kvs)))
  | _ => .no
def forK (its : KvsT → List PyData) (i : Nat) (g : Tg) (b : Es) (e : En) : So := match e[i]? with
  | some (.o (.dit kvs)) => unlS i kvs (forF g b (its kvs) (e.set i (.r .un)))
  | _ => .no
end R

/-! for k, v in d.items(), [.. for k in d ..], {(): x} where the keys are tuples. -/
namespace R
open PySem PySem.Spec PyProof.Rows L2
open Evl (Ex)
section
variable {X : Cx} {pins : List (Addr × Obj)} {σ : L2.St} {H : Hp} {s : Shared} {d : Addr} {o : Obj}
end
section
variable {P : Program} {w : World} {K : PySem.W.Frag} {d : Addr} {o : Obj} {es : Array DictEntry} {ep : Nat}
end
variable {G : Gs} {W : WX} {F H F1 H1 F2 H2 F3 H3 H0 : Hp} {M O : Addr → Prop} {s s1 s2 s3 : L2.St} {e e1 e2 e3 : En} {ls ls1 ls2 ls3 : Ls} {ms : List Nat} {D D' : Ends}
/-! ### [.. for k in d ..] -/
def lcK (its : KvsT → List PyData) (vs : List Nat) (i : Nat) (g : Tg) (c : Et) (elt : Ev) (e : En) : Out Rs := match e[i]? with
  | some (.o (.dit kvs)) => if wipeOk (e.set i (.r .un)) vs && !(vs.contains i) then (match lcDF vs g c elt (its kvs) [] (wipeE (e.set i (.r .un)) vs) with
    | .ok acc eF => .ok (.new (.own acc)) ((unwipe (e.set i (.r .un)) eF vs).set i (.o (.dit kvs)))
    | _ => .no) else .no
  | _ => .no
/-! ### {k: v} with a tuple k -/
section
variable {prog : Program} {w : World} {K : Type} [DecidableEq K] {knd : HeapKind prog w K} {A : Around} {E : Value → Shared → Prop} {s : Shared} {env : PySem.Env}
end
def ddispT (f g : Ev) (e : En) : Out Rs := (asD f e).bnd fun d e1 => (asD g e1).bnd fun d2 e2 => match keyT d with
  | some k => .ok (.new (.dit [(k, d2)])) e2
  | none => .no
section
variable {X : Cx} {cl : Str → Addr} {n : Nat} {a b c tg ex o i : Expr} {f g fo fi : Ev} {pos p2 p spos apos cpos : Pos} {fa : Es}
end
end R

/-! sorted(t) of a tuple of ints; xs.index(x) -/
namespace R
open PySem PySem.Spec PyProof.Rows L2 SrtO
open Evl (Ex)
section
variable {prog : Program} {w : World} {A : Around} {E : Value → Shared → Prop} {s : Shared}
end
variable {G : Gs} {W : WX} {F H F1 H1 F2 H2 F3 H3 H0 : Hp}
/-! ### xs.index(x), xs.count(x) of truths -/
theorem fl_ints {ns : List Int} : (ns.map V.int).all flatV = true := List.all_eq_true.mpr fun x hx => by obtain ⟨i, _, rfl⟩ := List.mem_map.mp hx; rfl
theorem fl_bls {ns : List Bool} : (ns.map V.bl).all flatV = true := List.all_eq_true.mpr fun x hx => by obtain ⟨i, _, rfl⟩ := List.mem_map.mp hx; rfl
def idxF : PyData → PyData → Option Rz
  | .list ds, .int k => match intsOf ds with
    | some ns => if ns.idxOf k < ns.length then some (.dat (.int (ns.idxOf k : Nat))) else none
    | none => none
  | .list ds, .bool k => match boolsOf ds with
    | some ns => if ns.idxOf k < ns.length then some (.dat (.int (ns.idxOf k : Nat))) else none
    | none => none
  | _, _ => none
theorem idx_far {α : Type} [BEq α] [LawfulBEq α] {l : List α} {k : α} {m : Nat} {z : α} (hm : m < l.idxOf k) (h : l[m]? = some z) : (z == k) = false := by
  cases e : z == k with
  | false => rfl
  | true =>
    have e := eq_of_beq e
    subst e
    have := List.not_of_lt_findIdx (p := (· == z)) (xs := l) (i := m) hm
    obtain ⟨h1, h2⟩ := List.getElem?_eq_some_iff.mp h
    rw [h2] at this
    simp at this
theorem rv_idx : Rv2 G (fun x y H Q => rIndex G.K x [y] H Q) idxF := fun F H a b x y z k ha hb q Q hq => by
  cases ha with
  | lst h1 h2 =>
    rename_i a xs ds
    cases hb with
    | int n =>
      simp only [idxF] at q
      cases g : intsOf ds with
      | none => rw [g] at q; cases q
      | some ns =>
        rw [g] at q
        dsimp only at q
        split at q
        · rename_i hl
          cases q
          rw [intsOf_some g] at h2
          rw [dqa_ints' h2] at h1
          refine ⟨a, _, .int n, ns.idxOf n, .int n, rfl, rfl, sqL h1, rfl, fl_ints, ?_, ?_, fun m z' hm hz => ?_, hq _ F H (rz_now k (.int _))⟩
          · rw [List.getElem?_map, List.getElem?_eq_getElem hl]
            exact congrArg (fun x => some (V.int x)) (List.getElem_idxOf hl)
          · show (n == n) = true
            exact beq_self_eq_true n
          · rw [List.getElem?_map] at hz
            obtain ⟨i, hi, rfl⟩ := Option.map_eq_some_iff.mp hz
            exact idx_far hm hi
        · cases q
    | bl n =>
      simp only [idxF] at q
      cases g : boolsOf ds with
      | none => rw [g] at q; cases q
      | some ns =>
        rw [g] at q
        dsimp only at q
        split at q
        · rename_i hl
          cases q
          rw [boolsOf_some g] at h2
          rw [dqa_bls' h2] at h1
          refine ⟨a, _, .bl n, ns.idxOf n, .bl n, rfl, rfl, sqL h1, rfl, fl_bls, ?_, ?_, fun m z' hm hz => ?_, hq _ F H (rz_now k (.int _))⟩
          · rw [List.getElem?_map, List.getElem?_eq_getElem hl]
            exact congrArg (fun x => some (V.bl x)) (List.getElem_idxOf hl)
          · show (n == n) = true
            exact beq_self_eq_true n
          · rw [List.getElem?_map] at hz
            obtain ⟨i, hi, rfl⟩ := Option.map_eq_some_iff.mp hz
            exact idx_far hm hi
        · cases q
    | _ => cases q
  | _ => cases q
def rCntB (K : PySem.W.Frag) : V → List V → Hp → VK → Prop := fun x xs H Q => ∃ (p : Addr) (ns : List Bool) (k : Bool), x = .ref p ∧ xs = [.bl k] ∧ SqL K H p (ns.map V.bl) ∧ Q (.int (ns.count k : Nat)) H
theorem eqU_count {k : Bool} : ∀ {us : List Value} {ns : List Bool}, Vals (ns.map V.bl) us → us.countP (eqU (.bl k)) = ns.count k
  | _, [], h => by cases h; rfl
  | _, b :: ns, h => by
    cases h with
    | cons r t =>
      rw [List.countP_cons, List.count_cons, eqU_count t, eqU_of r rfl]
      rfl
theorem mt_lcountB {X : Cx} : MtR X "list.count" (rCntB X.K) := by
  intro pins s σ H x xs v us Q I rx rxs h
  obtain ⟨p, ns, k, rfl, rfl, hs, q⟩ := h
  cases rx
  obtain ⟨u, rfl, ru⟩ := rxs.one
  obtain ⟨its, rv, ⟨⟨cls, dd, data, sl⟩, n, ho, hc, hdn, hd⟩, hlen⟩ := I.list hs
  simp only at hc hd
  subst hc hd
  refine call_meets PySem.F.slot_list_count ⟨_, ho, rfl⟩ PySem.F.entry_list_count (PySem.F.args_list_count_2 _ _)
    (SeqAt.list_countAt p its.toArray n dd sl u (eqU (.bl k))) ⟨ho, fun y hy => mem_eqAt ru rfl rv fl_bls y (by simpa using hy), ?_⟩
  have ec : its.toArray.toList.countP (eqU (.bl k)) = ns.count k := eqU_count rv
  refine ⟨.int (ns.count k : Nat), H, I.tok _, ⟨s.toks, ?_⟩, q⟩
  show Value.int ((its.toArray.toList.countP (eqU (.bl k)) : Nat) : Int) s.toks = Value.int ((ns.count k : Nat) : Int) s.toks
  rw [ec]
def cntBF : PyData → PyData → Option Rz
  | .list ds, .bool k => match boolsOf ds with
    | some ns => some (.dat (.int (ns.count k : Nat)))
    | none => none
  | _, _ => none
theorem rv_cntB : Rv2 G (fun x y H Q => rCntB G.K x [y] H Q) cntBF := fun F H a b x y z k ha hb q Q hq => by
  cases ha with
  | lst h1 h2 =>
    rename_i a xs ds
    cases hb with
    | bl n =>
      simp only [cntBF] at q
      cases g : boolsOf ds with
      | none => rw [g] at q; cases q
      | some ns =>
        rw [g] at q; cases q
        rw [boolsOf_some g] at h2
        rw [dqa_bls' h2] at h1
        exact ⟨a, ns, n, rfl, rfl, sqL h1, hq _ F H (rz_now k (.int _))⟩
    | _ => cases q
  | _ => cases q
section
variable {X : Cx} {cl : Str → Addr} {n : Nat} {a b c : Expr} {f g : Ev} {pos p apos : Pos}
theorem je_index (ho : JE X cl W a f) (hb : JE X cl W b g) (hbase : attributeBase a "index" X.env (eval a X.env) = eval a X.env := by rfl) (hfew : (((backTo pos (starEach [b] X.env)).all fun x => !x.1) && (backToKw pos (keywordEach [] X.env)).all fun x => x.1.isSome) && decide ((([b] : List Expr).length + ([] : List Keyword).length + if ([] : List Keyword).isEmpty = true then 0 else 1) < 30) = true := by rfl) (hline : (apos.endLine == pos.line) = true := by rfl) (hs : starEach [b] X.env = (false, eval b X.env) :: starEach [] X.env := by rfl) : JE X cl W (.Call (.Attribute a "index" apos) [b] [] pos) (mth1 idxF f g) :=
  let ⟨_, p1, s1⟩ := ho.p; let ⟨_, p2, s2⟩ := hb.p; ⟨_, pe_bm PySem.F.plainAttrs_list PySem.F.slot_list_index PySem.F.type_list_index mt_index p1 (pa_cons p2 pa_nil hs) hbase hfew (hline := hline) (hs := hs), snd_mth1 (G := GX X cl) s1 s2 rv_idx⟩
theorem je_countB (ho : JE X cl W a f) (hb : JE X cl W b g) (hbase : attributeBase a "count" X.env (eval a X.env) = eval a X.env := by rfl) (hfew : (((backTo pos (starEach [b] X.env)).all fun x => !x.1) && (backToKw pos (keywordEach [] X.env)).all fun x => x.1.isSome) && decide ((([b] : List Expr).length + ([] : List Keyword).length + if ([] : List Keyword).isEmpty = true then 0 else 1) < 30) = true := by rfl) (hline : (apos.endLine == pos.line) = true := by rfl) (hs : starEach [b] X.env = (false, eval b X.env) :: starEach [] X.env := by rfl) : JE X cl W (.Call (.Attribute a "count" apos) [b] [] pos) (mth1 cntBF f g) :=
  let ⟨_, p1, s1⟩ := ho.p; let ⟨_, p2, s2⟩ := hb.p; ⟨_, pe_bm PySem.F.plainAttrs_list PySem.F.slot_list_count PySem.F.type_list_count mt_lcountB p1 (pa_cons p2 pa_nil hs) hbase hfew (hline := hline) (hs := hs), snd_mth1 (G := GX X cl) s1 s2 rv_cntB⟩
end
end R

/-! min(t), max(t) of a tuple of ints -/
namespace R
open PySem PySem.Spec PyProof.Rows L2
open Evl (Ex)
section
variable {prog : Program} {w : World} {A : Around} {E : Value → Shared → Prop} {s : Shared} {l : Addr} {xs : Array (Int × Tok)} {its : List Value} {ns : List Int} {Q : Value → Shared → Prop}
end
variable {G : Gs} {W : WX} {F H : Hp}
section
variable {X : Cx} {cl : Str → Addr} {n : Nat} {a : Expr} {f : Ev} {pos p : Pos}
end
end R

/-! A tree put behind a list of one's own. -/
namespace R
open PySem PySem.Spec PyProof.Rows L2
open Evl (Ex)
variable {G : Gs} {W : WX} {F H F1 H1 F2 H2 F3 H3 H0 : Hp} {s s1 s2 s3 : L2.St} {e e1 e2 e3 : En} {ls ls1 ls2 ls3 : Ls}
def appTO (t : Tr) : Tr → Option Tr
  | .own ds => if lenOk ds.length then some (.lst (ds.map .dat ++ [t])) else none
  | .lst ts => if lenOk ts.length then some (.lst (ts ++ [t])) else none
  | _ => none
def appTB (t : Tr) (x : Rs) (e2 : En) : Out Rs := match x with
  | .pl i p => match getPl e2 i p with
    | some t0 => if isO e2 i then (match appTO t t0 with
      | some t1 => .ok (.dat .none) (putPl e2 i p t1)
      | none => .no) else .no
    | none => .no
  | _ => .no
def appT (f g : Ev) (e : En) : Out Rs := (f e).bnd fun x e1 => if isL e1 x then (((asT g (holdR x e1)).onE (unholdR x e1)).bnd fun t e2 => appTB t x e2) else .no
section
variable {X : Cx} {cl : Str → Addr} {n : Nat} {a b c : Expr} {f g : Ev} {pos p apos : Pos}
end
end R

/-! repr(x) of what may be no list -/
namespace R
open PySem PySem.Spec PyProof.Rows L2
open Evl (Ex)
variable {G : Gs} {W : WX} {F H F1 H1 F2 H2 F3 H3 H0 : Hp} {M O : Addr → Prop} {s s1 s2 s3 : L2.St} {e e1 e2 e3 : En} {ls ls1 ls2 ls3 : Ls} {ms : List Nat} {D D' : Ends}
theorem call_reprI {X : Cx} : CallR X (.builtin "repr") (fun xs H Q => ∃ i, xs = [.int i] ∧ i.natAbs.log2 < 1920 ∧ Q (.str (toString i)) H) := by
  intro pins s σ H xs us Q I r h
  obtain ⟨i, rfl, hz, q⟩ := h
  obtain ⟨u, rfl, t, rfl⟩ := vals1 r
  exact PySem.P.repr_of_int hz ⟨.str _, H, I.tok _, ⟨_, rfl⟩, q⟩
theorem call_reprS {X : Cx} : CallR X (.builtin "repr") (fun xs H Q => ∃ a, xs = [.str a] ∧ (reprText a).length ≤ sizeLine ∧ Q (.str (reprText a)) H) := by
  intro pins s σ H xs us Q I r h
  obtain ⟨a, rfl, hz, q⟩ := h
  obtain ⟨u, rfl, t, rfl⟩ := vals1 r
  exact PySem.P.repr_of_str ⟨.str _, H, I.tok _, ⟨_, rfl⟩, q⟩ hz
theorem call_reprN {X : Cx} : CallR X (.builtin "repr") (fun xs H Q => xs = [.non] ∧ Q (.str "None") H) := by
  intro pins s σ H xs us Q I r h
  obtain ⟨rfl, q⟩ := h
  cases r with
  | cons r1 r2 =>
    cases r2
    cases (show _ = Value.none from r1)
    exact PySem.P.repr_of_none ⟨.str "None", H, I.tok _, ⟨_, rfl⟩, q⟩
def rRepA (K : PySem.W.Frag) : List V → Hp → VK → Prop := fun xs H Q => rShow K xs H Q ∨ ((∃ i, xs = [.int i] ∧ i.natAbs.log2 < 1920 ∧ Q (.str (toString i)) H) ∨ ((∃ a, xs = [.str a] ∧ (reprText a).length ≤ sizeLine ∧ Q (.str (reprText a)) H) ∨ (xs = [.non] ∧ Q (.str "None") H)))
theorem call_reprA {X : Cx} (hg : X.A.guards = some []) (hu : X.A.units + 64 < cLine) : CallR X (.builtin "repr") (rRepA X.K) := callR_or (cReprD hg hu) (callR_or call_reprI (callR_or call_reprS call_reprN))
def reprF : PyData → Option PyData
  | .int n => if n.natAbs < 1000000 then some (.str (Str.ofString (toString n))) else none
  | .str z => if lenOk (reprText z).length then some (.str (reprText z)) else none
  | .none => some (.str "None")
  | d => showF d
theorem rv_repA : Rv1D G (fun x H Q => rRepA G.K [x] H Q) reprF := fun H a x z ha q Q hq => by
  have sh : ∀ {y : PyData}, Dq G H a y → showF y = some z → rRepA G.K [a] H Q := fun ha q => .inl (rv_show H a _ z ha q Q hq)
  cases x with
  | int n =>
    unfold reprF at q
    dsimp only at q
    split at q
    · rename_i c
      cases q
      cases ha
      refine .inr (.inl ⟨n, rfl, ?_, hq _ fun _ => .str _⟩)
      have h0 : n.natAbs = 0 ∨ n.natAbs ≠ 0 := by omega
      rcases h0 with z | z
      · rw [z]; decide
      · exact (Nat.log2_lt z).mpr (Nat.lt_of_lt_of_le c (Nat.le_trans (by decide : 1000000 ≤ 2 ^ 20) (Nat.pow_le_pow_right (by decide) (by decide))))
    · cases q
  | str y =>
    unfold reprF at q
    dsimp only at q
    split at q
    · rename_i c
      cases q
      cases ha
      exact .inr (.inr (.inl ⟨_, rfl, Nat.le_of_lt (len_lt c), hq _ fun _ => .str _⟩))
    · cases q
  | none =>
    cases q
    cases ha
    exact .inr (.inr (.inr ⟨rfl, hq _ fun _ => .str _⟩))
  | bool b => exact sh ha q
  | list ds => exact sh ha q
  | tuple ds => exact sh ha q
  | dict ds => exact sh ha q
section
variable {X : Cx} {cl : Str → Addr} {n : Nat} {a b : Expr} {f g : Ev} {pos p p2 : Pos}
theorem je_reprA (k : Cok X W n) (hm : X.mg "repr" = none) (h : JE X cl W a f) (hg : Gl X "repr" := by rfl) (hs : starEach [a] X.env = (false, eval a X.env) :: starEach [] X.env := by rfl) : JE X cl W (.Call (.Name "repr" p) [a] [] pos) (op1D reprF f) := let ⟨_, p1, s1⟩ := h.p; ⟨_, pe_callB (call_reprA k.gd k.room.units) hg hm (by decide +kernel) (pa_cons p1 pa_nil hs) (by decide) (by decide) hs rfl, snd_op1D (G := GX X cl) s1 rv_repA⟩
end
end R

/-! A call whose second argument is a part, at any depth, of what is one's own: lent to be read only. -/
namespace R
open PySem PySem.Spec PyProof.Rows L2
open Evl (Ex)
variable {G : Gs} {W : WX} {F H F1 H1 F2 H2 F3 H3 H0 : Hp} {s s1 s2 s3 : L2.St} {e e1 e2 e3 : En} {ls ls1 ls2 ls3 : Ls}
def lentY (R : List Tr → Ret) (d1 : PyData) (x : Rs) (e2 : En) : Out Rs := match x with
  | .pl i p => match getPl e2 i p with
    | some t => if isO e2 i then (match t.data with
      | some d => match R [.dat d1, .dat d] with
        | .ret (.dat r) [] => if lf r then .ok (.dat r) e2 else .no
        | _ => .no
      | none => .no) else .no
    | none => .no
  | _ => .no
def callY (R : List Tr → Ret) (g f : Ev) (e : En) : Out Rs := (asD g e).bnd fun d1 e1 => (f e1).bnd fun x e2 => lentY R d1 x e2
section
variable {X : Cx} {cl : Str → Addr} {n : Nat} {a b : Expr} {f g : Ev} {pos p : Pos}
end
end R

/-! A tuple parted among names: where a test holds, the rest is left with the parts as one's own. -/
namespace R
open PySem PySem.Spec PyProof.Rows L2
open Evl (Ex)
variable {G : Gs} {W : WX} {F H F1 H1 F2 H2 F3 H3 H0 : Hp} {s s1 s2 s3 : L2.St} {e e1 e2 e3 : En} {ls ls1 ls2 ls3 : Ls} {ms : List Nat} {D D' : Ends}
def vifS (i : Nat) (js : List Nat) (t : Et) (a : Es) (e : En) : So := match t e with
  | .ok true e2 => match a (relL (i :: js) e2) with
    | .rt t e3 => .rt t e3
    | _ => .no
  | .ok false e2 => .nx e2
  | .exc _ _ => .no
  | .no => .no
section
variable {X : Cx} {cl : Str → Addr} {n : Nat} {i : Nat} {js : List Nat} {st : Stmt} {sts sa : List Stmt} {c : Expr} {t : Et} {fa g : Es} {pos p : Pos}
end
end R

/-! if (x := e) is not None: .. -/
namespace R
open PySem PySem.Spec PyProof.Rows L2
open Evl (Ex)
variable {G : Gs} {W : WX} {F H F1 H1 F2 H2 F3 H3 H0 : Hp} {s s1 s2 s3 : L2.St} {e e1 e2 e3 : En} {ls ls1 ls2 ls3 : Ls} {ms : List Nat} {D D' : Ends}
def ifW (i : Nat) (f : Ev) (a b : Es) (e : En) : So := (asT f e).so fun t e1 => match setN i t e1 with
  | some e2 => match nonT t with
    | some true => b e2
    | some false => a e2
    | none => .no
  | none => .no
section
variable {X : Cx} {cl : Str → Addr} {i : Nat} {x : Str} {c ex : Expr} {f : Ev} {t : Et} {fa fb : Es} {sa sb : List Stmt} {pos p p2 p3 p4 p5 : Pos}
end
end R

/-! A for over a new list of trees; a comprehension that reads what is one's own, frozen for a while; a call with keywords. -/
namespace R
open PySem PySem.Spec PyProof.Rows L2
open Evl (Ex)
variable {G : Gs} {W : WX} {F H F1 H1 F2 H2 F3 H3 H0 : Hp} {M O : Addr → Prop} {s s1 s2 s3 : L2.St} {e e1 e2 e3 : En} {ls ls1 ls2 ls3 : Ls} {ms : List Nat} {D D' : Ends}
def forTF (i : Nat) (body : Es) : List Tr → Es
  | [], e => .nx e
  | t :: ts, e => match setN i t e with
    | none => .no
    | some e1 => match body e1 with
      | .nx e2 => forTF i body ts e2
      | .ct e2 => forTF i body ts e2
      | .bk e2 => .nx e2
      | r => r
def forT (i : Nat) (f : Ev) (body : Es) (e : En) : So := (asT f e).so fun t e1 => match t with
  | .lst ts => forTF i body ts e1
  | _ => .no
/-! ### frozen for a while -/
/-! ### a call with keywords -/
/-- n written values, m by keywords, put in the parameters' order -/
def kperm {α : Type} (n m : Nat) (pm : List Nat) (us ws : List α) : List α := if us.length = n ∧ ws.length = m then pm.filterMap ((us ++ ws)[·]?) else []
def callK (R : List Tr → Ret) (n m : Nat) (pm : List Nat) (fs gs : List Ev) (e : En) : Out Rs := (argsD fs e).bnd fun ds e1 => (argsD gs e1).bnd fun es e2 => match R ((kperm n m pm ds es).map .dat) with
  | .ret t _ => .ok (mkNew t) e2
  | .exc x _ => if x.fs.isEmpty then .exc x e2 else .no
  | .no => .no
/-! ### new lists of trees put together, cut -/
theorem TRs.app : ∀ {vs ws : List V} {ts us : List Tr} {l m : List Addr}, TRs G F H vs ts l → TRs G F H ws us m → TRs G F H (vs ++ ws) (ts ++ us) (l ++ m)
  | _, _, _, _, _, _, .nil, h2 => h2
  | _, _, _, _, _, _, .cons a b, h2 => by rw [List.append_assoc]; exact .cons a (TRs.app b h2)
theorem TRs.tk : ∀ {n : Nat} {vs : List V} {ts : List Tr} {l : List Addr}, TRs G F H vs ts l → ∃ l', TRs G F H (vs.take n) (ts.take n) l' ∧ (∀ a ∈ l', a ∈ l) ∧ (l.Nodup → l'.Nodup)
  | 0, _, _, _, _ => ⟨[], .nil, (fun _ z => nomatch z), fun _ => List.nodup_nil⟩
  | n + 1, _, _, _, .nil => ⟨[], .nil, (fun _ z => nomatch z), fun _ => List.nodup_nil⟩
  | n + 1, _, _, _, .cons (l := l) (m := m) a b => by
    obtain ⟨l', g1, g2, g3⟩ := TRs.tk (n := n) b
    exact ⟨l ++ l', .cons a g1, fun x hx => (List.mem_append.mp hx).elim (List.mem_append_left _) fun z => List.mem_append_right _ (g2 x z), fun nd => nodup_app (nodup_l nd) (g3 (nodup_r nd)) fun x hx hy => nodup_x nd x hx (g2 x hy)⟩
def lst2 : List Tr → Option (List Tr × List Tr)
  | [.lst as, .lst bs] => some (as, bs)
  | _ => none
def catT (f g : Ev) (e : En) : Out Rs := (argsT [f, g] e).bnd fun ts e2 => match lst2 ts with
  | some p => if lenOk (p.1.length + p.2.length) then .ok (.new (.lst (p.1 ++ p.2))) e2 else .no
  | none => .no
/-- [:k] of a new list of trees -/
def cutT1 (f : Ev) (k : Nat) (e : En) : Out Rs := (asT f e).bnd fun t e1 => match t with
  | .lst ts => .ok (.new (.lst (ts.take k))) e1
  | _ => .no
section
variable {X : Cx} {cl : Str → Addr} {n : Nat} {a b : Expr} {es : List Expr} {f g : Ev} {fs gs : List Ev} {pos p : Pos} {bs : List Stmt} {body : Es} {kws : List Keyword}
structure JK (X : Cx) (cl : Str → Addr) (W : WX) (kws : List Keyword) (fs : List Ev) : Prop where
  p : ∃ t, PK X kws t ∧ SndAD (GX X cl) W t (argsD fs)
end
end R

/-! Texts: join, split, int(text), one text in another, xs[i] += text. -/
namespace R
open PySem PySem.Spec PyProof.Rows L2
open Evl (Ex)
variable {G : Gs} {W : WX} {F H F1 H1 F2 H2 F3 H3 H0 : Hp} {M O : Addr → Prop} {s s1 s2 s3 : L2.St} {e e1 e2 e3 : En} {ls ls1 ls2 ls3 : Ls} {ms : List Nat} {D D' : Ends}
/-- a method of a text with one argument -/
def mthS (o : PyData → PyData → Option Rz) (f g : Ev) (e : En) : Out Rs := (asD f e).bnd fun d e1 => match d with
  | .str a => (g e1).bnd fun y e2 => match rdS e2 y with
    | some d2 => match o (.str a) d2 with
      | some z => .ok z.rs e2
      | none => .no
    | none => .no
  | _ => .no
theorem snd_mthS {ta tb : TE} {f g : Ev} {r : V → List V → Hp → VK → Prop} {o : PyData → PyData → Option Rz} (ha : SndV G W ta f) (hb : SndV G W tb g) (hr : Rv2 G (fun x y H Q => r x [y] H Q) o) : SndV G W (tM1 r ta tb) (mthS o f g) := fun s F H e ls k E Q q => by
  refine ha.dat s F H e ls k E _ (Post.mono q.bnd fun d e1 ls1 F1 H1 _ T1 E1 p v hv => ?_)
  obtain ⟨_, _, p⟩ := p
  cases d with
  | str a =>
    dsimp only at p
    cases dq_str hv
    refine ⟨⟨a, rfl⟩, hb s F1 H1 e1 ls1 T1.k E1 _ (Post.mono p.bnd0 fun y e2 ls2 F2 H2 _ T2 E2 p2 w hw => ?_)⟩
    cases g2 : rdS e2 y with
    | none => rw [g2] at p2; exact p2.elim
    | some d2 =>
      rw [g2] at p2
      dsimp only at p2
      cases g3 : o (.str a) d2 with
      | none => rw [g3] at p2; exact p2.elim
      | some z =>
        rw [g3] at p2
        refine hr F2 H2 (.str a) w (.str a) d2 z T2.k (.str a) (rdS_ok E2 T2.k hw g2) g3 Q fun u F4 H4 hz => ?_
        obtain ⟨t1, t2, t3⟩ := hz.res E2
        exact (p2 ls2 F4 H4 (T2.trans t1) t2).2 u (t3.back (T1.trans T2))
  | _ => exact p.elim
def joinF : PyData → PyData → Option Rz
  | .str a, .list ds => match strsOf ds with
    | some ys => if lenOk ((ys.map (·.length)).sum + ys.length * a.length) then some (.dat (.str (Txt.join a ys))) else none
    | none => none
  | _, _ => none
def rJoin (K : PySem.W.Frag) : V → List V → Hp → VK → Prop := fun x xs H Q => ∃ a p, ∃ ys : List Str, x = .str a ∧ xs = [.ref p] ∧ (SqL K H p (ys.map V.str) ∨ SqT K H p (ys.map V.str)) ∧ (ys.map (·.length)).sum + ys.length * a.length ≤ 16777216 ∧ Q (.str (Txt.join a ys)) H
theorem rv_join : Rv2 G (fun x y H Q => rJoin G.K x [y] H Q) joinF := fun F H a b x y z k ha hb q Q hq => by
  cases ha with
  | str i =>
    cases hb with
    | lst h1 h2 =>
      rename_i p xs ds
      simp only [joinF] at q
      cases g : strsOf ds with
      | none => rw [g] at q; cases q
      | some ys =>
        rw [g] at q
        dsimp only at q
        split at q
        · rename_i hl
          cases q
          have e1 := strsOf_some g
          subst e1
          have e2 := dqa_map (g := V.str) (fun a v h => dq_str h) h2
          subst e2
          exact ⟨i, p, ys, rfl, rfl, .inl (sqL h1), Nat.le_trans (of_decide_eq_true hl) (by decide), hq _ F H (rz_now k (.str _))⟩
        · cases q
    | _ => cases q
  | _ => cases q
def splitF : PyData → PyData → Option Rz
  | .str a, .str b => if !(b.length == 0) && lenOk (a.length + 2) then some (.lst ((Txt.split a b).map .str)) else none
  | _, _ => none
def rSplit : V → List V → Hp → VK → Prop := fun x xs H Q => ∃ a b, x = .str a ∧ xs = [.str b] ∧ (b.length == 0) = false ∧ a.length + 2 ≤ sizeLine ∧ rNewStrs (Txt.split a b) H Q
theorem rv_split : Rv2 G (fun x y H Q => rSplit x [y] H Q) splitF := fun F H a b x y z k ha hb q Q hq => by
  cases ha with
  | str i =>
    cases hb with
    | str j =>
      simp only [splitF] at q
      split at q
      · rename_i hl
        rw [Bool.and_eq_true] at hl
        cases q
        exact ⟨i, j, rfl, rfl, by simpa using hl.1, len_line hl.2, fun p hp => hq _ _ _ (rz_new k hp (dqa_of (fun a => .str a) _))⟩
      · cases q
    | _ => cases q
  | _ => cases q
/-- int(text) -/
def intSF : PyData → Option Rz
  | .str a => if decide (a.length ≤ 640) then (match PySem.intText? a with
    | some n => some (.dat (.int n))
    | none => none) else none
  | _ => none
theorem rv_intS : Rv1 G (fun x H Q => ∃ a n, [x] = [V.str a] ∧ PySem.intText? a = some n ∧ a.length ≤ 640 ∧ Q (.int n) H) intSF := fun F H a x z k ha q Q hq => by
  cases ha with
  | str i =>
    simp only [intSF] at q
    split at q
    · rename_i hl
      cases g : PySem.intText? i with
      | none => rw [g] at q; cases q
      | some n =>
        rw [g] at q
        cases q
        exact ⟨i, n, rfl, g, of_decide_eq_true hl, hq _ F H (rz_now k (.int _))⟩
    · cases q
  | _ => cases q
/-- one text in another -/
def inSF : PyData → PyData → Option Rz
  | .str i, .str j => some (.dat (.bool (!(Builtin.Str.occurrences j i 0 j.length 1).isEmpty)))
  | _, _ => none
theorem rv_inS : Rv2 G (fun x y H Q => ∃ i j, x = .str i ∧ y = .str j ∧ Q (.bl (!(Builtin.Str.occurrences j i 0 j.length 1).isEmpty)) H) inSF := fun F H a b x y z k ha hb q Q hq => by
  cases ha with
  | str i =>
    cases hb with
    | str j => cases q; exact ⟨i, j, rfl, rfl, hq _ F H (rz_now k (.bl _))⟩
    | _ => cases q
  | _ => cases q
/-- o[i] += text -/
def augJ (n : Nat) (pa : Pa) (j : Int) (x : Str) (d : PyData) (e2 : En) : So := match d with
  | .str y => if lenOk (x.length + y.length) then (match getPl e2 n pa with
    | some t0 => if isO e2 n then (match setAt t0 j (.dat (.str (x ++ y))) with
      | some t1 => .nx (putPl e2 n pa t1)
      | none => .no) else .no
    | none => .no) else .no
  | _ => .no
def augK (j : Int) (f : Ev) (r : Rs) (e1 : En) : So := match r with
  | .pl n pa => match rdS e1 (.pl n pa) with
    | some (.list ds) => match atI ds j with
      | some (.str x) => ((asD f (holdR (.pl n pa) e1)).onE (unholdR (.pl n pa) e1)).so fun d e2 => augJ n pa j x d e2
      | _ => .no
    | _ => .no
  | _ => .no
def augI (o i f : Ev) (e : En) : So := (twoF o i e).so fun p e1 => match rdS e1 p.2 with
  | some (.int j) => augK j f p.1 e1
  | _ => .no
section
variable {X : Cx} {cl : Str → Addr} {n : Nat} {a b : Expr} {es : List Expr} {f g : Ev} {fs gs : List Ev} {pos p apos : Pos}
theorem je_join (ho : JE X cl W a f) (hb : JE X cl W b g) (hs : starEach [b] X.env = [(false, eval b X.env)] := by rfl) (hbase : attributeBase a "join" X.env (eval a X.env) = eval a X.env := by rfl) (hline : (apos.endLine == pos.line) = true := by rfl) : JE X cl W (.Call (.Attribute a "join" apos) [b] [] pos) (mthS joinF f g) :=
  let ⟨_, p1, s1⟩ := ho.p; let ⟨_, p2, s2⟩ := hb.p; ⟨_, pe_join p1 p2 hs hbase hline, snd_mthS (G := GX X cl) s1 s2 rv_join⟩
theorem je_split (ho : JE X cl W a f) (hb : JE X cl W b g) (hs : starEach [b] X.env = [(false, eval b X.env)] := by rfl) (hbase : attributeBase a "split" X.env (eval a X.env) = eval a X.env := by rfl) (hline : (apos.endLine == pos.line) = true := by rfl) : JE X cl W (.Call (.Attribute a "split" apos) [b] [] pos) (mthS splitF f g) :=
  let ⟨_, p1, s1⟩ := ho.p; let ⟨_, p2, s2⟩ := hb.p; ⟨_, pe_split p1 p2 hs hbase hline, snd_mthS (G := GX X cl) s1 s2 rv_split⟩
theorem je_intS (hm : X.mg "int" = none) (h : JE X cl W a f) (hg : Gl X "int" := by rfl) (hs : starEach [a] X.env = (false, eval a X.env) :: starEach [] X.env := by rfl) : JE X cl W (.Call (.Name "int" p) [a] [] pos) (op1 intSF f) := let ⟨_, p1, s1⟩ := h.p; ⟨_, pe_callTy call_int_str hg hm (by decide +kernel) (pa_cons p1 pa_nil hs) (by decide) (by decide) hs rfl, snd_op1 (G := GX X cl) s1 rv_intS⟩
theorem je_inS (ha : JE X cl W a f) (hb : JE X cl W b g) (hm : behindInMarks .In b = false := by rfl) : JE X cl W (.Compare a [.In] [b] pos) (op2 inSF f g) := let ⟨_, p1, s1⟩ := ha.p; let ⟨_, p2, s2⟩ := hb.p; ⟨_, pe_cmpR op_in_str p1 p2 hm, snd_op2 (G := GX X cl) s1 s2 rv_inS⟩
end
/-! y = [..], what is walked is one's own, frozen for a while -/
section
variable {X : Cx} {cl : Str → Addr} {n : Nat} {a b c tg ex : Expr} {es : List Expr} {f g : Ev} {fs : List Ev} {t u : Et} {pos p apos spos : Pos} {it : Ei} {st : Stmt} {sts : List Stmt} {fa fb : Es}
end
end R

/-! Exceptions with a field: raised, the field read of a caught one; one text not in another. -/
namespace R
open PySem PySem.Spec PyProof.Rows L2
open Evl (Ex)
variable {G : Gs} {W : WX} {F H F1 H1 F2 H2 F3 H3 H0 : Hp} {M O : Addr → Prop} {s s1 s2 s3 : L2.St} {e e1 e2 e3 : En} {ls ls1 ls2 ls3 : Ls} {ms : List Nat} {D D' : Ends}
/-! ### C's own __init__: self.f = y -/
def spInit (K : PySem.W.Frag) (f : Str) : Sp := fun vs H Q E => ∃ (a C : Addr) (y : V), vs = [.ref a, y] ∧ OexC K C ∧ PySem.W.findIn K (.ref C) f = some none ∧ H a = some (exo a C none) ∧ ∀ dx, H dx = none → dx ≠ a → Q .non (upd (upd H dx (exd dx [(f, y)])) a (exo a C (some dx)))
theorem init_ok {P : Program} {w : World} {K : PySem.W.Frag} {mg : Str → Option Value} {base : Heap} {CX : CXT} {q x p fl : Str} {st : Stmt} {f : Addr} {fd : FuncData} {p1 p2 p3 p4 : Pos} (FF : FnP K x q st f fd) (S : FnScope ["self", p] ["self", p] (defScope st))
    (hb : defBody st = [.Assign [.Attribute (.Name "self" p1) fl p2] (.Name p p3) p4]) (h0 : Vis (defScope st) "self") (h1 : Vis (defScope st) p) (hd : (p == ("__debug__" : Str)) = false) (hcd : (p == ("__classdict__" : Str)) = false)
    (hs : ∀ env : PySem.Env, swapsWith (.Name p p3) (some (.Attribute (.Name "self" p1) fl p2)) p4.line env = pure false) : FnOk P w K mg base CX 1 f fd ["self", p] (spInit K fl) :=
  FF.ok S (fun vs H Q E h => by obtain ⟨a, C, y, rfl, _⟩ := h; rfl) fun cdv A outer s H vs Q E hr h => by
    obtain ⟨a, C, y, rfl, T, hn, e, q⟩ := h
    refine ⟨tOst K fl (tVar 0) (tVar 1), ?_, y, rfl, .ref a, rfl, a, C, rfl, T, hn, .inl ⟨e, fun dx n ne => q dx n ne⟩⟩
    rw [hb]
    exact pss_one (ps_ost (pe_var (i := 0) rfl h0) (pe_var (i := 1) rfl h1 hd hcd) (hs _))
/-! ### raise C(y) -/
def raiseF (lv : Bool) (c f : Str) (g : Ev) (e : En) : So := if lv then (asD g e).so fun d e1 => .exc ⟨c, [(f, d)]⟩ e1 else .no
/-- a def answers at the level below -/
def lvB {ι : Type} (Φ : ι → List Tr → Ret) (i : ι) : Bool := match Φ i [.dat .none] with
  | .no => false
  | _ => true
theorem snd_raiseF {K : PySem.W.Frag} {cl : Str → Addr} {lv : Bool} {c f : Str} {te : TE} {g : Ev} (h : SndV ⟨K, cl⟩ W te g) (T : OexC K (cl c)) (hn : PySem.W.findIn K (.ref (cl c)) f = some none) :
    SndS ⟨K, cl⟩ W ms (fun _ σ H => tMkO (cl c) (spInit K f) [] (tCons te tNil) σ H fun cls d H' => W cls d σ H') (raiseF lv c f g) := fun s F H e ls D k E q => by
  unfold raiseF at q
  cases lv with
  | false => exact q.elim
  | true =>
    have q : SPost ⟨K, cl⟩ W ms s e ls F H ((asD g e).so fun d e1 => .exc ⟨c, [(f, d)]⟩ e1) D := q
    refine h.dat s F H e ls k E _ (Post.mono (Post.so0 q) fun d e1 ls1 F1 H1 _ T1 E1 p y hy => ?_)
    refine ⟨show 1 ≤ 1000 by decide, fun a ha => ⟨a, cl c, y, rfl, T, hn, upd_same, fun dx hdx ne => ⟨rfl, dx, [(f, y)], upd_same, ?_, ?_, ?_⟩⟩⟩
    · rw [upd_ne ne, upd_same]
    · rw [upd_ne ne] at hdx; exact hdx
    · rw [upd_ne ne] at hdx
      have eu : upd (del (upd (upd (upd H1 a (exo a (cl c) none)) dx (exd dx [(f, y)])) a (exo a (cl c) (some dx))) a) dx (.xd [(f, y)]) = upd H1 dx (.xd [(f, y)]) := by
        funext b
        by_cases hb : b = dx
        · subst hb; rw [upd_same, upd_same]
        · rw [upd_ne hb, upd_ne hb]
          by_cases hc : b = a
          · subst hc; rw [del_same]; exact ha.symm
          · rw [del_ne hc, upd_ne hc, upd_ne hb, upd_ne hc]
      rw [eu]
      have n : Nx F1 H1 F1 (upd H1 dx (.xd [(f, y)])) := Nx.mut T1.k hdx
      have E2 : Env ⟨K, cl⟩ F1 (upd H1 dx (.xd [(f, y)])) s e1 ls1 := E1.nx n fun _ _ z => z
      exact p s ls1 F1 _ _ (some dx) (T1.trans (Stp.n0 n)) E2 Kp.refl ⟨rfl, [(f, y)], ex_free T1.k hdx, fun z => (E1.adr z).2 hdx, upd_same, rfl, hy, trivial⟩ fun z hz => by
        cases hz
        exact th_none T1.nx hdx
theorem passesX {X : Cx} : Passes (L2.CX X.prog X.w) X (fun _ _ _ => False) := fun _ _ _ _ _ _ _ ⟨_, _, _, _, _, _, _, _, _, _, _, _, q⟩ => q.elim
/-! ### the field of a caught exception -/
def xfl (f : Str) : List (PyData × PyData) → Option PyData
  | [] => none
  | (.str n, d) :: r => if n = f then some d else xfl f r
  | _ :: r => xfl f r
def xfF (c f : Str) : PyData → Option Rz
  | .dict ((_, .str x) :: r) => if x = c then (match xfl f r with
    | some d => some (.dat d)
    | none => none) else none
  | _ => none
def rXf (K : PySem.W.Frag) (D : Addr) (f : Str) : V → Hp → VK → Prop := fun x H Q => ∃ (a dd : Addr) (fs : List (Str × V)) (v : V), x = .ref a ∧ H a = some (ExK (.ref D) (some dd) a) ∧ H dd = some (.xd fs) ∧ fs.lookup f = some v ∧ ExcC K D ∧ Q v H
theorem xfl_ok {f : Str} {d : PyData} : ∀ {ns : List Str} {vs : List V} {ds : List PyData}, ns.length = vs.length → DqAll G F vs ds → xfl f ((ns.zip ds).map fun p => (.str p.1, p.2)) = some d → ∃ v, (ns.zip vs).lookup f = some v ∧ Dq G F v d
  | [], _, _, _, _, h => nomatch h
  | n :: ns, [], _, hl, _, _ => nomatch hl
  | n :: ns, v :: vs, _, hl, .cons h1 h2, h => by
    rename_i d0 ds
    have h : (if n = f then some d0 else xfl f ((ns.zip ds).map fun p => (.str p.1, p.2))) = some d := h
    show ∃ w, ((n, v) :: ns.zip vs).lookup f = some w ∧ _
    by_cases c : n = f
    · rw [if_pos c] at h
      cases h
      subst c
      exact ⟨v, by simp [List.lookup], h1⟩
    · rw [if_neg c] at h
      obtain ⟨w, e1, e2⟩ := xfl_ok (Nat.succ.inj hl) h2 h
      refine ⟨w, ?_, e2⟩
      have c' : (f == n) = false := by simpa using fun z => c z.symm
      rw [List.lookup_cons, c']
      exact e1
theorem rv_xf {c f : Str} : Rv1 G (rXf G.K (G.cl c) f) (xfF c f) := fun F H a x z k ha q Q hq => by
  cases ha with
  | dic hd =>
    cases hd with
    | exc h hX =>
      rename_i p x
      have q : (if x = c then (none : Option Rz) else none) = some z := q
      split at q <;> cases q
    | exf h h2 h3 h4 hX =>
      rename_i p dd x ns vs ds
      have q2 : (if x = c then (match xfl f ((ns.zip ds).map fun p => (.str p.1, p.2)) with
        | some d => some (Rz.dat d)
        | none => none) else none) = some z := q
      by_cases hx : x = c
      · rw [if_pos hx] at q2
        subst hx
        cases g : xfl f ((ns.zip ds).map fun p => (.str p.1, p.2)) with
        | none => rw [g] at q2; cases q2
        | some d =>
          rw [g] at q2
          cases q2
          obtain ⟨v, e1, e2⟩ := xfl_ok h3 h4 g
          exact ⟨p, dd, _, v, rfl, k _ _ h, k _ _ h2, e1, hX.ex, hq _ F H (rz_now k e2)⟩
      · rw [if_neg hx] at q2
        cases q2
  | _ => cases q
theorem pe_xfK {X : Cx} {D : Addr} {e : Expr} {te : TE} {pos : Pos} {n : Str} (hno : PySem.W.findIn X.K (.ref D) n = some none) (he : PE X e te) (hb : attributeBase e n X.env (eval e X.env) = eval e X.env := by rfl) : PE X (.Attribute e n pos) (tUn (rXf X.K D n) te) := by
  refine ⟨fun pins s σ H Q I h => ?_⟩
  refine attr_of hb (thn (he.run pins s σ H _ I h) fun u s1 hh => ?_)
  obtain ⟨x, H1, I1, rx, a, dd, fs, v, ex, ea, ed, l, T, q⟩ := hh
  subst ex
  obtain rfl : u = Value.ref a := rx
  have ho := I1.hok a _ ea
  unfold ExK at ho
  obtain ⟨⟨oe, vs, he', hz, hv⟩, _, _⟩ := ho
  have hx : ObjOk X.prog X.w H1 s1.heap dd (.xd fs) := I1.hok dd _ ed
  obtain ⟨mA, hns, hr⟩ := hx
  obtain ⟨od, ho, hl⟩ := lookIn_ns hns
  obtain ⟨u, hu, ru⟩ := RelO.some_of (v := v) (o := mA n) (by rw [← l]; exact hr n)
  have J : PySem.W.InstAt s1.heap a oe D (some od) := ⟨he', hz.1, by unfold PySem.W.notCls; rw [hv] <;> rfl, by rw [hz.2]; exact ho⟩
  exact HandSPX.exc_get I1.kIn J T.hg T.hk T.hs (PySem.W.findObj_own T.hd hno rfl (by rw [hl, hu])) (handed_of ru) ⟨v, H1, I1.tok _, ru, q⟩
/-! ### one text not in another -/
def niSF : PyData → PyData → Option Rz
  | .str i, .str j => some (.dat (.bool (!(!(Builtin.Str.occurrences j i 0 j.length 1).isEmpty))))
  | _, _ => none
theorem rv_niS : Rv2 G (fun x y H Q => ∃ i j, x = .str i ∧ y = .str j ∧ Q (.bl (!(!(Builtin.Str.occurrences j i 0 j.length 1).isEmpty))) H) niSF := fun F H a b x y z k ha hb q Q hq => by
  cases ha with
  | str i =>
    cases hb with
    | str j => cases q; exact ⟨i, j, rfl, rfl, hq _ F H (rz_now k (.bl _))⟩
    | _ => cases q
  | _ => cases q
section
variable {X : Cx} {cl : Str → Addr} {n : Nat} {a b : Expr} {es : List Expr} {f g : Ev} {fs gs : List Ev} {pos p apos : Pos}
theorem jt_niS (ha : JE X cl W a f) (hb : JE X cl W b g) (hm : behindInMarks .NotIn b = false := by rfl) : JT X cl W (.Compare a [.NotIn] [b] pos) (asB (op2 niSF f g)) := let ⟨_, p1, s1⟩ := ha.p; let ⟨_, p2, s2⟩ := hb.p; ⟨_, pt_cmpR op_notin_str p1 p2 hm, snd_asB (snd_op2 (G := GX X cl) s1 s2 rv_niS)⟩
theorem je_xf {c fl : Str} (hno : PySem.W.findIn X.K (.ref (cl c)) fl = some none) (ha : JE X cl W a f) (hb : attributeBase a fl X.env (eval a X.env) = eval a X.env := by rfl) : JE X cl W (.Attribute a fl pos) (op1 (xfF c fl) f) := let ⟨_, p1, s1⟩ := ha.p; ⟨_, pe_xfK hno p1 hb, snd_op1 (G := GX X cl) s1 rv_xf⟩
theorem js_raiseF {x fl pn : Str} {fI : Addr} {fd : FuncData} {lv : Bool} {pos2 : Pos} (k : Cok X W n) (hl : lv = true → 2 ≤ n) (hT : X.mg x = some (.ref (cl x))) (T : OexI X.K (cl x) fI) (hn : PySem.W.findIn X.K (.ref (cl x)) fl = some none) (F1 : FnOk X.prog X.w X.K X.mg X.base (L2.CX X.prog X.w) 1 fI fd ["self", pn] (spInit X.K fl)) (hb : Binds X.K fd ["self", pn] []) (ha : JE X cl W a f)
    (hg : Gl X x := by rfl) (hdb : (x == ("__debug__" : Str)) = false := by decide) (he : starEach [a] X.env = (false, eval a X.env) :: starEach [] X.env := by rfl) : JS X cl W ms (.Raise (some (.Call (.Name x p) [a] [] pos2)) none pos) (raiseF lv x fl f) := by
  obtain ⟨te, p1, s1⟩ := ha.p
  by_cases hlv : lv = true
  · exact ⟨_, ps_raise k.calm k.tk (pmk_oex T.c T.i T.t F1 (k.room.mono (hl hlv)) hb .nil passesX hg hT (pa_cons p1 pa_nil he) hdb he rfl), snd_raiseF s1 T.c hn⟩
  · refine ⟨_, ps_never, fun s F H e ls D k E q => ?_⟩
    have hf : lv = false := by cases lv with | true => exact absurd rfl hlv | false => rfl
    subst hf
    exact q.elim
end
end R

/-! A tuple of one's own under names, its parts changed by them to the end of the def; a text taken none or one time. -/
namespace R
open PySem PySem.Spec PyProof.Rows L2
open Evl (Ex)
variable {G : Gs} {W : WX} {F H F1 H1 F2 H2 F3 H3 H0 : Hp} {M O : Addr → Prop} {s s1 s2 s3 : L2.St} {e e1 e2 e3 : En} {ls ls1 ls2 ls3 : Ls} {ms : List Nat} {D D' : Ends}
/-- the parts at the slots js are taken out -/
def takeJs : En → List Nat → Option (List Tr × En)
  | e, [] => some ([], e)
  | e, j :: js => match e[j]? with
    | some (.o t) => if isUn t then none else (match takeJs (e.set j (.o .un)) js with
      | some p => some (t :: p.1, p.2)
      | none => none)
    | _ => none
def backJ (i : Nat) (js : List Nat) (e : En) : Option En := match takeJs e js with
  | some p => setN i (.tup p.1) p.2
  | none => none
def backS (i : Nat) (js : List Nat) : So → So
  | .nx e => (match backJ i js e with | some e2 => .nx e2 | none => .no)
  | .bk e => (match backJ i js e with | some e2 => .bk e2 | none => .no)
  | .ct e => (match backJ i js e with | some e2 => .ct e2 | none => .no)
  | .rt t e => (match backJ i js e with | some e2 => .rt t e2 | none => .no)
  | .exc x e => (match backJ i js e with | some e2 => .exc x e2 | none => .no)
  | .no => .no
def viewS (i : Nat) (gs : Tgs) (f : Es) (e : En) : So := match e[i]? with
  | some (.o (.tup ts)) => if noUn ts then (match bindT gs ts (e.set i (.o .un)) with
    | some e1 => backS i gs.ns (f e1)
    | none => .no) else .no
  | _ => .no
section
variable {X : Cx} {cl : Str → Addr} {n : Nat} {i : Nat} {sts : List Stmt} {es : List Expr} {g : Es} {pos : Pos}
end
/-! ### a text, none or one time -/
def mulSF : PyData → PyData → Option Rz
  | .str a, .int k => if k = 0 then some (.dat (.str Str.empty)) else if k = 1 then some (.dat (.str a)) else none
  | _, _ => none
def rMulS : R2 := fun x y H Q => ∃ a k, x = V.str a ∧ y = V.int k ∧ ((k = 0 ∧ Q (.str Str.empty) H) ∨ (k = 1 ∧ Q (.str a) H))
theorem op_mulS {X : Cx} : OpR X (binaryOp .Mult) rMulS := by
  intro pins s σ H x y v u Q I rx ry h
  obtain ⟨a, k, rfl, rfl, h⟩ := h
  obtain ⟨t, rfl⟩ := rx
  obtain ⟨t2, rfl⟩ := ry
  rcases h with ⟨rfl, q⟩ | ⟨rfl, q⟩
  · exact P.mul_str_none (by decide) (by decide) ⟨.str Str.empty, H, I.tok _, ⟨_, rfl⟩, q⟩
  · refine P.mul_str (by decide) (fun _ z => by simp at z) (fun _ z => by simp at z) ?_
    rw [if_neg (by decide), if_pos (by simp)]
    exact ⟨.str a, H, I, ⟨_, rfl⟩, q⟩
theorem rv_mulS : Rv2 G rMulS mulSF := fun F H a b x y z k ha hb q Q hq => by
  cases ha with
  | str i =>
    cases hb with
    | int j =>
      have q : (if j = 0 then some (Rz.dat (.str Str.empty)) else if j = 1 then some (.dat (.str i)) else none) = some z := q
      by_cases h0 : j = 0
      · rw [if_pos h0] at q
        cases q
        exact ⟨i, j, rfl, rfl, .inl ⟨h0, hq _ F H (rz_now k (.str _))⟩⟩
      · rw [if_neg h0] at q
        by_cases h1 : j = 1
        · rw [if_pos h1] at q
          cases q
          exact ⟨i, j, rfl, rfl, .inr ⟨h1, hq _ F H (rz_now k (.str _))⟩⟩
        · rw [if_neg h1] at q
          cases q
    | _ => cases q
  | _ => cases q
theorem je_mulS {X : Cx} {cl : Str → Addr} {a b : Expr} {f g : Ev} {pos : Pos} (ha : JE X cl W a f) (hb : JE X cl W b g) : JE X cl W (.BinOp a .Mult b pos) (op2 mulSF f g) := let ⟨_, p1, s1⟩ := ha.p; let ⟨_, p2, s2⟩ := hb.p; ⟨_, pe_op op_mulS p1 p2, snd_op2 (G := GX X cl) s1 s2 rv_mulS⟩
end R

/-! A written dict of texts; abs; str of what may be large. -/
namespace R
open PySem PySem.Spec PyProof.Rows L2
open Evl (Ex)
variable {G : Gs} {W : WX} {F H F1 H1 F2 H2 F3 H3 H0 : Hp} {M O : Addr → Prop} {s s1 s2 s3 : L2.St} {e e1 e2 e3 : En} {ls ls1 ls2 ls3 : Ls} {ms : List Nat} {D D' : Ends}
/-! ### a written dict -/
abbrev Tab : Type := List (Str × PyData)
abbrev DOb : Type := List (Option (Str × Int × PyData))
def entO (e : DictEntry) : Option (Str × Int × PyData) := match e.key with
  | .str x _ => (match e.val with
    | .str y _ => some (x, e.hash, .str y)
    | .int i _ => some (x, e.hash, .int i)
    | _ => none)
  | _ => none
def dObs0 (K : PySem.W.Frag) (d : Addr) : DOb := match K.lookup d with
  | some ⟨.type "dict", none, .dict es _, sl⟩ => if sl.size = 0 then es.toList.map entO else [none]
  | _ => [none]
def dObs (K : PySem.W.Frag) (d : Addr) : DOb := if d == sysModules then [none] else dObs0 K d
def dVal (w : World) (tab : Tab) : DOb := tab.map fun p => some (p.1, PyData.keyHash w.params p.1, p.2)
structure KTab (K : PySem.W.Frag) (w : World) (d : Addr) (tab : Tab) : Prop where
  ex : ∃ es n, KDict K w d es n ∧ ∀ z, match tab.lookup z with
    | none => PySem.W.nsIn K d z = some none
    | some x => ∃ u v, PySem.W.nsIn K d z = some (some u) ∧ RelV v u ∧ ∀ (G : Gs) (F : Hp), Dq G F v x
theorem ents_ok {w : World} : ∀ {l : List DictEntry} {tab : Tab}, l.map entO = dVal w tab → PySem.W.KeysLit w.params l ∧ (∀ z, match tab.lookup z with
    | none => l.find? (fun e => e.key.isStr z) = none
    | some x => ∃ e v, l.find? (fun e => e.key.isStr z) = some e ∧ RelV v e.val ∧ ∀ (G : Gs) (F : Hp), Dq G F v x) ∧ l.any (fun e => e.refKey) = false
  | [], [], _ => ⟨trivial, fun z => rfl, rfl⟩
  | [], _ :: _, h => nomatch h
  | _ :: _, [], h => nomatch h
  | e :: l, p :: tab, h => by
    obtain ⟨h1, h2⟩ := List.cons.inj (show entO e :: l.map entO = some (p.1, PyData.keyHash w.params p.1, p.2) :: dVal w tab from h)
    obtain ⟨a, b, c⟩ := ents_ok h2
    obtain ⟨hs, key, val⟩ := e
    obtain ⟨x, y⟩ := p
    unfold entO at h1
    cases key with
    | str k t =>
      have key : k = x ∧ hs = PyData.keyHash w.params x ∧ ∃ v, RelV v val ∧ ∀ (G : Gs) (F : Hp), Dq G F v y := by
        cases val with
        | str z tz => cases h1; exact ⟨rfl, rfl, .str z, ⟨tz, rfl⟩, fun _ _ => .str z⟩
        | int i ti => cases h1; exact ⟨rfl, rfl, .int i, ⟨ti, rfl⟩, fun _ _ => .int i⟩
        | _ => cases h1
      obtain ⟨rfl, hh, v, hv, hd⟩ := key
      refine ⟨⟨⟨k, t, rfl, hh⟩, a⟩, fun z => ?_, by rw [List.any_cons, c]; rfl⟩
      by_cases hz : z = k
      · subst hz
        rw [List.lookup_cons, beq_self_eq_true]
        refine ⟨⟨hs, .str z t, val⟩, v, ?_, hv, hd⟩
        rw [List.find?_cons]
        have : (Value.str z t).isStr z = true := by simp [Value.isStr]
        rw [this]
      · have hz' : (z == k) = false := by simpa using hz
        have hk : (Value.str k t).isStr z = false := by simp [Value.isStr]; exact fun e => hz e.symm
        have b := b z
        rw [List.lookup_cons, hz']
        dsimp only
        cases q : tab.lookup z with
        | none => rw [q] at b; dsimp only at b ⊢; rw [List.find?_cons, hk]; exact b
        | some x => rw [q] at b; dsimp only at b ⊢; obtain ⟨e, v, b1, b2⟩ := b; exact ⟨e, v, by rw [List.find?_cons, hk]; exact b1, b2⟩
    | _ => cases h1
theorem dObs_ok {K : PySem.W.Frag} {w : World} {d : Addr} {tab : Tab} (h : dObs K d = dVal w tab) (hn : tab ≠ []) : KTab K w d tab := by
  unfold dObs at h
  cases hlow : d == sysModules with
  | true =>
    rw [hlow] at h
    cases tab with
    | nil => exact absurd rfl hn
    | cons p tab => cases h
  | false =>
  rw [hlow] at h
  have h : dObs0 K d = dVal w tab := h
  unfold dObs0 at h
  split at h
  · rename_i es n sl hl
    split at h
    rotate_left
    · cases tab with
      | nil => exact absurd rfl hn
      | cons p tab => cases h
    rename_i hsz
    have hse : sl = #[] := Array.eq_empty_of_size_eq_zero hsz
    subst hse
    obtain ⟨a, b, c⟩ := ents_ok h
    refine ⟨es, n, ⟨hl, a, hlow⟩, fun z => ?_⟩
    have b := b z
    have e : PySem.W.nsIn K d z = (match es.toList.find? (fun e => e.key.isStr z) with
      | some e => some (some e.val)
      | none => if es.toList.any (fun e => e.refKey) then none else some none) := by unfold PySem.W.nsIn; rw [hl] <;> rfl
    cases q : tab.lookup z with
    | none => rw [q] at b; dsimp only at b ⊢; rw [e, b, c]; rfl
    | some x =>
      rw [q] at b
      dsimp only at b ⊢
      obtain ⟨u, v, b1, b2, b3⟩ := b
      exact ⟨u.val, v, by rw [e, b1], b2, b3⟩
  · cases tab with
    | nil => exact absurd rfl hn
    | cons p tab => cases h
def kinF (neg : Bool) (tab : Tab) : PyData → Option Rz
  | .str z => some (.dat (.bool (if neg then !(tab.lookup z).isSome else (tab.lookup z).isSome)))
  | _ => none
def kgetF (tab : Tab) : PyData → Option Rz
  | .str z => match tab.lookup z with
    | some x => some (.dat x)
    | none => none
  | _ => none
theorem KTab.some_is {K : PySem.W.Frag} {d : Addr} {tab : Tab} (h : ∀ z, match tab.lookup z with
    | none => PySem.W.nsIn K d z = some none
    | some x => ∃ u v, PySem.W.nsIn K d z = some (some u) ∧ RelV v u ∧ ∀ (G : Gs) (F : Hp), Dq G F v x) (z : Str) : ∃ r : Option Value, PySem.W.nsIn K d z = some r ∧ r.isSome = (tab.lookup z).isSome := by
  have h := h z
  cases q : tab.lookup z with
  | none => rw [q] at h; exact ⟨none, h, rfl⟩
  | some x => rw [q] at h; obtain ⟨u, v, h1, _⟩ := h; exact ⟨some u, h1, rfl⟩
section
variable {X : Cx} {cl : Str → Addr} {n : Nat} {a b : Expr} {f g : Ev} {pos p p2 : Pos} {tab : Tab} {x : Str}
theorem jt_kni (D : KTab X.K X.w (cl x) tab) (hm : X.mg x = some (.ref (cl x))) (ha : JE X cl W a f) (hg : Gl X x := by rfl) (hd : (x == ("__debug__" : Str)) = false := by decide) (hmk : behindInMarks .NotIn (.Name x p) = false := by rfl) : JT X cl W (.Compare a [.NotIn] [.Name x p] pos) (asB (op1 (kinF true tab) f)) := by
  obtain ⟨_, p1, s1⟩ := ha.p
  obtain ⟨es, k, D, hz⟩ := D.ex
  refine ⟨_, pt_cmpR (op_notIn_kd D) p1 (pe_glob (v := .ref (cl x)) hg hm rfl hd) hmk, ?_⟩
  refine snd_asB (snd_op1 (r := fun y H Q => ∃ (z : Str) (r : Option Value), y = .str z ∧ V.ref (cl x) = .ref (cl x) ∧ PySem.W.nsIn X.K (cl x) z = some r ∧ Q (.bl (!r.isSome)) H) (G := GX X cl) s1 fun F H y d z k ha q Q hq => ?_)
  cases ha with
  | str i =>
    cases q
    obtain ⟨r, h1, h2⟩ := KTab.some_is hz i
    exact ⟨i, r, rfl, rfl, h1, by rw [h2]; exact hq _ F H (rz_now k (.bl _))⟩
  | _ => cases q
theorem je_kget (D : KTab X.K X.w (cl x) tab) (hm : X.mg x = some (.ref (cl x))) (ha : JE X cl W a f) (hg : Gl X x := by rfl) (hd : (x == ("__debug__" : Str)) = false := by decide) (hs : PlainIx a := by exact fun _ _ => rfl) : JE X cl W (.Subscript (.Name x p) a pos) (op1 (kgetF tab) f) := by
  obtain ⟨_, p1, s1⟩ := ha.p
  obtain ⟨es, k, D, hz⟩ := D.ex
  refine ⟨_, pe_ix ix_kdict (pe_glob (v := .ref (cl x)) hg hm rfl hd) p1 hs, ?_⟩
  refine snd_op1 (r := fun y H Q => ∃ pp z v, V.ref (cl x) = .ref pp ∧ y = .str z ∧ KDct X.K X.w pp z v ∧ Q v H) (G := GX X cl) s1 fun F H y d z k ha q Q hq => ?_
  cases ha with
  | str i =>
    have q : (match tab.lookup i with | some x => some (Rz.dat x) | none => none) = some z := q
    have hz := hz i
    cases g : tab.lookup i with
    | none => rw [g] at q; cases q
    | some y =>
      rw [g] at q hz
      cases q
      obtain ⟨u, v, h1, h2, h3⟩ := hz
      exact ⟨_, i, v, rfl, rfl, ⟨es, _, u, D.at_, D.lit, h1, h2⟩, hq _ F H (rz_now k (h3 _ _))⟩
  | _ => cases q
/-! ### abs -/
def absF : PyData → Option Rz
  | .int i => some (.dat (.int (if i < 0 then -i else i)))
  | _ => none
theorem je_abs (hm : X.mg "abs" = none) (h : JE X cl W a f) (hg : Gl X "abs" := by rfl) (hs : starEach [a] X.env = (false, eval a X.env) :: starEach [] X.env := by rfl) : JE X cl W (.Call (.Name "abs" p) [a] [] pos) (op1 absF f) := by
  obtain ⟨_, p1, s1⟩ := h.p
  refine ⟨_, pe_callB call_abs hg hm (by decide +kernel) (pa_cons p1 pa_nil hs) (by decide) (by decide) hs rfl, ?_⟩
  refine snd_op1 (r := fun y H Q => ∃ i, [y] = [V.int i] ∧ Q (.int (if i < 0 then -i else i)) H) (G := GX X cl) s1 fun F H y d z k ha q Q hq => ?_
  cases ha with
  | int i => cases q; exact ⟨i, rfl, hq _ F H (rz_now k (.int _))⟩
  | _ => cases q
/-! ### str of a number of any size, a text, None -/
def strBF : PyData → Option PyData
  | .int n => if bigB n then some (.str (Str.ofString (toString n))) else none
  | d => strF d
theorem rv_strB : Rv1D G (fun x H Q => rStrA G.K [x] H Q) strBF := fun H a x z ha q Q hq => by
  cases x with
  | int n =>
    unfold strBF at q
    dsimp only at q
    split at q
    · rename_i c
      cases q
      cases ha
      refine .inr (.inl ⟨n, rfl, ?_, hq _ fun _ => .str _⟩)
      have c : n.natAbs < 2 ^ 1000 := of_decide_eq_true c
      have h0 : n.natAbs = 0 ∨ n.natAbs ≠ 0 := by omega
      rcases h0 with z | z
      · rw [z]; decide
      · exact (Nat.log2_lt z).mpr (Nat.lt_of_lt_of_le c (Nat.pow_le_pow_right (by decide) (by decide)))
    · cases q
  | str y => exact rv_strA H a _ z ha q Q hq
  | none => exact rv_strA H a _ z ha q Q hq
  | bool b => exact rv_strA H a _ z ha q Q hq
  | list ds => exact rv_strA H a _ z ha q Q hq
  | tuple ds => exact rv_strA H a _ z ha q Q hq
  | dict ds => exact rv_strA H a _ z ha q Q hq
theorem je_strB (k : Cok X W n) (hm : X.mg "str" = none) (h : JE X cl W a f) (hg : Gl X "str" := by rfl) (hs : starEach [a] X.env = (false, eval a X.env) :: starEach [] X.env := by rfl) : JE X cl W (.Call (.Name "str" p) [a] [] pos) (op1D strBF f) := let ⟨_, p1, s1⟩ := h.p; ⟨_, pe_callTy (call_strA k.gd k.room.units) hg hm (by decide +kernel) (pa_cons p1 pa_nil hs) (by decide) (by decide) hs rfl, snd_op1D (G := GX X cl) s1 rv_strB⟩
end
/-! ### the head tells of written dicts -/
abbrev AlY : Type := AlT × List DOb
def obsY (fa : List He.Fa) (fx : List Fx) (dx : List (Str × Tab)) (fn : List He.DefD) (K : PySem.W.Frag) : AlY := (obsX fa fx fn K, dx.map fun (p : Str × Tab) => dObs K (He.ga K p.1))
def obsYG (n : Nat) (fa : List He.Fa) (fx : List Fx) (dx : List (Str × Tab)) (fn : List He.DefD) (g : Addr → Option Obj) : AlY := obsY fa fx dx fn (He.frG g (asE g n [mainGlobals]))
def hookY (n : Nat) (fa : List He.Fa) (fx : List Fx) (dx : List (Str × Tab)) (fn : List He.DefD) : PySem.W.Hook where
  α := AlY
  obs := fun s => obsYG n fa fx dx fn s.heap.get?
  val := fun w => ((He.valD fn, true), dx.map fun (p : Str × Tab) => dVal w p.2)
  says := fun w h => ∃ K : PySem.W.Frag, K.In h ∧ He.SaysD fa fn K ∧ (fx.all fun f => f.ok K) = true ∧ (dx.map fun (p : Str × Tab) => dObs K (He.ga K p.1)) = dx.map fun (p : Str × Tab) => dVal w p.2
  of := fun w s e => ⟨He.frG s.heap.get? (asE s.heap.get? n [mainGlobals]), He.frG_in, congrArg (fun z : AlY => z.1.1) e, congrArg (fun z : AlY => z.1.2) e, congrArg (fun z : AlY => z.2) e⟩
  keeps := fun _ _ _ ⟨K, hK, c, x, y⟩ k => ⟨K, PySem.W.Frag.In.keeps hK k, c, x, y⟩
theorem obsYG_eq {n : Nat} {fa : List He.Fa} {fx : List Fx} {dx : List (Str × Tab)} {fn : List He.DefD} {g : Addr → Option Obj} {s : Shared} (h : ∀ a, g a = s.heap.get? a) : obsYG n fa fx dx fn g = (hookY n fa fx dx fn).obs s := by
  have e : g = s.heap.get? := funext h
  rw [e] <;> rfl
theorem dx_at {K : PySem.W.Frag} {w : World} {dx : List (Str × Tab)} (c : (dx.map fun (p : Str × Tab) => dObs K (He.ga K p.1)) = dx.map fun (p : Str × Tab) => dVal w p.2) (i : Nat) {p : Str × Tab} (h : dx[i]? = some p := by rfl) : dObs K (He.ga K p.1) = dVal w p.2 := by
  have e := congrArg (fun l => l[i]?) c
  have e : (dx.map fun (p : Str × Tab) => dObs K (He.ga K p.1))[i]? = (dx.map fun (p : Str × Tab) => dVal w p.2)[i]? := e
  rw [List.getElem?_map, List.getElem?_map, h] at e
  exact Option.some.inj e
end R

/-! None in a tuple of flat things. -/
namespace R
open PySem PySem.Spec PyProof.Rows L2
open Evl (Ex)
variable {G : Gs} {W : WX} {F H F1 H1 F2 H2 F3 H3 H0 : Hp}
/-- a text that a def's statement assigns -/
def conS (s : Stmt) (i : Nat) : Str := match (defBody s).getD i (.Pass ⟨0, 0, 0, 0⟩) with
  | .Assign _ (.Constant (.str x) _ _) _ => x
  | _ => Str.empty
def flatD : PyData → Bool
  | .none => true
  | .bool _ => true
  | .int _ => true
  | .str _ => true
  | _ => false
def nitF : PyData → PyData → Option PyData
  | .none, .tuple ds => if ds.all flatD then some (.bool (ds.any isNone)) else none
  | _, _ => none
theorem dqa_flat : ∀ {vs : List V} {ds : List PyData}, DqAll G F vs ds → ds.all flatD = true → vs.all flatV = true ∧ inV .non vs = ds.any isNone
  | _, _, .nil, _ => ⟨rfl, rfl⟩
  | v :: vs, d :: ds, .cons h1 h2, q => by
    rw [List.all_cons, Bool.and_eq_true] at q
    obtain ⟨a, b⟩ := dqa_flat h2 q.2
    have b : (vs.any fun z => eqV z .non) = ds.any isNone := b
    have e : flatV v = true ∧ eqV v .non = isNone d := by
      cases h1 with
      | non => exact ⟨rfl, rfl⟩
      | bl b => exact ⟨rfl, rfl⟩
      | int i => exact ⟨rfl, rfl⟩
      | str x => exact ⟨rfl, rfl⟩
      | _ => exact absurd q.1 (by simp [flatD, excD])
    refine ⟨by rw [List.all_cons, e.1, a]; rfl, ?_⟩
    show ((v :: vs).any fun z => eqV z .non) = _
    rw [List.any_cons, List.any_cons, e.2, b]
theorem rv_nit : Rv2D G (rInAny G.K) nitF := fun H a b x y z ha hb q Q hq => by
  cases x with
  | none =>
    cases y with
    | tuple ds =>
      have q : (if ds.all flatD then some (PyData.bool (ds.any isNone)) else none) = some z := q
      split at q
      · rename_i hf
        cases q
        cases dq_non ha
        obtain ⟨p, xs, rfl, h1, h2⟩ := dq_tup hb
        obtain ⟨h3, h4⟩ := dqa_flat h2 hf
        exact .inl ⟨p, xs, rfl, .inr (sqT h1), rfl, h3, by rw [h4]; exact hq _ fun _ => .bl _⟩
      · cases q
    | _ => cases q
  | _ => cases q
section
variable {X : Cx} {cl : Str → Addr} {n : Nat} {a b : Expr} {f g : Ev} {pos p p2 : Pos}
theorem jt_nit (k : Cok X W n) (ha : JE X cl W a f) (hb : JE X cl W b g) (hm : behindInMarks .In b = false := by rfl) : JT X cl W (.Compare a [.In] [b] pos) (asB (op2D nitF f g)) := let ⟨_, p1, s1⟩ := ha.p; let ⟨_, p2, s2⟩ := hb.p; ⟨_, pt_cmpR (opR_or op_in_seq (op_inD (by have := k.room.un; omega))) p1 p2 hm, snd_asB (snd_op2D s1 s2 rv_nit)⟩
end
end R

/-! What the interpreter answers, by weakest conditions. -/
namespace R
open PySem PySem.Spec PyProof.Rows L2
/-- what is wanted behind a statement -/
structure Kt where
  nx : En → Prop
  rt : Tr → En → Prop
  bk : En → Prop
  ct : En → Prop
  ex : Xc → En → Prop
/-- what stands behind is not looked into -/
class inductive Hd {β : Sort u} : β → Type u
  | mk (b : β) : Hd b
instance instHd {β : Sort u} (b : β) : Hd b := .mk b
def WS (o : So) (D : Kt) [Hd D] : Prop := match o with
  | .nx e => D.nx e
  | .rt t e => D.rt t e
  | .bk e => D.bk e
  | .ct e => D.ct e
  | .exc x e => D.ex x e
  | .no => False
def WE {α : Type} (o : Out α) (Q : α → En → Prop) (X : Xc → En → Prop) [Hd Q] [Hd X] : Prop := match o with
  | .ok a e => Q a e
  | .exc x e => X x e
  | .no => False
def WO {α : Type} (o : Option α) (Q : α → Prop) [Hd Q] : Prop := match o with
  | some a => Q a
  | none => False
def WR (r : Ret) (Q : Tr → List Tr → Prop) (X : Xc → List Tr → Prop) [Hd Q] [Hd X] : Prop := match r with
  | .ret t os => Q t os
  | .exc x os => X x os
  | .no => False
/-- a value and slots -/
def WP {α : Type} (o : Option (α × En)) (Q : α → En → Prop) [Hd Q] : Prop := match o with
  | some (a, e) => Q a e
  | none => False
/-- to be looked at when what is handed on is ready -/
def Kv {α : Type} (Q : α → Prop) (a : α) [Hd Q] : Prop := Q a
def Kw {α β : Type} (Q : α → β → Prop) (a : α) (b : β) [Hd Q] : Prop := Q a b
def WC (c : Bool) (A B : Prop) [Hd A] [Hd B] : Prop := match c with
  | true => A
  | false => B
variable {α β : Type} {nx bk ct : En → Prop} {rt : Tr → En → Prop} {ex : Xc → En → Prop} {X : Xc → En → Prop} {e : En}
theorem kv {Q : α → Prop} {a : α} : Kv Q a = Q a := rfl
theorem kw {Q : α → β → Prop} {a : α} {b : β} : Kw Q a b = Q a b := rfl
theorem wp_some {a : α} {e : En} {Q : α → En → Prop} : WP (some (a, e)) Q = Q a e := rfl
theorem wp_none {Q : α → En → Prop} : WP none Q = False := rfl
theorem wp_if {p : Prop} [Decidable p] {o : Option (α × En)} {Q : α → En → Prop} : WP (if p then o else none) Q = (p ∧ WP o Q) := by
  by_cases h : p
  · rw [if_pos h]; exact propext ⟨fun z => ⟨h, z⟩, fun z => z.2⟩
  · rw [if_neg h]; exact propext ⟨fun z => z.elim, fun z => absurd z.1 h⟩
theorem wc_t {A B : Prop} : WC true A B = A := rfl
theorem wc_f {A B : Prop} : WC false A B = B := rfl
theorem wc_not {c : Bool} {A B : Prop} : WC (!c) A B = WC c B A := by cases c <;> rfl
theorem wc_b {c : Bool} {A B : Prop} : WC c A B = ((c = true → A) ∧ (c = false → B)) := by
  cases c
  · exact propext ⟨fun b => ⟨fun n => (nomatch n), fun _ => b⟩, fun z => z.2 rfl⟩
  · exact propext ⟨fun a => ⟨fun _ => a, fun n => nomatch n⟩, fun z => z.1 rfl⟩
theorem wo_some {a : α} {Q : α → Prop} : WO (some a) Q = Q a := rfl
theorem wo_none {Q : α → Prop} : WO none Q = False := rfl
theorem wo_if {p : Prop} [Decidable p] {o : Option α} {Q : α → Prop} : WO (if p then o else none) Q = (p ∧ WO o Q) := by
  by_cases h : p
  · rw [if_pos h]; exact propext ⟨fun z => ⟨h, z⟩, fun z => z.2⟩
  · rw [if_neg h]; exact propext ⟨fun z => z.elim, fun z => absurd z.1 h⟩
theorem wo_bind {o : Option α} {f : α → Option β} {Q : β → Prop} : WO (o.bind f) Q = WO o fun a => WO (f a) Q := by cases o <;> rfl
theorem we_ok {a : α} {Q : α → En → Prop} : WE (.ok a e) Q X = Q a e := rfl
theorem wr_ret {t : Tr} {os : List Tr} {Q : Tr → List Tr → Prop} {X : Xc → List Tr → Prop} : WR (.ret t os) Q X = Q t os := rfl
theorem wr_exc {t : Xc} {os : List Tr} {Q : Tr → List Tr → Prop} {X : Xc → List Tr → Prop} : WR (.exc t os) Q X = X t os := rfl
theorem we_bnd {o : Out α} {f : α → En → Out β} {Q : β → En → Prop} : WE (o.bnd f) Q X = WE o (fun a e => WE (f a e) Q X) X := by cases o <;> rfl
theorem we_onE {o : Out α} {h : En → En} {Q : α → En → Prop} : WE (o.onE h) Q X = WE o (fun a e => Q a (h e)) fun x e => X x (h e) := by cases o <;> rfl
theorem ws_so {o : Out α} {f : α → En → So} : WS (o.so f) (Kt.mk nx rt bk ct ex) = WE o (fun a e => WS (f a e) (Kt.mk nx rt bk ct ex)) ex := by cases o <;> rfl
theorem we_mono {o : Out α} {Q Q' : α → En → Prop} (h : WE o Q X) (k : ∀ a e, Q a e → Q' a e) : WE o Q' X := by
  cases o with
  | ok a e => exact k a e h
  | exc x e => exact h
  | no => exact h
theorem we_noX {o : Out α} {Q : α → En → Prop} : WE o.noX Q X = WE o Q fun _ _ => False := by cases o <;> rfl
/-- from here, the answer -/
theorem ret_of {r : Ret} {t : Tr} {os : List Tr} (h : WR r (fun t' os' => t' = t ∧ os' = os) fun _ _ => False) : r = .ret t os := by
  cases r with
  | ret t' os' => obtain ⟨rfl, rfl⟩ := h; rfl
  | exc _ _ => exact h.elim
  | no => exact h.elim
theorem wr_iff {r : Ret} {Q : Tr → List Tr → Prop} (h : WR r Q fun _ _ => False) : ∃ t os, r = .ret t os ∧ Q t os := by
  cases r with
  | ret t' os' => exact ⟨_, _, rfl, h⟩
  | exc _ _ => exact h.elim
  | no => exact h.elim
/-! ### values -/
def vOf (i : Nat) : Tr → Option Rs
  | .un => none
  | .dat d => some (.dat d)
  | _ => some (.pl i [])
variable {Q : Rs → En → Prop}
theorem we_var {i : Nat} : WE (varV i e) Q X = WO e[i]? fun x => WO (vOf i x.t) fun r => Q r e := by
  unfold varV
  cases e[i]? with
  | none => rfl
  | some x =>
    show WE (match x.t with | .un => .no | .dat d => .ok (.dat d) e | _ => .ok (.pl i []) e) Q X = WO (vOf i x.t) fun r => Q r e
    cases x.t <;> rfl
theorem vOf_dat {i : Nat} {d : PyData} : vOf i (.dat d) = some (.dat d) := rfl
theorem vOf_own {i : Nat} {d : List PyData} : vOf i (.own d) = some (.pl i []) := rfl
theorem vOf_scr {i : Nat} {d : List Int} : vOf i (.scr d) = some (.pl i []) := rfl
theorem vOf_dic {i : Nat} {d : List (Key × PyData)} : vOf i (.dic d) = some (.pl i []) := rfl
theorem vOf_tup {i : Nat} {d : List Tr} : vOf i (.tup d) = some (.pl i []) := rfl
theorem vOf_lst {i : Nat} {d : List Tr} : vOf i (.lst d) = some (.pl i []) := rfl
theorem sl_o {t : Tr} : Sl.t (.o t) = t := rfl
theorem sl_r {t : Tr} : Sl.t (.r t) = t := rfl
theorem we_cst {d : PyData} : WE (cstV d e) Q X = Q (.dat d) e := rfl
theorem get_nil {t : Tr} : Tr.get [] t = some t := by unfold Tr.get; rfl
theorem put_nil {t y : Tr} : Tr.put y [] t = y := by unfold Tr.put; rfl
theorem getR_dat {d : PyData} : getR e (.dat d) = some (.dat d) := rfl
theorem getR_new {t : Tr} : getR e (.new t) = some t := rfl
theorem getR_pl {i : Nat} {p : Pa} : getR e (.pl i p) = getPl e i p := rfl
theorem wo_rdS {r : Rs} {K : PyData → Prop} : WO (rdS e r) K = WO (getR e r) fun t => WO (shal t) K := by unfold rdS; exact wo_bind
theorem wo_rdD {r : Rs} {K : PyData → Prop} : WO (rdD e r) K = WO (getR e r) fun t => WO t.data K := by unfold rdD; exact wo_bind
theorem shal_dat {d : PyData} : shal (.dat d) = some d := rfl
theorem shal_own {d : List PyData} : shal (.own d) = some (.list d) := rfl
theorem data_dat {d : PyData} : Tr.data (.dat d) = some d := by unfold Tr.data; rfl
theorem data_own {d : List PyData} : Tr.data (.own d) = some (.list d) := by unfold Tr.data; rfl
theorem frz_dat {d : PyData} : frz e (.dat d) = some (d, e) := rfl
theorem wp_frzN {t : Tr} {K : PyData → En → Prop} : WP (frz e (.new t)) K = WO t.data fun d => K d e := by
  show WP (match t.data with | some d => some (d, e) | none => none) K = WO t.data fun d => K d e
  cases t.data <;> rfl
def isOx : Sl → Bool
  | .o _ => true
  | .r _ => false
theorem isOx_o {t : Tr} : isOx (.o t) = true := rfl
theorem wp_frzP {i : Nat} {p : Pa} {K : PyData → En → Prop} : WP (frz e (.pl i p)) K = WO (getPl e i p) fun t => WO t.data fun d => isO e i = true ∧ Kw K d (putPl e i p (.dat d)) := by
  show WP (match getPl e i p with | some t => (match t.data with | some d => if isO e i then some (d, putPl e i p (.dat d)) else none | none => none) | none => none) K = WO (getPl e i p) _
  cases getPl e i p with
  | none => rfl
  | some t =>
    show WP (match t.data with | some d => if isO e i then some (d, putPl e i p (.dat d)) else none | none => none) K = WO t.data _
    cases t.data with
    | none => rfl
    | some d => exact wp_if
theorem toT_dat {d : PyData} : toT e (.dat d) = some (.dat d, e) := rfl
theorem toT_new {t : Tr} : toT e (.new t) = some (t, e) := rfl
theorem wp_toTP {i : Nat} {p : Pa} {K : Tr → En → Prop} : WP (toT e (.pl i p)) K = WP (frz e (.pl i p)) fun d e1 => K (.dat d) e1 := by
  show WP (match frz e (.pl i p) with | some (d, e2) => some (Tr.dat d, e2) | none => none) K = WP (frz e (.pl i p)) _
  cases frz e (.pl i p) with
  | none => rfl
  | some q => rfl
theorem we_asD {f : Ev} {Q : PyData → En → Prop} : WE (asD f e) Q X = WE (f e) (fun r e1 => WP (frz e1 r) Q) X := by
  unfold asD
  cases f e with
  | ok r e1 =>
    show WE (match frz e1 r with | some (d, e2) => .ok d e2 | none => .no) Q X = WP (frz e1 r) _
    cases frz e1 r <;> rfl
  | exc _ _ => rfl
  | no => rfl
theorem we_asT {f : Ev} {Q : Tr → En → Prop} : WE (asT f e) Q X = WE (f e) (fun r e1 => WP (toT e1 r) Q) X := by
  unfold asT
  cases f e with
  | ok r e1 =>
    show WE (match toT e1 r with | some (d, e2) => .ok d e2 | none => .no) Q X = WP (toT e1 r) _
    cases toT e1 r <;> rfl
  | exc _ _ => rfl
  | no => rfl
def bOf : PyData → Option Bool
  | .bool b => some b
  | _ => none
def iOf : PyData → Option Int
  | .int b => some b
  | _ => none
theorem bOf_bool {b : Bool} : bOf (.bool b) = some b := rfl
theorem iOf_int {b : Int} : iOf (.int b) = some b := rfl
theorem we_asB {f : Ev} {Q : Bool → En → Prop} : WE (asB f e) Q X = WE (f e) (fun r e1 => WO (rdS e1 r) fun d => WO (bOf d) fun b => Q b e1) X := by
  unfold asB
  cases f e with
  | ok r e1 =>
    show WE (match rdS e1 r with | some (.bool b) => .ok b e1 | _ => .no) Q X = WO (rdS e1 r) _
    cases rdS e1 r with
    | none => rfl
    | some d => cases d <;> rfl
  | exc _ _ => rfl
  | no => rfl
theorem hold_dat {d : PyData} : holdR (.dat d) e = e := rfl
theorem hold_new {d : Tr} : holdR (.new d) e = e := rfl
theorem hold_pl0 {i : Nat} : holdR (.pl i []) e = e := rfl
theorem unhold_dat {d : PyData} {e2 : En} : unholdR (.dat d) e e2 = e2 := rfl
theorem unhold_new {d : Tr} {e2 : En} : unholdR (.new d) e e2 = e2 := rfl
theorem unhold_pl0 {i : Nat} {e2 : En} : unholdR (.pl i []) e e2 = e2 := rfl
theorem we_two {f g : Ev} {Q : Rs × Rs → En → Prop} : WE (twoF f g e) Q X = WE (f e) (fun x e1 => WE (g (holdR x e1)) (fun y e2 => Q (x, y) (unholdR x e1 e2)) fun z e2 => X z (unholdR x e1 e2)) X := by
  unfold twoF
  rw [we_bnd]
  cases f e with
  | ok x e1 =>
    show WE (((g (holdR x e1)).onE (unholdR x e1)).bnd fun y e2 => .ok (x, y) e2) Q X = WE (g (holdR x e1)) _ _
    rw [we_bnd, we_onE]
    rfl
  | exc _ _ => rfl
  | no => rfl
theorem rs_dat {d : PyData} : Rz.rs (.dat d) = .dat d := rfl
theorem rs_lst {d : List PyData} : Rz.rs (.lst d) = .new (.own d) := rfl
def op2K (o : PyData → PyData → Option Rz) (Q : Rs → En → Prop) (x y : Rs) (e : En) [Hd Q] : Prop := WO (rdS e x) fun d1 => WO (rdS e y) fun d2 => WO (o d1 d2) fun z => Q z.rs e
theorem op2k {o : PyData → PyData → Option Rz} {x y : Rs} : op2K o Q x y e = WO (rdS e x) fun d1 => WO (rdS e y) fun d2 => WO (o d1 d2) fun z => Q z.rs e := rfl
def op2DK (o : PyData → PyData → Option PyData) (Q : Rs → En → Prop) (x y : Rs) (e : En) [Hd Q] : Prop := WO (rdD e x) fun d1 => WO (rdD e y) fun d2 => WO (o d1 d2) fun z => Q (.dat z) e
theorem op2dk {o : PyData → PyData → Option PyData} {x y : Rs} : op2DK o Q x y e = WO (rdD e x) fun d1 => WO (rdD e y) fun d2 => WO (o d1 d2) fun z => Q (.dat z) e := rfl
theorem we_op2 {o : PyData → PyData → Option Rz} {f g : Ev} : WE (op2 o f g e) Q X = WE (f e) (fun x e1 => WE (g (holdR x e1)) (fun y e2 => op2K o Q x y (unholdR x e1 e2)) fun z e2 => X z (unholdR x e1 e2)) X := by
  refine Eq.trans ?_ (we_two (Q := fun p e2 => op2K o Q p.1 p.2 e2))
  unfold op2
  cases twoF f g e with
  | ok p e2 =>
    show WE (match rdS e2 p.1, rdS e2 p.2 with | some d1, some d2 => (match o d1 d2 with | some z => .ok z.rs e2 | none => .no) | _, _ => .no) Q X = WO (rdS e2 p.1) _
    cases rdS e2 p.1 with
    | none => cases rdS e2 p.2 <;> rfl
    | some d1 =>
      cases rdS e2 p.2 with
      | none => rfl
      | some d2 =>
        show WE (match o d1 d2 with | some z => .ok z.rs e2 | none => .no) Q X = WO (o d1 d2) _
        cases o d1 d2 <;> rfl
  | exc _ _ => rfl
  | no => rfl
theorem we_op2D {o : PyData → PyData → Option PyData} {f g : Ev} : WE (op2D o f g e) Q X = WE (f e) (fun x e1 => WE (g (holdR x e1)) (fun y e2 => op2DK o Q x y (unholdR x e1 e2)) fun z e2 => X z (unholdR x e1 e2)) X := by
  refine Eq.trans ?_ (we_two (Q := fun p e2 => op2DK o Q p.1 p.2 e2))
  unfold op2D
  cases twoF f g e with
  | ok p e2 =>
    show WE (match rdD e2 p.1, rdD e2 p.2 with | some d1, some d2 => (match o d1 d2 with | some z => .ok (.dat z) e2 | none => .no) | _, _ => .no) Q X = WO (rdD e2 p.1) _
    cases rdD e2 p.1 with
    | none => cases rdD e2 p.2 <;> rfl
    | some d1 =>
      cases rdD e2 p.2 with
      | none => rfl
      | some d2 =>
        show WE (match o d1 d2 with | some z => .ok (.dat z) e2 | none => .no) Q X = WO (o d1 d2) _
        cases o d1 d2 <;> rfl
  | exc _ _ => rfl
  | no => rfl
theorem we_op1 {o : PyData → Option Rz} {f : Ev} : WE (op1 o f e) Q X = WE (f e) (fun r e1 => WO (rdS e1 r) fun d => WO (o d) fun z => Q z.rs e1) X := by
  unfold op1
  cases f e with
  | ok r e1 =>
    show WE (match rdS e1 r with | some d => (match o d with | some z => .ok z.rs e1 | none => .no) | none => .no) Q X = WO (rdS e1 r) _
    cases rdS e1 r with
    | none => rfl
    | some d =>
      show WE (match o d with | some z => .ok z.rs e1 | none => .no) Q X = WO (o d) _
      cases o d <;> rfl
  | exc _ _ => rfl
  | no => rfl
theorem we_op1D {o : PyData → Option PyData} {f : Ev} : WE (op1D o f e) Q X = WE (f e) (fun r e1 => WO (rdD e1 r) fun d => WO (o d) fun z => Q (.dat z) e1) X := by
  unfold op1D
  cases f e with
  | ok r e1 =>
    show WE (match rdD e1 r with | some d => (match o d with | some z => .ok (.dat z) e1 | none => .no) | none => .no) Q X = WO (rdD e1 r) _
    cases rdD e1 r with
    | none => rfl
    | some d =>
      show WE (match o d with | some z => .ok (.dat z) e1 | none => .no) Q X = WO (o d) _
      cases o d <;> rfl
  | exc _ _ => rfl
  | no => rfl
theorem we_notV {f : Ev} : WE (notV f e) Q X = WE (asB f e) (fun b e1 => Q (.dat (.bool (!b))) e1) X := by unfold notV; exact we_bnd
theorem we_andV {f g : Ev} : WE (andV f g e) Q X = WE (asB f e) (fun b e1 => WC b (WE (g e1) Q X) (Q (.dat (.bool false)) e1)) X := by
  unfold andV
  cases asB f e with
  | ok b e1 => cases b <;> rfl
  | exc _ _ => rfl
  | no => rfl
theorem we_orV {f g : Ev} : WE (orV f g e) Q X = WE (asB f e) (fun b e1 => WC b (Q (.dat (.bool true)) e1) (WE (g e1) Q X)) X := by
  unfold orV
  cases asB f e with
  | ok b e1 => cases b <;> rfl
  | exc _ _ => rfl
  | no => rfl
theorem we_notT {t : Et} {Q : Bool → En → Prop} : WE (notT t e) Q X = WE (t e) (fun b e1 => Q (!b) e1) X := by unfold notT; exact we_bnd
theorem we_andT {t u : Et} {Q : Bool → En → Prop} : WE (andT t u e) Q X = WE (t e) (fun b e1 => WC b (WE (u e1) Q X) (Q false e1)) X := by
  unfold andT
  cases t e with
  | ok b e1 => cases b <;> rfl
  | exc _ _ => rfl
  | no => rfl
theorem we_orT {t u : Et} {Q : Bool → En → Prop} : WE (orT t u e) Q X = WE (t e) (fun b e1 => WC b (Q true e1) (WE (u e1) Q X)) X := by
  unfold orT
  cases t e with
  | ok b e1 => cases b <;> rfl
  | exc _ _ => rfl
  | no => rfl
theorem we_yesT {Q : Bool → En → Prop} : WE (yesT e) Q X = Q true e := rfl
theorem we_ife {t : Et} {f g : Ev} : WE (ifeV t f g e) Q X = WE (t e) (fun b e1 => WC b (WE (f e1) Q X) (WE (g e1) Q X)) X := by
  unfold ifeV
  cases t e with
  | ok b e1 => cases b <;> rfl
  | exc _ _ => rfl
  | no => rfl
theorem we_argsD0 {Q : List PyData → En → Prop} : WE (argsD [] e) Q X = Q [] e := rfl
theorem we_argsDc {f : Ev} {fs : List Ev} {Q : List PyData → En → Prop} : WE (argsD (f :: fs) e) Q X = WE (asD f e) (fun d e1 => WE (argsD fs e1) (fun ds e2 => Q (d :: ds) e2) X) X := by
  unfold argsD
  rw [we_bnd]
  cases asD f e with
  | ok b e1 => exact we_bnd
  | exc _ _ => rfl
  | no => rfl
theorem we_argsT0 {Q : List Tr → En → Prop} : WE (argsT [] e) Q X = Q [] e := rfl
theorem we_argsTc {f : Ev} {fs : List Ev} {Q : List Tr → En → Prop} : WE (argsT (f :: fs) e) Q X = WE (asT f e) (fun d e1 => WE (argsT fs e1) (fun ds e2 => Q (d :: ds) e2) X) X := by
  unfold argsT
  rw [we_bnd]
  cases asT f e with
  | ok b e1 => exact we_bnd
  | exc _ _ => rfl
  | no => rfl
theorem we_if {p : Prop} [Decidable p] {o : Out α} {Q : α → En → Prop} : WE (if p then o else .no) Q X = (p ∧ WE o Q X) := by
  by_cases h : p
  · rw [if_pos h]; exact propext ⟨fun z => ⟨h, z⟩, fun z => z.2⟩
  · rw [if_neg h]; exact propext ⟨fun z => z.elim, fun z => absurd z.1 h⟩
theorem we_tup {fs : List Ev} : WE (tupV fs e) Q X = WE (argsT fs e) (fun ts e1 => lenOk ts.length = true ∧ Q (mkTup ts) e1) X := by
  unfold tupV
  cases argsT fs e with
  | ok b e1 => exact we_if
  | exc _ _ => rfl
  | no => rfl
theorem we_lst {fs : List Ev} : WE (lstV fs e) Q X = WE (argsT fs e) (fun ts e1 => lenOk ts.length = true ∧ Q (.new (mkLst ts)) e1) X := by
  unfold lstV
  cases argsT fs e with
  | ok b e1 => exact we_if
  | exc _ _ => rfl
  | no => rfl
def mkTupO (o : Option (List PyData)) (ts : List Tr) : Rs := match o with
  | some ds => .dat (.tuple ds)
  | none => .new (.tup ts)
def mkLstO (o : Option (List PyData)) (ts : List Tr) : Tr := match o with
  | some ds => .own ds
  | none => .lst ts
theorem mkTup_eq {ts : List Tr} : mkTup ts = mkTupO (datsOf ts) ts := by
  unfold mkTup
  cases datsOf ts <;> rfl
theorem mkLst_eq {ts : List Tr} : mkLst ts = mkLstO (datsOf ts) ts := by
  unfold mkLst
  cases datsOf ts <;> rfl
theorem mkTupO_s {ds : List PyData} {ts : List Tr} : mkTupO (some ds) ts = .dat (.tuple ds) := rfl
theorem mkLstO_s {ds : List PyData} {ts : List Tr} : mkLstO (some ds) ts = .own ds := rfl
def consO (d : PyData) (o : Option (List PyData)) : Option (List PyData) := match o with
  | some l => some (d :: l)
  | none => none
theorem consO_s {d : PyData} {l : List PyData} : consO d (some l) = some (d :: l) := rfl
theorem datsOf_nil : datsOf [] = some [] := rfl
theorem datsOf_c {d : PyData} {r : List Tr} : datsOf (.dat d :: r) = consO d (datsOf r) := by
  show (match datsOf r with | some l => some (d :: l) | none => none) = _
  cases datsOf r <;> rfl
def ixT (x : Rs) (j : Int) : Tr → Option Rs
  | .dat d => (ixF d j).map .dat
  | .own ds => (atI ds j).map .dat
  | .scr ns => (atI ns j).map fun z => .dat (.int z)
  | .tup ts => partR x ts j
  | .lst ts => partR x ts j
  | _ => none
theorem wo_ixA {x : Rs} {j : Int} {K : Rs → Prop} : WO (ixA e x j) K = WO (getR e x) fun t => WO (ixT x j t) K := by
  unfold ixA
  cases getR e x with
  | none => rfl
  | some t =>
    cases t with
    | dat d =>
      show WO (match ixF d j with | some z => some (.dat z) | none => none) K = WO ((ixF d j).map .dat) K
      cases ixF d j <;> rfl
    | own d =>
      show WO (match atI d j with | some z => some (.dat z) | none => none) K = WO ((atI d j).map .dat) K
      cases atI d j <;> rfl
    | scr d =>
      show WO (match atI d j with | some z => some (.dat (.int z)) | none => none) K = WO ((atI d j).map _) K
      cases atI d j <;> rfl
    | _ => rfl
theorem wo_map {o : Option α} {f : α → β} {K : β → Prop} : WO (o.map f) K = WO o fun a => K (f a) := by cases o <;> rfl
theorem ixT_dat {x : Rs} {j : Int} {d : PyData} : ixT x j (.dat d) = (ixF d j).map .dat := rfl
theorem ixT_own {x : Rs} {j : Int} {d : List PyData} : ixT x j (.own d) = (atI d j).map .dat := rfl
theorem ixT_scr {x : Rs} {j : Int} {d : List Int} : ixT x j (.scr d) = (atI d j).map fun z => .dat (.int z) := rfl
theorem ixF_list {ds : List PyData} {j : Int} : ixF (.list ds) j = atI ds j := rfl
theorem ixF_tup {ds : List PyData} {j : Int} : ixF (.tuple ds) j = atI ds j := rfl
def ixK (Q : Rs → En → Prop) (x y : Rs) (e : En) [Hd Q] : Prop := WO (rdS e y) fun d => WO (iOf d) fun j => WO (ixA e x j) fun r => Q r e
theorem ixk {x y : Rs} : ixK Q x y e = WO (rdS e y) fun d => WO (iOf d) fun j => WO (ixA e x j) fun r => Q r e := rfl
theorem we_ix {f g : Ev} : WE (ixV f g e) Q X = WE (f e) (fun x e1 => WE (g (holdR x e1)) (fun y e2 => ixK Q x y (unholdR x e1 e2)) fun z e2 => X z (unholdR x e1 e2)) X := by
  refine Eq.trans ?_ (we_two (Q := fun p e2 => ixK Q p.1 p.2 e2))
  unfold ixV
  cases twoF f g e with
  | ok p e2 =>
    show WE (match rdS e2 p.2 with | some (.int j) => (match ixA e2 p.1 j with | some r => .ok r e2 | none => .no) | _ => .no) Q X = WO (rdS e2 p.2) _
    cases rdS e2 p.2 with
    | none => rfl
    | some d =>
      cases d with
      | int j =>
        show WE (match ixA e2 p.1 j with | some r => .ok r e2 | none => .no) Q X = WO (ixA e2 p.1 j) _
        cases ixA e2 p.1 j <;> rfl
      | _ => rfl
  | exc _ _ => rfl
  | no => rfl
theorem we_opt0 {Q : Option Int → En → Prop} : WE (optI none e) Q X = Q none e := rfl
theorem we_opt1 {f : Ev} {Q : Option Int → En → Prop} : WE (optI (some f) e) Q X = WE (f e) (fun r e1 => WO (rdS e1 r) fun d => WO (iOf d) fun i => Q (some i) e1) X := by
  show WE ((f e).bnd fun r e1 => match rdS e1 r with | some (.int i) => .ok (some i) e1 | _ => .no) Q X = _
  cases f e with
  | ok r e1 =>
    show WE (match rdS e1 r with | some (.int i) => .ok (some i) e1 | _ => .no) Q X = WO (rdS e1 r) _
    cases rdS e1 r with
    | none => rfl
    | some d => cases d <;> rfl
  | exc _ _ => rfl
  | no => rfl
def slK (Q : Rs → En → Prop) (x : Rs) (l h : Option Int) (e : En) [Hd Q] : Prop := WO (rdS e x) fun d => WO (slF d l h) fun z => Q z.rs e
theorem slk {x : Rs} {l h : Option Int} : slK Q x l h e = WO (rdS e x) fun d => WO (slF d l h) fun z => Q z.rs e := rfl
theorem we_slc {f : Ev} {lo hi : Option Ev} : WE (slcV f lo hi e) Q X = WE (f e) (fun x e1 => WE (optI lo (holdR x e1)) (fun l e2 => WE (optI hi e2) (fun h e3 => slK Q x l h (unholdR x e1 e3)) fun z e3 => X z (unholdR x e1 e3)) fun z e3 => X z (unholdR x e1 e3)) X := by
  unfold slcV
  cases f e with
  | ok x e1 =>
    show WE (Out.bnd (Out.onE _ _) _) Q X = _
    rw [we_bnd, we_onE, we_bnd]
    show _ = WE (optI lo (holdR x e1)) _ _
    cases optI lo (holdR x e1) with
    | ok l e2 =>
      show WE (Out.bnd (optI hi e2) _) _ _ = WE (optI hi e2) _ _
      rw [we_bnd]
      cases optI hi e2 with
      | ok h e3 =>
        show WE (match rdS (unholdR x e1 e3) x with | some d => (match slF d l h with | some z => .ok z.rs (unholdR x e1 e3) | none => .no) | none => .no) Q X = WO (rdS (unholdR x e1 e3) x) _
        cases rdS (unholdR x e1 e3) x with
        | none => rfl
        | some d =>
          show WE (match slF d l h with | some z => .ok z.rs (unholdR x e1 e3) | none => .no) Q X = WO (slF d l h) _
          cases slF d l h <;> rfl
      | exc _ _ => rfl
      | no => rfl
    | exc _ _ => rfl
    | no => rfl
  | exc _ _ => rfl
  | no => rfl
def lenT : Tr → Option Int
  | .tup ts => some ts.length
  | .lst ts => some ts.length
  | .scr ns => some ns.length
  | .own ds => some ds.length
  | .dat (.list ds) => some ds.length
  | .dat (.tuple ds) => some ds.length
  | .dat (.str z) => if lenOk z.length then some z.length else none
  | _ => none
theorem we_len {f : Ev} : WE (lenV f e) Q X = WE (f e) (fun r e1 => WO (getR e1 r) fun t => WO (lenT t) fun n => Q (.dat (.int n)) e1) X := by
  unfold lenV
  cases f e with
  | ok r e1 =>
    show WE (match getR e1 r with | some (.tup ts) => .ok (.dat (.int ts.length)) e1 | some (.lst ts) => .ok (.dat (.int ts.length)) e1 | some (.scr ns) => .ok (.dat (.int ns.length)) e1 | some t => (match shal t with | some d => (match lenF d with | some z => .ok z.rs e1 | none => .no) | none => .no) | none => .no) Q X = WO (getR e1 r) _
    cases getR e1 r with
    | none => rfl
    | some t =>
      cases t with
      | dat d =>
        cases d with
        | str z =>
          show WE (match (if lenOk z.length then some (Rz.dat (.int z.length)) else none) with | some z => .ok z.rs e1 | none => .no) Q X = WO (if lenOk z.length then some (z.length : Int) else none) _
          by_cases c : lenOk z.length = true
          · rw [if_pos c, if_pos c]; rfl
          · rw [if_neg c, if_neg c]; rfl
        | _ => rfl
      | _ => rfl
  | exc _ _ => rfl
  | no => rfl
theorem lenT_own {ds : List PyData} : lenT (.own ds) = some (ds.length : Int) := rfl
theorem lenT_scr {ds : List Int} : lenT (.scr ds) = some (ds.length : Int) := rfl
theorem lenT_list {ds : List PyData} : lenT (.dat (.list ds)) = some (ds.length : Int) := rfl
theorem lenT_tup {ds : List PyData} : lenT (.dat (.tuple ds)) = some (ds.length : Int) := rfl
def tupO (e : En) (r : Rs) : Option Rs := match r with
  | .new (.lst ts) => some (mkTup ts)
  | _ => (rdS e r).bind fun d => (tupF d).map Rz.rs
theorem we_tuple {f : Ev} : WE (tupleV f e) Q X = WE (f e) (fun r e1 => WO (tupO e1 r) fun z => Q z e1) X := by
  unfold tupleV
  cases f e with
  | ok r e1 =>
    have gen : WE (match rdS e1 r with | some d => (match tupF d with | some z => .ok z.rs e1 | none => .no) | none => .no) Q X = WO ((rdS e1 r).bind fun d => (tupF d).map Rz.rs) fun z => Q z e1 := by
      cases rdS e1 r with
      | none => rfl
      | some d =>
        show WE (match tupF d with | some z => .ok z.rs e1 | none => .no) Q X = WO ((tupF d).map Rz.rs) _
        cases tupF d <;> rfl
    cases r with
    | new t =>
      cases t with
      | lst ts => rfl
      | _ => exact gen
    | _ => exact gen
  | exc _ _ => rfl
  | no => rfl
theorem tupO_dat {d : PyData} : tupO e (.dat d) = (tupF d).map Rz.rs := rfl
theorem tupO_own {ds : List PyData} : tupO e (.new (.own ds)) = some (.dat (.tuple ds)) := rfl
theorem wo_tupOP {i : Nat} {p : Pa} {K : Rs → Prop} : WO (tupO e (.pl i p)) K = WO (rdS e (.pl i p)) fun d => WO (tupF d) fun z => K z.rs := by
  show WO ((rdS e (.pl i p)).bind fun d => (tupF d).map Rz.rs) K = _
  rw [wo_bind]
  cases rdS e (.pl i p) with
  | none => rfl
  | some d => exact wo_map
/-! ### methods -/
def mtO (m : Mt) (x : Rs) (ds : List PyData) (e2 : En) : Option (PyData × En) := match x with
  | .pl i p => match getPl e2 i p with
    | some (.own l) => if isO e2 i then (match mtF m l ds with
      | some (l2, d) => some (d, putPl e2 i p (.own l2))
      | none => none) else none
    | _ => none
  | _ => none
theorem we_mth {m : Mt} {f : Ev} {fs : List Ev} : WE (mthV m f fs e) Q X = WE (f e) (fun x e1 => isL e1 x = true ∧ WE (argsD fs (holdR x e1)) (fun ds e2 => WP (mtO m x ds (unholdR x e1 e2)) fun y e3 => Q (.dat y) e3) fun z e2 => X z (unholdR x e1 e2)) X := by
  unfold mthV
  cases f e with
  | ok x e1 =>
    show WE (if isL e1 x then _ else .no) Q X = _
    rw [we_if, we_bnd, we_onE]
    show _ = (isL e1 x = true ∧ WE (argsD fs (holdR x e1)) _ _)
    cases argsD fs (holdR x e1) with
    | ok ds e2 =>
      show (isL e1 x = true ∧ WE _ Q X) = (isL e1 x = true ∧ WP (mtO m x ds (unholdR x e1 e2)) _)
      congr 1
      unfold mtO
      cases x with
      | pl i p =>
        dsimp only
        cases getPl (unholdR (.pl i p) e1 e2) i p with
        | none => rfl
        | some t =>
          cases t with
          | own l =>
            dsimp only
            split
            · cases mtF m l ds <;> rfl
            · rfl
          | _ => rfl
      | _ => rfl
    | exc _ _ => rfl
    | no => rfl
  | exc _ _ => rfl
  | no => rfl
def ownO : Tr → Option (List PyData)
  | .own l => some l
  | _ => none
theorem ownO_s {l : List PyData} : ownO (.own l) = some l := rfl
theorem wp_mtO {m : Mt} {i : Nat} {p : Pa} {ds : List PyData} {K : PyData → En → Prop} : WP (mtO m (.pl i p) ds e) K = WO (getPl e i p) fun t => WO (ownO t) fun l => isO e i = true ∧ WO (mtF m l ds) fun y => Kw K y.2 (putPl e i p (.own y.1)) := by
  dsimp only [mtO]
  cases getPl e i p with
  | none => rfl
  | some t =>
    cases t with
    | own l =>
      show WP (if isO e i then (match mtF m l ds with | some (l2, d) => some (d, putPl e i p (.own l2)) | none => none) else none) K = (isO e i = true ∧ WO (mtF m l ds) _)
      rw [wp_if]
      congr 1
      cases mtF m l ds <;> rfl
    | _ => rfl
theorem mt_append_eq {l : List PyData} {d : PyData} : mtF .append l [d] = if lenOk l.length = true then some (l ++ [d], .none) else none := rfl
theorem we_mth1 {o : PyData → PyData → Option Rz} {f g : Ev} : WE (mth1 o f g e) Q X = WE (f e) (fun x e1 => isL e1 x = true ∧ WE (g (holdR x e1)) (fun y e2 => op2K o Q x y (unholdR x e1 e2)) fun z e2 => X z (unholdR x e1 e2)) X := by
  unfold mth1
  cases f e with
  | ok x e1 =>
    show WE (if isL e1 x then _ else .no) Q X = _
    rw [we_if, we_bnd, we_onE]
    show _ = (isL e1 x = true ∧ WE (g (holdR x e1)) _ _)
    cases g (holdR x e1) with
    | ok y e2 =>
      show (isL e1 x = true ∧ WE (match rdS (unholdR x e1 e2) x, rdS (unholdR x e1 e2) y with | some d1, some d2 => (match o d1 d2 with | some z => .ok z.rs (unholdR x e1 e2) | none => .no) | _, _ => .no) Q X) = (isL e1 x = true ∧ WO (rdS (unholdR x e1 e2) x) _)
      congr 1
      cases rdS (unholdR x e1 e2) x with
      | none => cases rdS (unholdR x e1 e2) y <;> rfl
      | some d1 =>
        cases rdS (unholdR x e1 e2) y with
        | none => rfl
        | some d2 =>
          show WE (match o d1 d2 with | some z => .ok z.rs (unholdR x e1 e2) | none => .no) Q X = WO (o d1 d2) _
          cases o d1 d2 <;> rfl
    | exc _ _ => rfl
    | no => rfl
  | exc _ _ => rfl
  | no => rfl
end R

/-! Statements, calls, loops, by weakest conditions. -/
namespace R
open PySem PySem.Spec PyProof.Rows L2
variable {α β : Type} {nx bk ct : En → Prop} {rt : Tr → En → Prop} {ex : Xc → En → Prop} {X : Xc → En → Prop} {e : En} {Q : Rs → En → Prop}
theorem ws_nx : WS (.nx e) (Kt.mk nx rt bk ct ex) = nx e := rfl
theorem ws_rt {t : Tr} : WS (.rt t e) (Kt.mk nx rt bk ct ex) = rt t e := rfl
theorem ws_bk : WS (.bk e) (Kt.mk nx rt bk ct ex) = bk e := rfl
theorem ws_ct : WS (.ct e) (Kt.mk nx rt bk ct ex) = ct e := rfl
theorem ws_seq {a b : Es} : WS (seqS a b e) (Kt.mk nx rt bk ct ex) = WS (a e) ⟨fun e1 => WS (b e1) (Kt.mk nx rt bk ct ex), rt, bk, ct, ex⟩ := by
  show WS ((a e).thn b) (Kt.mk nx rt bk ct ex) = _
  cases a e <;> rfl
theorem ws_skip : WS (skipS e) (Kt.mk nx rt bk ct ex) = nx e := rfl
theorem ws_brk : WS (brkS e) (Kt.mk nx rt bk ct ex) = bk e := rfl
theorem ws_cnt : WS (cntS e) (Kt.mk nx rt bk ct ex) = ct e := rfl
theorem ws_raise {c : Str} : WS (raiseS c e) (Kt.mk nx rt bk ct ex) = ex ⟨c, []⟩ e := rfl
theorem wo_setN {i : Nat} {t : Tr} {K : En → Prop} : WO (setN i t e) K = WO e[i]? fun x => isOx x = true ∧ Kv K (e.set i (.o t)) := by
  unfold setN
  cases e[i]? with
  | none => rfl
  | some x =>
    cases x with
    | o _ => exact propext ⟨fun z => ⟨rfl, z⟩, fun z => z.2⟩
    | r _ => exact propext ⟨fun z => z.elim, fun z => nomatch z.1⟩
theorem ws_asg {i : Nat} {f : Ev} : WS (asgS i f e) (Kt.mk nx rt bk ct ex) = WE (asT f e) (fun t e1 => WO (setN i t e1) nx) ex := by
  unfold asgS
  cases asT f e with
  | ok t e1 =>
    show WS (match setN i t e1 with | some e2 => .nx e2 | none => .no) (Kt.mk nx rt bk ct ex) = WO (setN i t e1) _
    cases setN i t e1 <;> rfl
  | exc _ _ => rfl
  | no => rfl
theorem ws_asgD {g : Tg} {f : Ev} : WS (asgD g f e) (Kt.mk nx rt bk ct ex) = WE (asD f e) (fun t e1 => WO (bindG g t e1) nx) ex := by
  unfold asgD
  cases asD f e with
  | ok t e1 =>
    show WS (match bindG g t e1 with | some e2 => .nx e2 | none => .no) (Kt.mk nx rt bk ct ex) = WO (bindG g t e1) _
    cases bindG g t e1 <;> rfl
  | exc _ _ => rfl
  | no => rfl
theorem wo_bindN {i : Nat} {d : PyData} {K : En → Prop} : WO (bindG (.name i) d e) K = WO (setN i (.dat d) e) K := by
  rw [show bindG (.name i) d e = setN i (.dat d) e from by simp only [bindG]]
theorem wo_bindT {gs : Tgs} {ds : List PyData} {K : En → Prop} : WO (bindG (.tup gs) (.tuple ds) e) K = WO (bindGs gs ds e) K := by
  rw [show bindG (.tup gs) (.tuple ds) e = bindGs gs ds e from by simp only [bindG]]
theorem wo_bindL {gs : Tgs} {ds : List PyData} {K : En → Prop} : WO (bindG (.tup gs) (.list ds) e) K = WO (bindGs gs ds e) K := by
  rw [show bindG (.tup gs) (.list ds) e = bindGs gs ds e from by simp only [bindG]]
theorem wo_bind0 {K : En → Prop} : WO (bindGs .nil [] e) K = K e := by
  rw [show bindGs .nil [] e = some e from by simp only [bindGs]]; rfl
theorem wo_bindC {g : Tg} {gs : Tgs} {d : PyData} {ds : List PyData} {K : En → Prop} : WO (bindGs (.cons g gs) (d :: ds) e) K = WO (bindG g d e) fun e1 => WO (bindGs gs ds e1) K := by
  simp only [bindGs]
  cases bindG g d e <;> rfl
theorem ws_par {i j : Nat} {f g : Ev} : WS (parS i j f g e) (Kt.mk nx rt bk ct ex) = WE (asT f e) (fun t e1 => WE (asT g e1) (fun u e2 => WO (setN i t e2) fun e3 => WO (setN j u e3) nx) ex) ex := by
  unfold parS
  rw [ws_so, we_argsTc]
  cases asT f e with
  | ok t e1 =>
    show WE (argsT [g] e1) _ _ = WE (asT g e1) _ _
    rw [we_argsTc]
    cases asT g e1 with
    | ok u e2 =>
      show WS (match setN i t e2 with | some e2 => (match setN j u e2 with | some e3 => .nx e3 | none => .no) | none => .no) (Kt.mk nx rt bk ct ex) = WO (setN i t e2) _
      cases setN i t e2 with
      | none => rfl
      | some e3 =>
        show WS (match setN j u e3 with | some e3 => .nx e3 | none => .no) (Kt.mk nx rt bk ct ex) = WO (setN j u e3) _
        cases setN j u e3 <;> rfl
    | exc _ _ => rfl
    | no => rfl
  | exc _ _ => rfl
  | no => rfl
def stoO (p : Rs) (t : Tr) (e2 : En) (j : Int) : Option En := match p with
  | .pl k pa => (getPl e2 k pa).bind fun t0 => if isO e2 k then (setAt t0 j t).map fun t1 => putPl e2 k pa t1 else none
  | _ => none
def stoK (K : En → Prop) (t : Tr) (x y : Rs) (e : En) [Hd K] : Prop := WO (rdS e y) fun d => WO (iOf d) fun j => WO (stoO x t e j) K
theorem stok {K : En → Prop} {t : Tr} {x y : Rs} : stoK K t x y e = WO (rdS e y) fun d => WO (iOf d) fun j => WO (stoO x t e j) K := rfl
theorem ws_sto {o i f : Ev} : WS (stoS o i f e) (Kt.mk nx rt bk ct ex) = WE (asT f e) (fun t e1 => WE (o e1) (fun x e2 => WE (i (holdR x e2)) (fun y e3 => stoK nx t x y (unholdR x e2 e3)) fun z e3 => ex z (unholdR x e2 e3)) ex) ex := by
  refine Eq.trans ?_ (congrArg (fun Q : Tr → En → Prop => WE (asT f e) Q ex) (funext fun t => funext fun e1 => we_two (Q := fun p e2 => stoK nx t p.1 p.2 e2)))
  unfold stoS
  rw [ws_so]
  cases asT f e with
  | ok t e1 =>
    show WS ((twoF o i e1).so _) (Kt.mk nx rt bk ct ex) = WE (twoF o i e1) _ _
    rw [ws_so]
    cases twoF o i e1 with
    | ok p e2 =>
      show WS _ (Kt.mk nx rt bk ct ex) = WO (rdS e2 p.2) _
      cases rdS e2 p.2 with
      | none => rfl
      | some d =>
        cases d with
        | int j =>
          dsimp only
          show _ = WO (stoO p.1 t e2 j) nx
          unfold stoO
          cases p.1 with
          | pl k pa =>
            dsimp only
            cases getPl e2 k pa with
            | none => rfl
            | some t0 =>
              show WS (if isO e2 k then (match setAt t0 j t with | some t1 => .nx (putPl e2 k pa t1) | none => .no) else .no) (Kt.mk nx rt bk ct ex) = WO (if isO e2 k then (setAt t0 j t).map fun t1 => putPl e2 k pa t1 else none) nx
              cases isO e2 k with
              | false => rfl
              | true =>
                show WS (match setAt t0 j t with | some t1 => .nx (putPl e2 k pa t1) | none => .no) (Kt.mk nx rt bk ct ex) = WO ((setAt t0 j t).map _) nx
                cases setAt t0 j t <;> rfl
          | _ => rfl
        | _ => rfl
    | exc _ _ => rfl
    | no => rfl
  | exc _ _ => rfl
  | no => rfl
theorem wo_stoO {k : Nat} {pa : Pa} {t : Tr} {j : Int} {K : En → Prop} : WO (stoO (.pl k pa) t e j) K = WO (getPl e k pa) fun t0 => isO e k = true ∧ WO (setAt t0 j t) fun t1 => Kv K (putPl e k pa t1) := by
  dsimp only [stoO]
  rw [wo_bind]
  cases getPl e k pa with
  | none => rfl
  | some t0 =>
    show WO (if isO e k then _ else none) K = _
    rw [wo_if, wo_map]
    rfl
theorem setAt_own {ds : List PyData} {j : Int} {d : PyData} : setAt (.own ds) j (.dat d) = (ixN ds.length j).map fun k => .own (ds.set k d) := by
  show (match ixN ds.length j with | some k => some (Tr.own (ds.set k d)) | none => none) = _
  cases ixN ds.length j <;> rfl
theorem ws_expr {f : Ev} : WS (exprS f e) (Kt.mk nx rt bk ct ex) = WE (f e) (fun _ e1 => nx e1) ex := by
  unfold exprS
  cases f e <;> rfl
theorem ws_ret {f : Ev} : WS (retS f e) (Kt.mk nx rt bk ct ex) = WE (asT f e) rt ex := by
  unfold retS
  cases asT f e <;> rfl
theorem ws_retN : WS (retN e) (Kt.mk nx rt bk ct ex) = rt (.dat .none) e := rfl
def mvO (ms : List Nat) (e1 : En) : Rs → Option (Rs × En)
  | .pl i p => if ms.contains i then some (.pl i p, e1) else match getPl e1 i p with
    | some .un => none
    | some t => if isO e1 i then some (.new t, putPl e1 i p .un) else none
    | none => none
  | r => some (r, e1)
theorem we_mv {ms : List Nat} {f : Ev} : WE (mvV ms f e) Q X = WE (f e) (fun r e1 => WP (mvO ms e1 r) Q) X := by
  unfold mvV
  cases f e with
  | ok r e1 =>
    cases r with
    | pl i p =>
      show WE (if ms.contains i then .ok (Rs.pl i p) e1 else _) Q X = WP (if ms.contains i then some (Rs.pl i p, e1) else _) _
      cases ms.contains i with
      | true => rfl
      | false =>
        show WE (match getPl e1 i p with | some .un => .no | some t => if isO e1 i then .ok (.new t) (putPl e1 i p .un) else .no | none => .no) Q X = WP (match getPl e1 i p with | some .un => none | some t => if isO e1 i then some (Rs.new t, putPl e1 i p .un) else none | none => none) _
        cases getPl e1 i p with
        | none => rfl
        | some t => cases t <;> first | rfl | (dsimp only; cases isO e1 i <;> rfl)
    | _ => rfl
  | exc _ _ => rfl
  | no => rfl
theorem mvO_dat {ms : List Nat} {d : PyData} : mvO ms e (.dat d) = some (.dat d, e) := rfl
theorem mvO_new {ms : List Nat} {t : Tr} : mvO ms e (.new t) = some (.new t, e) := rfl
def unO : Tr → Option Tr
  | .un => none
  | t => some t
theorem unO_own {l : List PyData} : unO (.own l) = some (.own l) := rfl
theorem unO_dic {l : List (Key × PyData)} : unO (.dic l) = some (.dic l) := rfl
theorem unO_tup {l : List Tr} : unO (.tup l) = some (.tup l) := rfl
theorem wp_mvO {ms : List Nat} {i : Nat} {p : Pa} {K : Rs → En → Prop} : WP (mvO ms e (.pl i p)) K = WC (ms.contains i) (K (.pl i p) e) (WO (getPl e i p) fun t => WO (unO t) fun t => isO e i = true ∧ Kw K (.new t) (putPl e i p .un)) := by
  dsimp only [mvO]
  cases ms.contains i with
  | true => rfl
  | false =>
    show WP (match getPl e i p with | some .un => none | some t => if isO e i then some (Rs.new t, putPl e i p .un) else none | none => none) K = WO (getPl e i p) _
    cases getPl e i p with
    | none => rfl
    | some t => cases t <;> first | rfl | exact wp_if
theorem ws_if {t : Et} {a b : Es} : WS (ifS t a b e) (Kt.mk nx rt bk ct ex) = WE (t e) (fun c e1 => WC c (WS (a e1) (Kt.mk nx rt bk ct ex)) (WS (b e1) (Kt.mk nx rt bk ct ex))) ex := by
  unfold ifS
  cases t e with
  | ok c e1 => cases c <;> rfl
  | exc _ _ => rfl
  | no => rfl
theorem ws_for {g : Tg} {it : Ei} {b : Es} : WS (forS g it b e) (Kt.mk nx rt bk ct ex) = WE (it e) (fun ds e1 => WS (forF g b ds e1) (Kt.mk nx rt bk ct ex)) ex := by
  unfold forS
  exact ws_so
theorem ws_aug {i : Nat} {o : PyData → PyData → Option Rz} {f : Ev} : WS (augS i o f e) (Kt.mk nx rt bk ct ex) = WE (op2 o (varV i) f e) (fun r e1 => WO (rdS e1 r) fun d => (∃ d', r = .dat d') ∧ WO (setN i (.dat d) e1) nx) ex := by
  unfold augS
  rw [ws_so]
  cases op2 o (varV i) f e with
  | ok r e1 =>
    cases r with
    | dat d =>
      show WS (match setN i (.dat d) e1 with | some e2 => .nx e2 | none => .no) (Kt.mk nx rt bk ct ex) = ((∃ d', Rs.dat d = .dat d') ∧ WO (setN i (.dat d) e1) nx)
      have : (∃ d', Rs.dat d = .dat d') = True := propext ⟨fun _ => trivial, fun _ => ⟨d, rfl⟩⟩
      rw [this, true_and]
      cases setN i (.dat d) e1 <;> rfl
    | new t =>
      show False = WO (rdS e1 (.new t)) fun d => _
      cases rdS e1 (.new t) with
      | none => rfl
      | some d => exact propext ⟨fun z => z.elim, fun z => by obtain ⟨⟨_, z⟩, _⟩ := z; cases z⟩
    | pl i p =>
      show False = WO (rdS e1 (.pl i p)) fun d => _
      cases rdS e1 (.pl i p) with
      | none => rfl
      | some d => exact propext ⟨fun z => z.elim, fun z => by obtain ⟨⟨_, z⟩, _⟩ := z; cases z⟩
  | exc _ _ => rfl
  | no => rfl
theorem ex_dat {d : PyData} : (∃ d', Rs.dat d = .dat d') = True := propext ⟨fun _ => trivial, fun _ => ⟨d, rfl⟩⟩
/-! ### calls -/
theorem we_argsA0 {Q : List Av → En → Prop} : WE (argsA [] e) Q X = Q [] e := rfl
theorem we_argsAd {f : Ev} {r : List Am} {Q : List Av → En → Prop} : WE (argsA (.d f :: r) e) Q X = WE (asD f e) (fun d e1 => WE (argsA r e1) (fun vs e2 => Q (.dat d :: vs) e2) X) X := by
  show WE ((asD f e).bnd _) Q X = _
  rw [we_bnd]
  cases asD f e with
  | ok d e1 => exact we_bnd
  | exc _ _ => rfl
  | no => rfl
theorem we_argsAm {i : Nat} {r : List Am} {Q : List Av → En → Prop} : WE (argsA (.m i :: r) e) Q X = (hasO e i = true ∧ WE (argsA r e) (fun vs e2 => Q (.mu i :: vs) e2) X) := by
  show WE (if hasO e i then _ else .no) Q X = _
  rw [we_if, we_bnd]
  rfl
theorem we_argsAb {i : Nat} {r : List Am} {Q : List Av → En → Prop} : WE (argsA (.b i :: r) e) Q X = (hasS e i = true ∧ WE (argsA r e) (fun vs e2 => Q (.br i :: vs) e2) X) := by
  show WE (if hasS e i then _ else .no) Q X = _
  rw [we_if, we_bnd]
  rfl
theorem we_call {R : List Tr → Ret} {as : List Am} : WE (callV R as e) Q X = WE (argsA as e) (fun avs e1 => WO (esOf e1 avs) fun es => (mus avs ++ brs avs).Nodup ∧ WR (R es) (fun t os => ((brs avs).isEmpty || (lfT t && lfTs os)) = true ∧ Kw Q (mkNew t) (puts e1 (mus avs) os)) fun x os => ((brs avs).isEmpty || (x.fs.isEmpty && lfTs os)) = true ∧ X x (puts e1 (mus avs) os)) X := by
  unfold callV
  cases argsA as e with
  | ok avs e1 =>
    show WE (match esOf e1 avs with | none => .no | some es => if (mus avs ++ brs avs).Nodup then (match R es with | .ret t os => if (brs avs).isEmpty || (lfT t && lfTs os) then .ok (mkNew t) (puts e1 (mus avs) os) else .no | .exc x os => if (brs avs).isEmpty || (x.fs.isEmpty && lfTs os) then .exc x (puts e1 (mus avs) os) else .no | .no => .no) else .no) Q X = WO (esOf e1 avs) _
    cases esOf e1 avs with
    | none => rfl
    | some es =>
      show WE (if (mus avs ++ brs avs).Nodup then _ else .no) Q X = _
      rw [we_if]
      show _ = ((mus avs ++ brs avs).Nodup ∧ WR (R es) _ _)
      congr 1
      cases R es with
      | ret t os => exact we_if
      | exc x os =>
        show WE (if _ then .exc x _ else .no) Q X = _
        rw [we_if]
        rfl
      | no => rfl
  | exc _ _ => rfl
  | no => rfl
theorem mkNew_dat {d : PyData} : mkNew (.dat d) = .dat d := rfl
theorem mkNew_own {d : List PyData} : mkNew (.own d) = .new (.own d) := rfl
theorem mkNew_tup {d : List Tr} : mkNew (.tup d) = .new (.tup d) := rfl
theorem mkNew_lst {d : List Tr} : mkNew (.lst d) = .new (.lst d) := rfl
def consT (t : Tr) (o : Option (List Tr)) : Option (List Tr) := match o with
  | some l => some (t :: l)
  | none => none
theorem consT_s {d : Tr} {l : List Tr} : consT d (some l) = some (d :: l) := rfl
theorem esOf_nil : esOf e [] = some [] := rfl
theorem esOf_dat {d : PyData} {r : List Av} : esOf e (.dat d :: r) = consT (.dat d) (esOf e r) := by
  show (match esOf e r with | some es => some (Tr.dat d :: es) | none => none) = _
  cases esOf e r <;> rfl
theorem wo_esOf_mu {i : Nat} {r : List Av} {K : List Tr → Prop} : WO (esOf e (.mu i :: r)) K = WO e[i]? fun x => isOx x = true ∧ WO (esOf e r) fun es => K (x.t :: es) := by
  show WO (match e[i]? with | some (.o t) => (match esOf e r with | some es => some (t :: es) | none => none) | _ => none) K = _
  cases e[i]? with
  | none => rfl
  | some x =>
    cases x with
    | r t => exact propext ⟨fun z => z.elim, fun z => nomatch z.1⟩
    | o t =>
      show WO (match esOf e r with | some es => some (t :: es) | none => none) K = (true = true ∧ WO (esOf e r) fun es => K (t :: es))
      cases esOf e r with
      | none => exact propext ⟨fun z => z.elim, fun z => z.2⟩
      | some es => exact propext ⟨fun z => ⟨rfl, z⟩, fun z => z.2⟩
theorem wo_esOf_br {i : Nat} {r : List Av} {K : List Tr → Prop} : WO (esOf e (.br i :: r)) K = WO e[i]? fun x => WO x.t.data fun d => WO (esOf e r) fun es => K (.dat d :: es) := by
  show WO (match e[i]? with | some x => (match x.t.data with | some d => (match esOf e r with | some es => some (Tr.dat d :: es) | none => none) | none => none) | none => none) K = _
  cases e[i]? with
  | none => rfl
  | some x =>
    show WO (match x.t.data with | some d => (match esOf e r with | some es => some (Tr.dat d :: es) | none => none) | none => none) K = (WO x.t.data fun d => WO (esOf e r) fun es => K (.dat d :: es))
    cases x.t.data with
    | none => rfl
    | some d =>
      show WO (match esOf e r with | some es => some (Tr.dat d :: es) | none => none) K = (WO (esOf e r) fun es => K (.dat d :: es))
      cases esOf e r <;> rfl
theorem wo_esOf_dat {d : PyData} {r : List Av} {K : List Tr → Prop} : WO (esOf e (.dat d :: r)) K = WO (esOf e r) fun es => K (.dat d :: es) := by
  rw [esOf_dat]
  cases esOf e r <;> rfl
/-- a def, run -/
def finR (ms : List Nat) (o : So) : Ret := match o with
  | .rt t e => match outs e ms with
    | some os => .ret t os
    | none => .no
  | .nx e => match outs e ms with
    | some os => .ret (.dat .none) os
    | none => .no
  | .exc x e => match outs e ms with
    | some os => .exc x os
    | none => .no
  | _ => .no
theorem wr_fin {ms : List Nat} {o : So} {Q : Tr → List Tr → Prop} {X : Xc → List Tr → Prop} : WR (finR ms o) Q X = WS o ⟨fun e => WO (outs e ms) fun os => Q (.dat .none) os, fun t e => WO (outs e ms) fun os => Q t os, fun _ => False, fun _ => False, fun x e => WO (outs e ms) fun os => X x os⟩ := by
  cases o with
  | nx e =>
    show WR (match outs e ms with | some os => .ret (.dat .none) os | none => .no) Q X = WO (outs e ms) _
    cases outs e ms <;> rfl
  | rt t e =>
    show WR (match outs e ms with | some os => .ret t os | none => .no) Q X = WO (outs e ms) _
    cases outs e ms <;> rfl
  | exc x e =>
    show WR (match outs e ms with | some os => .exc x os | none => .no) Q X = WO (outs e ms) _
    cases outs e ms <;> rfl
  | _ => rfl
theorem wo_outs0 {K : List Tr → Prop} : WO (outs e []) K = K [] := rfl
theorem wo_outsC {k : Nat} {ks : List Nat} {K : List Tr → Prop} : WO (outs e (k :: ks)) K = WO e[k]? fun x => isOx x = true ∧ WO (outs e ks) fun os => K (x.t :: os) := by
  show WO (match e[k]? with | some (.o t) => (match outs e ks with | some os => some (t :: os) | none => none) | _ => none) K = _
  cases e[k]? with
  | none => rfl
  | some x =>
    cases x with
    | r t => exact propext ⟨fun z => z.elim, fun z => nomatch z.1⟩
    | o t =>
      show WO (match outs e ks with | some es => some (t :: es) | none => none) K = (true = true ∧ WO (outs e ks) fun es => K (t :: es))
      cases outs e ks with
      | none => exact propext ⟨fun z => z.elim, fun z => z.2⟩
      | some es => exact propext ⟨fun z => ⟨rfl, z⟩, fun z => z.2⟩
/-! ### what is walked -/
def sOf : PyData → Option (List PyData)
  | .list ds => some ds
  | .tuple ds => some ds
  | _ => none
theorem sOf_l {ds : List PyData} : sOf (.list ds) = some ds := rfl
theorem sOf_t {ds : List PyData} : sOf (.tuple ds) = some ds := rfl
theorem we_seqI {f : Ev} {Q : List PyData → En → Prop} : WE (seqI f e) Q X = WE (asD f e) (fun d e1 => WO (sOf d) fun ds => Q ds e1) X := by
  unfold seqI
  cases asD f e with
  | ok d e1 => cases d <;> rfl
  | exc _ _ => rfl
  | no => rfl
theorem we_rng1 {f : Ev} {Q : List PyData → En → Prop} : WE (rng1 f e) Q X = WE (asD f e) (fun d e1 => WO (iOf d) fun j => inR j = true ∧ Q (rngL 0 j.toNat) e1) X := by
  unfold rng1
  cases asD f e with
  | ok d e1 => cases d <;> first | rfl | exact we_if
  | exc _ _ => rfl
  | no => rfl
theorem we_rng2 {f g : Ev} {Q : List PyData → En → Prop} : WE (rng2 f g e) Q X = WE (asD f e) (fun d e1 => WE (asD g e1) (fun d2 e2 => WO (iOf d) fun i => WO (iOf d2) fun j => (inR i && inR j) = true ∧ Q (rngL i (j - i).toNat) e2) X) X := by
  unfold rng2
  cases asD f e with
  | ok d e1 =>
    show WE ((asD g e1).bnd _) Q X = WE (asD g e1) _ X
    cases asD g e1 with
    | ok d2 e2 => cases d <;> cases d2 <;> first | rfl | exact we_if
    | exc _ _ => rfl
    | no => rfl
  | exc _ _ => rfl
  | no => rfl
def lOf : PyData → Option (List PyData)
  | .list ds => some ds
  | _ => none
theorem lOf_l {ds : List PyData} : lOf (.list ds) = some ds := rfl
theorem we_enum {f : Ev} {Q : List PyData → En → Prop} : WE (enumI f e) Q X = WE (asD f e) (fun d e1 => WO (lOf d) fun ds => Q (enumF 0 ds) e1) X := by
  unfold enumI
  cases asD f e with
  | ok d e1 => cases d <;> rfl
  | exc _ _ => rfl
  | no => rfl
theorem we_zip {f g : Ev} {Q : List PyData → En → Prop} : WE (zipI f g e) Q X = WE (asD f e) (fun d e1 => WE (asD g e1) (fun d2 e2 => WO (lOf d) fun i => WO (lOf d2) fun j => Q (zipF i j) e2) X) X := by
  unfold zipI
  cases asD f e with
  | ok d e1 =>
    show WE ((asD g e1).bnd _) Q X = WE (asD g e1) _ X
    cases asD g e1 with
    | ok d2 e2 => cases d <;> cases d2 <;> rfl
    | exc _ _ => rfl
    | no => rfl
  | exc _ _ => rfl
  | no => rfl
theorem we_lcD {vs : List Nat} {g : Tg} {it : Ei} {c : Et} {f : Ev} : WE (lcD vs g it c f e) Q X = WE (it e) (fun ds e1 => wipeOk e1 vs = true ∧ WE (lcDF vs g c f ds [] (wipeE e1 vs)) (fun acc e2 => Kw Q (.new (.own acc)) (unwipe e1 e2 vs)) X) X := by
  unfold lcD
  cases it e with
  | ok ds e1 =>
    show WE (if wipeOk e1 vs then _ else .no) Q X = _
    rw [we_if, we_bnd]
    rfl
  | exc _ _ => rfl
  | no => rfl
theorem we_dcV {vs : List Nat} {g : Tg} {it : Ei} {c : Et} {f h : Ev} : WE (dcV vs g it c f h e) Q X = WE (it e) (fun ds e1 => wipeOk e1 vs = true ∧ WE (dcF vs g c f h ds [] (wipeE e1 vs)) (fun acc e2 => Kw Q (.new (.dic acc)) (unwipe e1 e2 vs)) X) X := by
  unfold dcV
  cases it e with
  | ok ds e1 =>
    show WE (if wipeOk e1 vs then _ else .no) Q X = _
    rw [we_if, we_bnd]
    rfl
  | exc _ _ => rfl
  | no => rfl
def dinK (neg : Bool) (Q : Rs → En → Prop) (x y : Rs) (e : En) [Hd Q] : Prop := WO (rdS e x) fun d => WO (keyOf d) fun k => WO (dicR e y) fun kvs => Q (.dat (.bool (if neg then !(valD kvs k).isSome else (valD kvs k).isSome))) e
theorem dink {neg : Bool} {x y : Rs} : dinK neg Q x y e = WO (rdS e x) fun d => WO (keyOf d) fun k => WO (dicR e y) fun kvs => Q (.dat (.bool (if neg then !(valD kvs k).isSome else (valD kvs k).isSome))) e := rfl
def dgetK (Q : Rs → En → Prop) (x y : Rs) (e : En) [Hd Q] : Prop := WO (dicR e x) fun kvs => WO (rdS e y) fun d => WO (keyOf d) fun k => WO (valD kvs k) fun z => Q (.dat z) e
theorem dgetk {x y : Rs} : dgetK Q x y e = WO (dicR e x) fun kvs => WO (rdS e y) fun d => WO (keyOf d) fun k => WO (valD kvs k) fun z => Q (.dat z) e := rfl
theorem we_din {neg : Bool} {f g : Ev} : WE (dinB neg f g e) Q X = WE (f e) (fun x e1 => WE (g (holdR x e1)) (fun y e2 => dinK neg Q x y (unholdR x e1 e2)) fun z e2 => X z (unholdR x e1 e2)) X := by
  refine Eq.trans ?_ (we_two (Q := fun p e2 => dinK neg Q p.1 p.2 e2))
  unfold dinB
  cases twoF f g e with
  | ok p e2 =>
    show WE (match (rdS e2 p.1).bind keyOf, dicR e2 p.2 with | some k, some kvs => .ok (.dat (.bool (if neg then !(valD kvs k).isSome else (valD kvs k).isSome))) e2 | _, _ => .no) Q X = WO (rdS e2 p.1) _
    cases rdS e2 p.1 with
    | none => rfl
    | some d =>
      show WE (match keyOf d, dicR e2 p.2 with | some k, some kvs => .ok (.dat (.bool (if neg then !(valD kvs k).isSome else (valD kvs k).isSome))) e2 | _, _ => .no) Q X = WO (keyOf d) _
      cases keyOf d with
      | none => rfl
      | some k =>
        show _ = WO (dicR e2 p.2) _
        cases dicR e2 p.2 <;> rfl
  | exc _ _ => rfl
  | no => rfl
def dOf : Tr → Option Kvs
  | .dic kvs => some kvs
  | _ => none
theorem dOf_s {k : Kvs} : dOf (.dic k) = some k := rfl
theorem wo_dicR {r : Rs} {K : Kvs → Prop} : WO (dicR e r) K = WO (getR e r) fun t => WO (dOf t) K := by
  unfold dicR
  cases getR e r with
  | none => rfl
  | some t => cases t <;> rfl
theorem we_dget {f g : Ev} : WE (dgetV f g e) Q X = WE (f e) (fun x e1 => WE (g (holdR x e1)) (fun y e2 => dgetK Q x y (unholdR x e1 e2)) fun z e2 => X z (unholdR x e1 e2)) X := by
  refine Eq.trans ?_ (we_two (Q := fun p e2 => dgetK Q p.1 p.2 e2))
  unfold dgetV
  cases twoF f g e with
  | ok p e2 =>
    show WE (match dicR e2 p.1, (rdS e2 p.2).bind keyOf with | some kvs, some k => (match valD kvs k with | some d => .ok (.dat d) e2 | none => .no) | _, _ => .no) Q X = WO (dicR e2 p.1) _
    cases dicR e2 p.1 with
    | none => rfl
    | some kvs =>
      show _ = WO (rdS e2 p.2) _
      cases rdS e2 p.2 with
      | none => rfl
      | some d =>
        show WE (match some kvs, keyOf d with | some kvs, some k => (match valD kvs k with | some d => .ok (.dat d) e2 | none => .no) | _, _ => .no) Q X = WO (keyOf d) _
        cases keyOf d with
        | none => rfl
        | some k =>
          show WE (match valD kvs k with | some d => .ok (.dat d) e2 | none => .no) Q X = WO (valD kvs k) _
          cases valD kvs k <;> rfl
  | exc _ _ => rfl
  | no => rfl
theorem keyOf_int {i : Int} : keyOf (.int i) = some (.inl i) := rfl
/-! ### loops -/
/-- a for, by what holds ahead of each turn -/
theorem ws_forF {g : Tg} {b : Es} {ds : List PyData} (I : Nat → En → Prop) (h0 : I 0 e)
    (hs : ∀ i e d, ds[i]? = some d → I i e → WO (bindG g d e) fun e1 => WS (b e1) ⟨I (i + 1), rt, nx, I (i + 1), ex⟩)
    (he : ∀ e, I ds.length e → nx e) : WS (forF g b ds e) (Kt.mk nx rt bk ct ex) := by
  have key : ∀ (r : List PyData) (i : Nat) (e : En), ds.drop i = r → i ≤ ds.length → I i e → WS (forF g b r e) (Kt.mk nx rt bk ct ex) := by
    intro r
    induction r with
    | nil =>
      intro i e hd hi hI
      have : i = ds.length := by
        have := congrArg List.length hd
        rw [List.length_drop, List.length_nil] at this
        omega
      subst this
      exact he e hI
    | cons d r ih =>
      intro i e hd hi hI
      have hlt : i < ds.length := by
        have := congrArg List.length hd
        rw [List.length_drop, List.length_cons] at this
        omega
      rw [List.drop_eq_getElem_cons hlt] at hd
      injection hd with hd1 hd2
      have w := hs i e d (by rw [List.getElem?_eq_getElem hlt, hd1]) hI
      unfold forF
      cases hb : bindG g d e with
      | none => rw [hb] at w; exact w.elim
      | some e1 =>
        rw [hb] at w
        have w : WS (b e1) ⟨I (i + 1), rt, nx, I (i + 1), ex⟩ := w
        dsimp only
        cases hbe : b e1 with
        | nx e2 => rw [hbe] at w; exact ih (i + 1) e2 hd2 (by omega) w
        | ct e2 => rw [hbe] at w; exact ih (i + 1) e2 hd2 (by omega) w
        | bk e2 => rw [hbe] at w; exact w
        | rt t e2 => rw [hbe] at w; exact w
        | exc x e2 => rw [hbe] at w; exact w
        | no => rw [hbe] at w; exact w
  exact key ds 0 e rfl (Nat.zero_le _) h0
/-- a comprehension, by what holds ahead of each turn -/
theorem we_lcI {vs : List Nat} {g : Tg} {c : Et} {f : Ev} {ds : List PyData} {Q : List PyData → En → Prop} (I : Nat → List PyData → En → Prop) (h0 : I 0 [] e) (hl : ds.length ≤ 1000000)
    (hI : ∀ i acc e, I i acc e → acc.length ≤ i)
    (hs : ∀ i acc e d, ds[i]? = some d → I i acc e → WO (bindG g d e) fun e1 => WE (c e1) (fun b e2 => WC b (WE (asD f e2) (fun y e3 => I (i + 1) (acc ++ [y]) (wipeE e3 vs)) fun _ _ => False) (I (i + 1) acc (wipeE e2 vs))) fun _ _ => False)
    (he : ∀ acc e, I ds.length acc e → Q acc e) : WE (lcDF vs g c f ds [] e) Q X := by
  have key : ∀ (r : List PyData) (i : Nat) (acc : List PyData) (e : En), ds.drop i = r → i ≤ ds.length → I i acc e → WE (lcDF vs g c f r acc e) Q X := by
    intro r
    induction r with
    | nil =>
      intro i acc e hd hi hI
      have : i = ds.length := by
        have := congrArg List.length hd
        rw [List.length_drop, List.length_nil] at this
        omega
      subst this
      exact he acc e hI
    | cons d r ih =>
      intro i acc e hd hi hJ
      have hlt : i < ds.length := by
        have := congrArg List.length hd
        rw [List.length_drop, List.length_cons] at this
        omega
      rw [List.drop_eq_getElem_cons hlt] at hd
      injection hd with hd1 hd2
      have w := hs i acc e d (by rw [List.getElem?_eq_getElem hlt, hd1]) hJ
      unfold lcDF
      cases hb : bindG g d e with
      | none => rw [hb] at w; exact w.elim
      | some e1 =>
        rw [hb] at w
        dsimp only
        rw [we_bnd, we_noX]
        refine we_mono w fun b e2 w => ?_
        cases b with
        | false => exact ih (i + 1) acc _ hd2 (by omega) w
        | true =>
          show WE ((asD f e2).noX.bnd fun y e3 => if lenOk acc.length then lcDF vs g c f r (acc ++ [y]) (wipeE e3 vs) else .no) Q X
          rw [we_bnd, we_noX]
          refine we_mono w fun y e3 w => ?_
          have := hI _ _ _ hJ
          rw [if_pos (show lenOk acc.length = true from decide_eq_true (by omega))]
          exact ih (i + 1) _ _ hd2 (by omega) w
  exact key ds 0 [] e rfl (Nat.zero_le _) h0
/-- a comprehension that leaves the slots as they are -/
theorem we_lcP {vs : List Nat} {g : Tg} {c : Et} {f : Ev} {ds : List PyData} {Q : List PyData → En → Prop} (p : PyData → Bool) (h : PyData → PyData) (hl : ds.length ≤ 1000000)
    (hs : ∀ d ∈ ds, WO (bindG g d e) fun e1 => WE (c e1) (fun b e2 => b = p d ∧ (p d = false → wipeE e2 vs = e) ∧ (p d = true → WE (asD f e2) (fun y e3 => y = h d ∧ wipeE e3 vs = e) fun _ _ => False)) fun _ _ => False)
    (he : Q ((ds.filter p).map h) e) : WE (lcDF vs g c f ds [] e) Q X := by
  refine we_lcI (fun i acc e' => acc = ((ds.take i).filter p).map h ∧ e' = e) ⟨rfl, rfl⟩ hl (fun i acc e' hI => ?_) (fun i acc e' d hd hI => ?_) (fun acc e' hI => ?_)
  · rw [hI.1, List.length_map]
    exact Nat.le_trans (List.length_filter_le _ _) (by rw [List.length_take]; omega)
  · obtain ⟨rfl, rfl⟩ := hI
    have w := hs d (List.mem_of_getElem? hd)
    have et : ds.take (i + 1) = ds.take i ++ [d] := by rw [List.take_add_one, hd]; rfl
    cases hb : bindG g d e' with
    | none => rw [hb] at w; exact w.elim
    | some e1 =>
      rw [hb] at w
      refine we_mono w fun b e2 w => ?_
      obtain ⟨rfl, w1, w2⟩ := w
      rw [et, List.filter_append, List.map_append]
      cases hp : p d with
      | false =>
        refine ⟨?_, w1 hp⟩
        rw [List.filter_cons_of_neg (by rw [hp]; exact Bool.false_ne_true)]
        simp
      | true =>
        refine we_mono (w2 hp) fun y e3 w => ?_
        obtain ⟨rfl, w4⟩ := w
        refine ⟨?_, w4⟩
        rw [List.filter_cons_of_pos hp]
        simp
  · obtain ⟨rfl, rfl⟩ := hI
    rw [List.take_length]
    exact he
end R

/-! Small rules for written-out slots and data. -/
namespace R
open PySem PySem.Spec PyProof.Rows L2
variable {α β : Type} {nx bk ct : En → Prop} {rt : Tr → En → Prop} {ex : Xc → En → Prop} {X : Xc → En → Prop} {e : En} {Q : Rs → En → Prop}
theorem getPl_z {x : Sl} {p : Pa} : getPl (x :: e) 0 p = Tr.get p x.t := rfl
theorem getPl_s {x : Sl} {i : Nat} {p : Pa} : getPl (x :: e) (i + 1) p = getPl e i p := rfl
theorem isO_z {t : Tr} : isO (.o t :: e) 0 = true := rfl
theorem isO_s {x : Sl} {i : Nat} : isO (x :: e) (i + 1) = isO e i := rfl
theorem putPl_z {t y : Tr} {p : Pa} : putPl (.o t :: e) 0 p y = .o (Tr.put y p t) :: e := rfl
theorem putPl_s {x : Sl} {i : Nat} {p : Pa} {y : Tr} : putPl (x :: e) (i + 1) p y = x :: putPl e i p y := by
  unfold putPl
  rw [List.getElem?_cons_succ]
  cases e[i]? with
  | none => rfl
  | some z => cases z <;> rfl
theorem hasO_z {t : Tr} : hasO (.o t :: e) 0 = !isUn t := rfl
theorem hasS_zo {t : Tr} : hasS (.o t :: e) 0 = !isUn t := rfl
theorem hasS_zr {t : Tr} : hasS (.r t :: e) 0 = !isUn t := rfl
theorem hasS_s {x : Sl} {i : Nat} : hasS (x :: e) (i + 1) = hasS e i := rfl
theorem hasO_s {x : Sl} {i : Nat} : hasO (x :: e) (i + 1) = hasO e i := rfl
theorem isUn_dat {d : PyData} : isUn (.dat d) = false := rfl
theorem isUn_own {d : List PyData} : isUn (.own d) = false := rfl
theorem isUn_scr {d : List Int} : isUn (.scr d) = false := rfl
theorem isUn_tup {d : List Tr} : isUn (.tup d) = false := rfl
theorem isUn_dic {d : Kvs} : isUn (.dic d) = false := rfl
def isLT : Option Tr → Bool
  | some (.own _) => true
  | some (.dat (.list _)) => true
  | some (.lst _) => true
  | _ => false
theorem isL_eq {r : Rs} : isL e r = isLT (getR e r) := by
  unfold isL
  cases getR e r with
  | none => rfl
  | some t =>
    cases t with
    | dat d => cases d <;> rfl
    | _ => rfl
theorem isLT_own {d : List PyData} : isLT (some (.own d)) = true := rfl
theorem isLT_dat {d : List PyData} : isLT (some (.dat (.list d))) = true := rfl
def wipe1 : Option Sl → Bool
  | some (.o .un) => true
  | some (.o (.dat _)) => true
  | _ => false
theorem wipeOk_nil : wipeOk e [] = true := rfl
theorem wipeOk_c {v : Nat} {vs : List Nat} : wipeOk e (v :: vs) = (wipe1 e[v]? && wipeOk e vs) := by
  unfold wipeOk
  rw [List.all_cons]
  rfl
theorem wipe1_un : wipe1 (some (.o .un)) = true := rfl
theorem wipe1_dat {d : PyData} : wipe1 (some (.o (.dat d))) = true := rfl
theorem wipeE_nil : wipeE e [] = e := rfl
theorem wipeE_c {v : Nat} {vs : List Nat} : wipeE e (v :: vs) = (wipeE e vs).set v (.o .un) := rfl
def setO (o : Option Sl) (v : Nat) (e : En) : En := match o with
  | some x => e.set v x
  | none => e
theorem setO_s {x : Sl} {v : Nat} : setO (some x) v e = e.set v x := rfl
theorem unwipe_nil {e2 : En} : unwipe e e2 [] = e2 := rfl
theorem unwipe_c {e2 : En} {v : Nat} {vs : List Nat} : unwipe e e2 (v :: vs) = setO e[v]? v (unwipe e e2 vs) := by
  show (match e[v]? with | some x => (unwipe e e2 vs).set v x | none => unwipe e e2 vs) = _
  cases e[v]? <;> rfl
theorem puts_nil {ts : List Tr} : puts e [] ts = e := by cases ts <;> rfl
theorem puts_c {k : Nat} {ks : List Nat} {t : Tr} {ts : List Tr} : puts e (k :: ks) (t :: ts) = puts (e.set k (.o t)) ks ts := rfl
theorem mus_nil : mus [] = [] := rfl
theorem mus_dat {d : PyData} {r : List Av} : mus (.dat d :: r) = mus r := rfl
theorem mus_mu {i : Nat} {r : List Av} : mus (.mu i :: r) = i :: mus r := rfl
theorem mus_br {i : Nat} {r : List Av} : mus (.br i :: r) = mus r := rfl
theorem brs_nil : brs [] = [] := rfl
theorem brs_dat {d : PyData} {r : List Av} : brs (.dat d :: r) = brs r := rfl
theorem brs_mu {i : Nat} {r : List Av} : brs (.mu i :: r) = brs r := rfl
theorem brs_br {i : Nat} {r : List Av} : brs (.br i :: r) = i :: brs r := rfl
theorem mus_bt {i k : Nat} {r : List Av} : mus (.bt i k :: r) = mus r := rfl
theorem brs_bt {i k : Nat} {r : List Av} : brs (.bt i k :: r) = i :: brs r := rfl
theorem we_argsAx {f : Ev} {r : List Am} {Q : List Av → En → Prop} : WE (argsA (.x f :: r) e) Q X = WE (f e) (fun rs e1 => WO (argX e1 rs) fun a => WE (argsA r e1) (fun vs e2 => Q (a :: vs) e2) X) X := by
  show WE ((f e).bnd _) Q X = _
  rw [we_bnd]
  cases f e with
  | ok rs e1 =>
    show WE (match argX e1 rs with | some a => (argsA r e1).bnd fun vs e2 => .ok (a :: vs) e2 | none => .no) Q X = WO (argX e1 rs) _
    cases argX e1 rs with
    | none => rfl
    | some a => exact we_bnd
  | exc _ _ => rfl
  | no => rfl
theorem wo_argX_dat {d : PyData} {K : Av → Prop} : WO (argX e (.dat d)) K = K (.dat d) := rfl
theorem wo_argX_pl {i n : Nat} {K : Av → Prop} : WO (argX e (.pl i [.k n])) K = (isTupAt e i n = true ∧ K (.bt i n)) := wo_if
def someB {α : Type} : Option α → Bool
  | some _ => true
  | none => false
theorem someB_s {α : Type} {a : α} : someB (some a) = true := rfl
def tupAt (k : Nat) : Tr → Bool
  | .tup ts => someB ts[k]?
  | _ => false
theorem isTupAt_z {t : Tr} {k : Nat} : isTupAt (.o t :: e) 0 k = tupAt k t := by
  show (match some (Sl.o t) with | some (.o (.tup ts)) => (match ts[k]? with | some _ => true | none => false) | _ => false) = _
  cases t with
  | tup ts =>
    show (match ts[k]? with | some _ => true | none => false) = someB ts[k]?
    cases ts[k]? <;> rfl
  | _ => rfl
theorem isTupAt_s {x : Sl} {i k : Nat} : isTupAt (x :: e) (i + 1) k = isTupAt e i k := rfl
theorem tupAt_t {ts : List Tr} {k : Nat} : tupAt k (.tup ts) = someB ts[k]? := rfl
theorem tupG_t {ds : List PyData} {k : Nat} : tupG (.tuple ds) k = ds[k]? := rfl
theorem wo_esOf_bt {i k : Nat} {r : List Av} {K : List Tr → Prop} : WO (esOf e (.bt i k :: r)) K = WO e[i]? fun x => isOx x = true ∧ WO x.t.data fun D => WO (tupG D k) fun d => WO (esOf e r) fun es => K (.dat d :: es) := by
  show WO (match e[i]? with | some (.o t) => (match t.data with | some D => (match tupG D k with | some d => (match esOf e r with | some es => some (Tr.dat d :: es) | none => none) | none => none) | none => none) | _ => none) K = _
  cases e[i]? with
  | none => rfl
  | some x =>
    cases x with
    | r t => exact propext ⟨fun z => z.elim, fun z => nomatch z.1⟩
    | o t =>
      show WO (match t.data with | some D => (match tupG D k with | some d => (match esOf e r with | some es => some (Tr.dat d :: es) | none => none) | none => none) | none => none) K = (true = true ∧ WO t.data fun D => WO (tupG D k) fun d => WO (esOf e r) fun es => K (.dat d :: es))
      cases t.data with
      | none => exact propext ⟨fun z => z.elim, fun z => z.2⟩
      | some D =>
        show WO (match tupG D k with | some d => (match esOf e r with | some es => some (Tr.dat d :: es) | none => none) | none => none) K = (true = true ∧ WO (tupG D k) fun d => WO (esOf e r) fun es => K (.dat d :: es))
        cases tupG D k with
        | none => exact propext ⟨fun z => z.elim, fun z => z.2⟩
        | some d =>
          show WO (match esOf e r with | some es => some (Tr.dat d :: es) | none => none) K = (true = true ∧ WO (esOf e r) fun es => K (.dat d :: es))
          cases esOf e r with
          | none => exact propext ⟨fun z => z.elim, fun z => z.2⟩
          | some es => exact propext ⟨fun z => ⟨rfl, z⟩, fun z => z.2⟩
theorem lfT_un : lfT .un = true := by unfold lfT; rfl
theorem lfT_dat {d : PyData} : lfT (.dat d) = lf d := by unfold lfT; rfl
theorem lfT_own {d : List PyData} : lfT (.own d) = lfs d := by unfold lfT; rfl
theorem lfTs_nil : lfTs [] = true := by unfold lfTs; rfl
theorem lfTs_c {t : Tr} {ts : List Tr} : lfTs (t :: ts) = (lfT t && lfTs ts) := by rw [lfTs]
theorem lf_bool {b : Bool} : lf (.bool b) = true := by unfold lf; rfl
theorem lf_int {b : Int} : lf (.int b) = true := by unfold lf; rfl
theorem lf_none : lf .none = true := by unfold lf; rfl
theorem lf_str {b : Str} : lf (.str b) = true := by unfold lf; rfl
theorem lenOk_iff {n : Nat} : (lenOk n = true) = (n ≤ 1000000) := propext ⟨of_decide_eq_true, fun h => decide_eq_true h⟩
theorem inR_iff {i : Int} : (inR i = true) = (-1000000000 ≤ i ∧ i ≤ 1000000000) := by
  unfold inR
  exact propext ⟨fun h => by rw [Bool.and_eq_true] at h; exact ⟨of_decide_eq_true h.1, of_decide_eq_true h.2⟩, fun h => by rw [Bool.and_eq_true]; exact ⟨decide_eq_true h.1, decide_eq_true h.2⟩⟩
/-! built-ins at data -/
def tyInt : PyData → Bool
  | .int _ => true
  | .bool _ => true
  | _ => false
def tyBool : PyData → Bool
  | .bool _ => true
  | _ => false
def tyTup : PyData → Bool
  | .tuple _ => true
  | _ => false
def tyList : PyData → Bool
  | .list _ => true
  | _ => false
def tyStr : PyData → Bool
  | .str _ => true
  | _ => false
theorem tyInt_none : tyInt .none = false := rfl
theorem tyInt_bool {b : Bool} : tyInt (.bool b) = true := rfl
theorem tyInt_int {i : Int} : tyInt (.int i) = true := rfl
theorem tyInt_str {s : Str} : tyInt (.str s) = false := rfl
theorem tyInt_list {l : List PyData} : tyInt (.list l) = false := rfl
theorem tyInt_tuple {l : List PyData} : tyInt (.tuple l) = false := rfl
theorem tyInt_dict {l : List (PyData × PyData)} : tyInt (.dict l) = false := rfl
theorem tyBool_none : tyBool .none = false := rfl
theorem tyBool_bool {b : Bool} : tyBool (.bool b) = true := rfl
theorem tyBool_int {i : Int} : tyBool (.int i) = false := rfl
theorem tyBool_str {s : Str} : tyBool (.str s) = false := rfl
theorem tyBool_list {l : List PyData} : tyBool (.list l) = false := rfl
theorem tyBool_tuple {l : List PyData} : tyBool (.tuple l) = false := rfl
theorem tyBool_dict {l : List (PyData × PyData)} : tyBool (.dict l) = false := rfl
theorem tyTup_none : tyTup .none = false := rfl
theorem tyTup_bool {b : Bool} : tyTup (.bool b) = false := rfl
theorem tyTup_int {i : Int} : tyTup (.int i) = false := rfl
theorem tyTup_str {s : Str} : tyTup (.str s) = false := rfl
theorem tyTup_list {l : List PyData} : tyTup (.list l) = false := rfl
theorem tyTup_tuple {l : List PyData} : tyTup (.tuple l) = true := rfl
theorem tyTup_dict {l : List (PyData × PyData)} : tyTup (.dict l) = false := rfl
theorem tyList_none : tyList .none = false := rfl
theorem tyList_bool {b : Bool} : tyList (.bool b) = false := rfl
theorem tyList_int {i : Int} : tyList (.int i) = false := rfl
theorem tyList_str {s : Str} : tyList (.str s) = false := rfl
theorem tyList_list {l : List PyData} : tyList (.list l) = true := rfl
theorem tyList_tuple {l : List PyData} : tyList (.tuple l) = false := rfl
theorem tyList_dict {l : List (PyData × PyData)} : tyList (.dict l) = false := rfl
theorem tyStr_none : tyStr .none = false := rfl
theorem tyStr_bool {b : Bool} : tyStr (.bool b) = false := rfl
theorem tyStr_int {i : Int} : tyStr (.int i) = false := rfl
theorem tyStr_str {s : Str} : tyStr (.str s) = true := rfl
theorem tyStr_list {l : List PyData} : tyStr (.list l) = false := rfl
theorem tyStr_tuple {l : List PyData} : tyStr (.tuple l) = false := rfl
theorem tyStr_dict {l : List (PyData × PyData)} : tyStr (.dict l) = false := rfl
theorem isi_of {T : String} {d : PyData} {b : Bool} (h : kitB (tyN d) T = some b) (hd : ∀ x, d ≠ .dict x) : isiF T d = some (.bool b) := by
  cases d with
  | dict x => exact absurd rfl (hd x)
  | _ => simp only [isiF, h]
theorem isi_dic {T : String} {kvs : List (PyData × PyData)} (h : btys.contains T = true) : isiF T (.dict kvs) = some (.bool false) := if_pos h
theorem isi_int {d : PyData} : isiF "int" d = some (.bool (tyInt d)) := by
  cases d with
  | dict kvs => exact isi_dic (kvs := kvs) (by decide +kernel)
  | _ => exact isi_of (by dsimp only [tyN, tyInt, tyBool, tyTup, tyList, tyStr]; decide +kernel) (fun _ z => by cases z)
theorem isi_bool {d : PyData} : isiF "bool" d = some (.bool (tyBool d)) := by
  cases d with
  | dict kvs => exact isi_dic (kvs := kvs) (by decide +kernel)
  | _ => exact isi_of (by dsimp only [tyN, tyInt, tyBool, tyTup, tyList, tyStr]; decide +kernel) (fun _ z => by cases z)
theorem isi_tup {d : PyData} : isiF "tuple" d = some (.bool (tyTup d)) := by
  cases d with
  | dict kvs => exact isi_dic (kvs := kvs) (by decide +kernel)
  | _ => exact isi_of (by dsimp only [tyN, tyInt, tyBool, tyTup, tyList, tyStr]; decide +kernel) (fun _ z => by cases z)
theorem isi_list {d : PyData} : isiF "list" d = some (.bool (tyList d)) := by
  cases d with
  | dict kvs => exact isi_dic (kvs := kvs) (by decide +kernel)
  | _ => exact isi_of (by dsimp only [tyN, tyInt, tyBool, tyTup, tyList, tyStr]; decide +kernel) (fun _ z => by cases z)
theorem isi_str {d : PyData} : isiF "str" d = some (.bool (tyStr d)) := by
  cases d with
  | dict kvs => exact isi_dic (kvs := kvs) (by decide +kernel)
  | _ => exact isi_of (by dsimp only [tyN, tyInt, tyBool, tyTup, tyList, tyStr]; decide +kernel) (fun _ z => by cases z)
theorem add_int {i j : Int} : addF (.int i) (.int j) = some (.dat (.int (i + j))) := rfl
theorem add_list {a b : List PyData} : addF (.list a) (.list b) = if lenOk (a.length + b.length) = true then some (.lst (a ++ b)) else none := rfl
theorem addI_int {i j : Int} : addI (.int i) (.int j) = some (.dat (.int (i + j))) := rfl
theorem sub_int {i j : Int} : subF (.int i) (.int j) = some (.dat (.int (i - j))) := rfl
theorem mul_int {i j : Int} : mulF (.int i) (.int j) = if (bigB i && bigB j) = true then some (.dat (.int (i * j))) else none := rfl
theorem mod_int {i j : Int} : modF (.int i) (.int j) = if 0 < j then some (.dat (.int (i % j))) else none := by
  dsimp only [modF]
  by_cases h : 0 < j
  · rw [if_pos h, if_pos (decide_eq_true h)]
  · rw [if_neg h, if_neg (by rw [decide_eq_false h]; exact Bool.false_ne_true)]
theorem fdiv_int {i j : Int} : fdivF (.int i) (.int j) = if 0 < j ∧ j < 1073741824 then some (.dat (.int (i / j))) else none := by
  dsimp only [fdivF]
  by_cases h : 0 < j ∧ j < 1073741824
  · rw [if_pos h, if_pos (by rw [decide_eq_true h.1, decide_eq_true h.2]; rfl)]
  · rw [if_neg h, if_neg (fun z => h (by rw [Bool.and_eq_true] at z; exact ⟨of_decide_eq_true z.1, of_decide_eq_true z.2⟩))]
theorem pow_int {i j : Int} : powF (.int i) (.int j) = if (decide (i.natAbs < 1000) && decide (0 ≤ j) && decide (j ≤ 100)) = true then some (.dat (.int (i ^ j.toNat))) else none := rfl
theorem lt_int {i j : Int} : ltF (.int i) (.int j) = some (.dat (.bool (decide (i < j)))) := rfl
theorem le_int {i j : Int} : leF (.int i) (.int j) = some (.dat (.bool (decide (i ≤ j)))) := rfl
theorem gt_int {i j : Int} : gtF (.int i) (.int j) = some (.dat (.bool (decide (j < i)))) := rfl
theorem ge_int {i j : Int} : geF (.int i) (.int j) = some (.dat (.bool (decide (j ≤ i)))) := rfl
theorem eq_int {i j : Int} : eqF (.int i) (.int j) = some (.bool (decide (i = j))) := rfl
theorem ne_int {i j : Int} : neF (.int i) (.int j) = some (.bool (!decide (i = j))) := rfl
theorem eq_str {i j : Str} : eqF (.str i) (.str j) = some (.bool (decide (i = j))) := rfl
theorem ne_str {i j : Str} : neF (.str i) (.str j) = some (.bool (!decide (i = j))) := rfl
theorem isN_eq {d : PyData} : isNF d = some (.dat (.bool (isNone d))) := rfl
theorem isNN_eq {d : PyData} : isNNF d = some (.dat (.bool (!isNone d))) := rfl
theorem isNone_none : isNone .none = true := rfl
theorem isNone_int {i : Int} : isNone (.int i) = false := rfl
theorem isNone_tup {i : List PyData} : isNone (.tuple i) = false := rfl
theorem isNone_list {i : List PyData} : isNone (.list i) = false := rfl
theorem neg_int {i : Int} : negF (.int i) = some (.dat (.int (-i))) := rfl
theorem int_int {i : Int} : intF (.int i) = some (.dat (.int i)) := rfl
theorem int_bool {b : Bool} : intF (.bool b) = some (.dat (.int (if b then 1 else 0))) := rfl
theorem list_list {ds : List PyData} : listF (.list ds) = some (.lst ds) := rfl
theorem list_tup {ds : List PyData} : listF (.tuple ds) = some (.lst ds) := rfl
theorem tup_list {ds : List PyData} : tupF (.list ds) = some (.dat (.tuple ds)) := rfl
theorem tup_tup {ds : List PyData} : tupF (.tuple ds) = some (.dat (.tuple ds)) := rfl
theorem max2_int {i j : Int} : max2F (.int i) (.int j) = some (.dat (.int (max i j))) := rfl
theorem min2_int {i j : Int} : min2F (.int i) (.int j) = some (.dat (.int (min i j))) := rfl
theorem sl_list {ds : List PyData} {lo hi : Option Int} : slF (.list ds) lo hi = some (.lst (cutD ds lo hi)) := rfl
theorem sl_tup {ds : List PyData} {lo hi : Option Int} : slF (.tuple ds) lo hi = some (.dat (.tuple (cutD ds lo hi))) := rfl
theorem boolsOf_map (f : α → Bool) : ∀ (l : List α), boolsOf (l.map fun a => .bool (f a)) = some (l.map f)
  | [] => rfl
  | a :: l => by simp only [List.map_cons, boolsOf, boolsOf_map f l]
theorem all_map {f : α → Bool} {l : List α} : allF (.list (l.map fun a => .bool (f a))) = some (.dat (.bool (l.all f))) := by
  dsimp only [allF]
  rw [boolsOf_map]
  simp
theorem any_map {f : α → Bool} {l : List α} : anyF (.list (l.map fun a => .bool (f a))) = some (.dat (.bool (l.any f))) := by
  dsimp only [anyF]
  rw [boolsOf_map]
  simp
theorem if_true_b {a b : α} : (if (true : Bool) = true then a else b) = a := rfl
theorem if_false_b {a b : α} : (if (false : Bool) = true then a else b) = b := rfl
/-! places in lists -/
theorem atI_nat {l : List α} {i : Int} (h0 : 0 ≤ i) : atI l i = l[i.toNat]? := by
  unfold atI ixN
  rw [if_pos h0]
  by_cases h : i < l.length
  · rw [if_pos h]; rfl
  · rw [if_neg h]
    exact (List.getElem?_eq_none (by omega)).symm
theorem atI_0 {a : α} {l : List α} : atI (a :: l) 0 = some a := by rw [atI_nat (by omega)]; rfl
theorem atI_1 {a b : α} {l : List α} : atI (a :: b :: l) 1 = some b := by rw [atI_nat (by omega)]; rfl
theorem atI_2 {a b c : α} {l : List α} : atI (a :: b :: c :: l) 2 = some c := by rw [atI_nat (by omega)]; rfl
theorem atI_3 {a b c d : α} {l : List α} : atI (a :: b :: c :: d :: l) 3 = some d := by rw [atI_nat (by omega)]; rfl
theorem ixN_nat {n : Nat} {i : Int} (h0 : 0 ≤ i) (h1 : i < n) : ixN n i = some i.toNat := by
  unfold ixN
  rw [if_pos h0, if_pos h1]
theorem rngL_0 {n : Nat} {lo : Int} : (rngL lo n).length = n := by simp [rngL]
theorem rngL_at {n : Nat} {lo : Int} {i : Nat} {d : PyData} (h : (rngL lo n)[i]? = some d) : i < n ∧ d = .int (lo + i) := by
  simp only [rngL, List.getElem?_map, Option.map_eq_some_iff] at h
  obtain ⟨a, h1, h2⟩ := h
  have hi := (List.getElem?_eq_some_iff.mp h1)
  obtain ⟨h3, h4⟩ := hi
  rw [List.length_range] at h3
  rw [List.getElem_range] at h4
  subst h4
  exact ⟨h3, h2.symm⟩
end R

/-! More about loops. -/
namespace R
open PySem PySem.Spec PyProof.Rows L2
variable {α β : Type} {nx bk ct : En → Prop} {rt : Tr → En → Prop} {ex : Xc → En → Prop} {X : Xc → En → Prop} {e : En} {Q : Rs → En → Prop}
theorem filter_all {l : List α} : l.filter (fun _ => true) = l := List.filter_eq_self.mpr fun _ _ => rfl
/-- a comprehension without a test that leaves the slots as they are -/
theorem we_lcM {vs : List Nat} {g : Tg} {f : Ev} {ds : List PyData} {Q : List PyData → En → Prop} (h : PyData → PyData) (hl : ds.length ≤ 1000000)
    (hs : ∀ d ∈ ds, WO (bindG g d e) fun e1 => WE (asD f e1) (fun y e3 => y = h d ∧ wipeE e3 vs = e) fun _ _ => False)
    (he : Q (ds.map h) e) : WE (lcDF vs g yesT f ds [] e) Q X := by
  refine we_lcP (fun _ => true) h hl (fun d hd => ?_) (by rw [filter_all]; exact he)
  have w := hs d hd
  cases hb : bindG g d e with
  | none => rw [hb] at w; exact w.elim
  | some e1 =>
    rw [hb] at w
    exact ⟨rfl, fun z => (nomatch z), fun _ => w⟩
/-- the same over a list of another kind -/
theorem we_lcMap {vs : List Nat} {g : Tg} {f : Ev} {l : List α} {q : α → PyData} {Q : List PyData → En → Prop} (h : α → PyData) (hl : l.length ≤ 1000000)
    (hs : ∀ a ∈ l, WO (bindG g (q a) e) fun e1 => WE (asD f e1) (fun y e3 => y = h a ∧ wipeE e3 vs = e) fun _ _ => False)
    (he : Q (l.map h) e) : WE (lcDF vs g yesT f (l.map q) [] e) Q X := by
  refine we_lcI (fun i acc e' => acc = (l.take i).map h ∧ e' = e) ⟨rfl, rfl⟩ (by rw [List.length_map]; exact hl) (fun i acc e' hI => ?_) (fun i acc e' d hd hI => ?_) (fun acc e' hI => ?_)
  · rw [hI.1, List.length_map, List.length_take]; omega
  · obtain ⟨rfl, rfl⟩ := hI
    rw [List.getElem?_map] at hd
    obtain ⟨a, ha, rfl⟩ := Option.map_eq_some_iff.mp hd
    have w := hs a (List.mem_of_getElem? ha)
    have et : l.take (i + 1) = l.take i ++ [a] := by rw [List.take_add_one, ha]; rfl
    cases hb : bindG g (q a) e' with
    | none => rw [hb] at w; exact w.elim
    | some e1 =>
      rw [hb] at w
      refine we_mono w fun y e3 w => ?_
      obtain ⟨rfl, w4⟩ := w
      refine ⟨?_, w4⟩
      rw [et, List.map_append]
      rfl
  · obtain ⟨rfl, rfl⟩ := hI
    rw [List.length_map, List.take_length]
    exact he
/-- .. with a test -/
theorem we_lcFil {vs : List Nat} {g : Tg} {c : Et} {f : Ev} {l : List α} {q : α → PyData} {Q : List PyData → En → Prop} (p : α → Bool) (h : α → PyData) (hl : l.length ≤ 1000000)
    (hs : ∀ a ∈ l, WO (bindG g (q a) e) fun e1 => WE (c e1) (fun b e2 => b = p a ∧ (p a = false → wipeE e2 vs = e) ∧ (p a = true → WE (asD f e2) (fun y e3 => y = h a ∧ wipeE e3 vs = e) fun _ _ => False)) fun _ _ => False)
    (he : Q ((l.filter p).map h) e) : WE (lcDF vs g c f (l.map q) [] e) Q X := by
  refine we_lcI (fun i acc e' => acc = ((l.take i).filter p).map h ∧ e' = e) ⟨rfl, rfl⟩ (by rw [List.length_map]; exact hl) (fun i acc e' hI => ?_) (fun i acc e' d hd hI => ?_) (fun acc e' hI => ?_)
  · rw [hI.1, List.length_map]
    exact Nat.le_trans (List.length_filter_le _ _) (by rw [List.length_take]; omega)
  · obtain ⟨rfl, rfl⟩ := hI
    rw [List.getElem?_map] at hd
    obtain ⟨a, ha, rfl⟩ := Option.map_eq_some_iff.mp hd
    have w := hs a (List.mem_of_getElem? ha)
    have et : l.take (i + 1) = l.take i ++ [a] := by rw [List.take_add_one, ha]; rfl
    cases hb : bindG g (q a) e' with
    | none => rw [hb] at w; exact w.elim
    | some e1 =>
      rw [hb] at w
      refine we_mono w fun b e2 w => ?_
      obtain ⟨rfl, w1, w2⟩ := w
      rw [et, List.filter_append, List.map_append]
      cases hp : p a with
      | false =>
        refine ⟨?_, w1 hp⟩
        rw [List.filter_cons_of_neg (by rw [hp]; exact Bool.false_ne_true)]
        simp
      | true =>
        refine we_mono (w2 hp) fun y e3 w => ?_
        obtain ⟨rfl, w4⟩ := w
        refine ⟨?_, w4⟩
        rw [List.filter_cons_of_pos hp]
        simp
  · obtain ⟨rfl, rfl⟩ := hI
    rw [List.length_map, List.take_length]
    exact he
/-- a for over a list of another kind -/
theorem ws_forMap {g : Tg} {b : Es} {l : List α} {q : α → PyData} (I : Nat → En → Prop) (h0 : I 0 e)
    (hs : ∀ i e a, l[i]? = some a → I i e → WO (bindG g (q a) e) fun e1 => WS (b e1) (Kt.mk (I (i + 1)) rt nx (I (i + 1)) ex))
    (he : ∀ e, I l.length e → nx e) : WS (forF g b (l.map q) e) (Kt.mk nx rt bk ct ex) := by
  refine ws_forF I h0 (fun i e d hd hI => ?_) (fun e hI => he e (by rw [List.length_map] at hI; exact hI))
  rw [List.getElem?_map] at hd
  obtain ⟨a, ha, rfl⟩ := Option.map_eq_some_iff.mp hd
  exact hs i e a ha hI
theorem castZ : ((0 : Nat) : Int) = 0 := rfl
theorem castO : ((1 : Nat) : Int) = 1 := rfl
theorem castI {k : Nat} : ((OfNat.ofNat k : Nat) : Int) = OfNat.ofNat k := rfl
end R

/-! Equality of data. -/
namespace R
open PySem PySem.Spec PyProof.Rows L2
variable {α β : Type}
theorem eq_shaped {x y : PyData} (h : scalD x y = none) (hx : SeqAt.shaped x = true) (hy : SeqAt.shaped y = true) : eqF x y = some (.bool (PyData.eqv x y)) := by
  unfold eqF
  rw [h]
  dsimp only
  rw [hx, hy]
  rfl
theorem ne_shaped {x y : PyData} (h : scalD x y = none) (hx : SeqAt.shaped x = true) (hy : SeqAt.shaped y = true) : neF x y = some (.bool (!PyData.eqv x y)) := by
  unfold neF
  rw [h]
  dsimp only
  rw [hx, hy]
  rfl
theorem shp_nil : SeqAt.shaped (.list []) = true := rfl
theorem bigB_of {i : Int} (h : i.natAbs < 2 ^ 64) : bigB i = true := by
  refine decide_eq_true (Nat.lt_of_lt_of_le h (Nat.pow_le_pow_right (by decide) (by decide)))
end R

/-! Loops that look for something; counted lists. -/
namespace R
open PySem PySem.Spec PyProof.Rows L2
variable {α β : Type} {nx bk ct : En → Prop} {rt : Tr → En → Prop} {ex : Xc → En → Prop} {X : Xc → En → Prop} {e : En} {Q : Rs → En → Prop}
/-- what holds between two statements -/
theorem ws_cut {a b : Es} (M : En → Prop) (h1 : WS (a e) (Kt.mk M rt bk ct ex)) (h2 : ∀ e1, M e1 → WS (b e1) (Kt.mk nx rt bk ct ex)) : WS (seqS a b e) (Kt.mk nx rt bk ct ex) := by
  rw [ws_seq]
  cases hq : a e with
  | nx e2 => rw [hq] at h1; exact h2 _ h1
  | ct e2 => rw [hq] at h1; exact h1
  | bk e2 => rw [hq] at h1; exact h1
  | rt t e2 => rw [hq] at h1; exact h1
  | exc x e2 => rw [hq] at h1; exact h1
  | no => rw [hq] at h1; exact h1
theorem datsOf_own {d : List PyData} {r : List Tr} : datsOf (.own d :: r) = none := rfl
theorem datsOf_lst {d : List Tr} {r : List Tr} : datsOf (.lst d :: r) = none := rfl
theorem datsOf_tup {d : List Tr} {r : List Tr} : datsOf (.tup d :: r) = none := rfl
theorem consO_n {d : PyData} : consO d none = none := rfl
theorem mkLstO_n {ts : List Tr} : mkLstO none ts = .lst ts := rfl
theorem mkTupO_n {ts : List Tr} : mkTupO none ts = .new (.tup ts) := rfl
theorem ixT_lst {x : Rs} {j : Int} {ts : List Tr} : ixT x j (.lst ts) = partR x ts j := rfl
theorem ixT_tup {x : Rs} {j : Int} {ts : List Tr} : ixT x j (.tup ts) = partR x ts j := rfl
end R

/-! Data that can be shown. -/
namespace R
open PySem PySem.Spec PyProof.Rows L2
mutual
def plainD : PyData → Bool
  | .none => true
  | .bool _ => true
  | .int i => decide (i.natAbs < 2 ^ 100)
  | .str s => (PyData.str s).showable && (PyData.str s).canLay0 && decide ((PyData.str s).shown.length ≤ 45)
  | .list xs => plainAll xs
  | .tuple xs => plainAll xs
  | .dict _ => false
def plainAll : List PyData → Bool
  | [] => true
  | x :: xs => plainD x && plainAll xs
end
theorem plain_str {s : Str} (h : plainD (.str s) = true) : (PyData.str s).showable = true ∧ (PyData.str s).canLay0 = true ∧ (PyData.str s).shown.length ≤ 45 := by
  simp only [plainD, Bool.and_eq_true, decide_eq_true_eq] at h
  exact ⟨h.1.1, h.1.2, h.2⟩
mutual
theorem plain_lay : ∀ d : PyData, plainD d = true → d.canLay0 = true
  | .none, _ => by simp only [PyData.canLay0]
  | .bool _, _ => by simp only [PyData.canLay0]
  | .int _, _ => by simp only [PyData.canLay0]
  | .str s, h => (plain_str h).2.1
  | .list xs, h => by simp only [PyData.canLay0]; exact plain_layAll xs (by simpa [plainD] using h)
  | .tuple xs, h => by simp only [PyData.canLay0]; exact plain_layAll xs (by simpa [plainD] using h)
  | .dict _, h => by simp [plainD] at h
theorem plain_layAll : ∀ xs : List PyData, plainAll xs = true → PyData.canLayAll0 xs = true
  | [], _ => by simp only [PyData.canLayAll0]
  | x :: xs, h => by
    have h' : plainD x = true ∧ plainAll xs = true := by simpa [plainAll] using h
    simp only [PyData.canLayAll0, plain_lay x h'.1, plain_layAll xs h'.2, Bool.and_self]
end
mutual
def sizeD : PyData → Nat
  | .list xs => sizeAll xs + 1
  | .tuple xs => sizeAll xs + 1
  | _ => 1
def sizeAll : List PyData → Nat
  | [] => 0
  | x :: xs => sizeD x + sizeAll xs
end
theorem shownAll_len : ∀ xs : List PyData, (PyData.shownAll xs).length = xs.length
  | [] => rfl
  | x :: xs => by simp only [PyData.shownAll, List.length_cons, shownAll_len xs]
/-- data that is plain, of at most k places, at most m deep -/
structure Nic (d : PyData) (k m : Nat) : Prop where
  pl : plainD d = true
  sz : sizeD d ≤ k
  dp : d.depth ≤ m
theorem Nic.mono {d : PyData} {k m k' m' : Nat} (h : Nic d k m) (h1 : k ≤ k') (h2 : m ≤ m') : Nic d k' m' := ⟨h.pl, Nat.le_trans h.sz h1, Nat.le_trans h.dp h2⟩
theorem Nic.shaped {d : PyData} {k m : Nat} (h : Nic d k m) (hm : m ≤ 60) : SeqAt.shaped d = true := by
  unfold SeqAt.shaped
  rw [Bool.and_eq_true]
  have := h.dp
  exact ⟨plain_lay d h.pl, decide_eq_true (by omega)⟩
end R

/-! Objects, by weakest conditions; the object of the class Closing. -/
namespace R
open PySem PySem.Spec PyProof.Rows L2
variable {α β : Type} {nx bk ct : En → Prop} {rt : Tr → En → Prop} {ex : Xc → En → Prop} {X : Xc → En → Prop} {e : En} {Q : Rs → En → Prop}
def attO (c x : Str) (r : Rs) (t : Tr) : Option Rs := match t with
  | .obj c' fs => if c' = c then (match fs.lookup x with
    | some t => subR r (.f x) t
    | none => none) else none
  | _ => none
theorem we_attr {c x : Str} {f : Ev} : WE (attrV c x f e) Q X = WE (f e) (fun r e1 => WO (getR e1 r) fun t => WO (attO c x r t) fun z => Kw Q z e1) X := by
  unfold attrV
  cases f e with
  | ok r e1 =>
    show WE (match getR e1 r with | some (.obj c' fs) => if c' = c then (match fs.lookup x with | some t => (match subR r (.f x) t with | some z => .ok z e1 | none => .no) | none => .no) else .no | _ => .no) Q X = WO (getR e1 r) _
    cases getR e1 r with
    | none => rfl
    | some t =>
      cases t with
      | obj c' fs =>
        show WE (if c' = c then (match fs.lookup x with | some t => (match subR r (.f x) t with | some z => .ok z e1 | none => .no) | none => .no) else .no) Q X = WO (if c' = c then (match fs.lookup x with | some t => subR r (.f x) t | none => none) else none) _
        rw [we_if, wo_if]
        congr 1
        cases fs.lookup x with
        | none => rfl
        | some t =>
          dsimp only
          cases subR r (.f x) t <;> rfl
      | _ => rfl
  | exc _ _ => rfl
  | no => rfl
def objO (c : Str) (t : Tr) : Option (List (Str × Tr)) := match t with
  | .obj c' fs => if c' = c then some fs else none
  | _ => none
def stoAO (c x : Str) (t : Tr) (r : Rs) (e : En) : Option En := match r with
  | .pl k pa => (getPl e k pa).bind fun t0 => (objO c t0).bind fun fs => if isO e k = true then (if fs.length < 1000 then some (putPl e k pa (.obj c (putT x t fs))) else none) else none
  | _ => none
theorem ws_stoA {c x : Str} {o f : Ev} : WS (stoA c x o f e) (Kt.mk nx rt bk ct ex) = WE (asT f e) (fun t e1 => WE (o e1) (fun r e2 => WO (stoAO c x t r e2) fun e3 => Kv nx e3) ex) ex := by
  unfold stoA
  rw [ws_so]
  cases asT f e with
  | exc _ _ => rfl
  | no => rfl
  | ok t e1 =>
  show WS ((o e1).so _) _ = WE (o e1) _ _
  rw [ws_so]
  cases o e1 with
  | exc _ _ => rfl
  | no => rfl
  | ok r e2 =>
  cases r with
  | pl k pa =>
    show WS (match getPl e2 k pa with | some (.obj c' fs) => if c' = c then (if isO e2 k then (if fs.length < 1000 then .nx (putPl e2 k pa (.obj c (putT x t fs))) else .no) else .no) else .no | _ => .no) _ = WO ((getPl e2 k pa).bind _) _
    cases getPl e2 k pa with
    | none => rfl
    | some t0 =>
      cases t0 with
      | obj c' fs =>
        show WS (if c' = c then _ else .no) _ = WO ((if c' = c then some fs else none).bind _) _
        by_cases h : c' = c
        · rw [if_pos h, if_pos h]
          show WS (if isO e2 k then _ else .no) _ = WO (if isO e2 k = true then _ else none) _
          cases isO e2 k with
          | false => rfl
          | true =>
            rw [if_pos rfl, if_pos rfl]
            by_cases h2 : fs.length < 1000
            · rw [if_pos h2, if_pos h2]; rfl
            · rw [if_neg h2, if_neg h2]; rfl
        · rw [if_neg h, if_neg h]; rfl
      | _ => rfl
  | _ => rfl
theorem wo_stoAO {c x : Str} {t : Tr} {k : Nat} {pa : Pa} {K : En → Prop} : WO (stoAO c x t (.pl k pa) e) K = WO (getPl e k pa) fun t0 => WO (objO c t0) fun fs => isO e k = true ∧ fs.length < 1000 ∧ K (putPl e k pa (.obj c (putT x t fs))) := by
  show WO ((getPl e k pa).bind _) K = _
  rw [wo_bind]
  cases getPl e k pa with
  | none => rfl
  | some t0 =>
  show WO ((objO c t0).bind _) K = WO (objO c t0) _
  rw [wo_bind]
  cases objO c t0 with
  | none => rfl
  | some fs =>
  show WO (if isO e k = true then (if fs.length < 1000 then _ else none) else none) K = _
  rw [wo_if, wo_if]
  rfl
def methO (c m : Str) (x : Sl) : Bool := match x with
  | .o (.obj c' fs) => decide (c' = c) && (fs.lookup m).isNone
  | _ => false
theorem we_meth {c m : Str} {i : Nat} {R : List Tr → Ret} {as : List Am} : WE (methV c m i R as e) Q X = WO e[i]? fun x => methO c m x = true ∧ WE (callV R (.m i :: as) e) Q X := by
  unfold methV
  cases e[i]? with
  | none => rfl
  | some x =>
    have no : (False : Prop) = ((false = true) ∧ WE (callV R (.m i :: as) e) Q X) := propext ⟨fun z => z.elim, fun z => nomatch z.1⟩
    cases x with
    | r t => exact no
    | o t =>
      cases t with
      | obj c' fs =>
        show WE (if c' = c then (if (fs.lookup m).isNone then _ else .no) else .no) Q X = ((decide (c' = c) && (fs.lookup m).isNone) = true ∧ _)
        rw [we_if, we_if, Bool.and_eq_true, decide_eq_true_eq, and_assoc]
      | _ => exact no
def WN (r : Ret) (Q : Tr → Prop) [Hd Q] : Prop := match r with
  | .ret (.dat .none) [t] => Q t
  | _ => False
theorem we_new {c : Str} {R : List Tr → Ret} {fs : List Ev} : WE (newV c R fs e) Q X = WE (argsD fs e) (fun ds e1 => WN (R (.obj c [] :: ds.map .dat)) fun t => Kw Q (.new t) e1) X := by
  unfold newV
  rw [we_bnd]
  cases argsD fs e with
  | exc _ _ => rfl
  | no => rfl
  | ok ds e1 =>
  show WE (match R (.obj c [] :: ds.map .dat) with | .ret (.dat .none) [t] => .ok (.new t) e1 | _ => .no) Q X = WN (R (.obj c [] :: ds.map .dat)) _
  cases R (.obj c [] :: ds.map .dat) with
  | no => rfl
  | exc _ _ => rfl
  | ret a b =>
    cases a with
    | dat d =>
      cases d with
      | none =>
        match b with
        | [] => rfl
        | [t] => rfl
        | _ :: _ :: _ => rfl
      | _ => rfl
    | _ => rfl
theorem wn_ret {t : Tr} {Q : Tr → Prop} : WN (.ret (.dat .none) [t]) Q = Q t := rfl
/-- the object -/
def cT (g : PyData) (L A U P Z : List PyData) (N : PyData) (B : Tr) : Tr := .obj "Closing" [("given", .dat g), ("lines", .own L), ("frees", .own A), ("dues", .own U), ("free_lines", .own P), ("due_lines", .own Z), ("none", .dat N), ("behind", B)]
variable {g N : PyData} {L A U P Z : List PyData} {B : Tr}
theorem nb_given_lines : ((("given" : Str)) == ("lines" : Str)) = false := by decide +kernel
theorem nb_given_frees : ((("given" : Str)) == ("frees" : Str)) = false := by decide +kernel
theorem nb_given_dues : ((("given" : Str)) == ("dues" : Str)) = false := by decide +kernel
theorem nb_given_free_lines : ((("given" : Str)) == ("free_lines" : Str)) = false := by decide +kernel
theorem nb_given_due_lines : ((("given" : Str)) == ("due_lines" : Str)) = false := by decide +kernel
theorem nb_given_none : ((("given" : Str)) == ("none" : Str)) = false := by decide +kernel
theorem nb_given_behind : ((("given" : Str)) == ("behind" : Str)) = false := by decide +kernel
theorem nb_lines_given : ((("lines" : Str)) == ("given" : Str)) = false := by decide +kernel
theorem nq_given_lines : (("given" : Str)) ≠ ("lines" : Str) := by decide +kernel
theorem nb_lines_frees : ((("lines" : Str)) == ("frees" : Str)) = false := by decide +kernel
theorem nq_frees_lines : (("frees" : Str)) ≠ ("lines" : Str) := by decide +kernel
theorem nb_lines_dues : ((("lines" : Str)) == ("dues" : Str)) = false := by decide +kernel
theorem nq_dues_lines : (("dues" : Str)) ≠ ("lines" : Str) := by decide +kernel
theorem nb_lines_free_lines : ((("lines" : Str)) == ("free_lines" : Str)) = false := by decide +kernel
theorem nq_free_lines_lines : (("free_lines" : Str)) ≠ ("lines" : Str) := by decide +kernel
theorem nb_lines_due_lines : ((("lines" : Str)) == ("due_lines" : Str)) = false := by decide +kernel
theorem nq_due_lines_lines : (("due_lines" : Str)) ≠ ("lines" : Str) := by decide +kernel
theorem nb_lines_none : ((("lines" : Str)) == ("none" : Str)) = false := by decide +kernel
theorem nq_none_lines : (("none" : Str)) ≠ ("lines" : Str) := by decide +kernel
theorem nb_lines_behind : ((("lines" : Str)) == ("behind" : Str)) = false := by decide +kernel
theorem nq_behind_lines : (("behind" : Str)) ≠ ("lines" : Str) := by decide +kernel
theorem nb_frees_given : ((("frees" : Str)) == ("given" : Str)) = false := by decide +kernel
theorem nq_given_frees : (("given" : Str)) ≠ ("frees" : Str) := by decide +kernel
theorem nb_frees_lines : ((("frees" : Str)) == ("lines" : Str)) = false := by decide +kernel
theorem nq_lines_frees : (("lines" : Str)) ≠ ("frees" : Str) := by decide +kernel
theorem nb_frees_dues : ((("frees" : Str)) == ("dues" : Str)) = false := by decide +kernel
theorem nq_dues_frees : (("dues" : Str)) ≠ ("frees" : Str) := by decide +kernel
theorem nb_frees_free_lines : ((("frees" : Str)) == ("free_lines" : Str)) = false := by decide +kernel
theorem nq_free_lines_frees : (("free_lines" : Str)) ≠ ("frees" : Str) := by decide +kernel
theorem nb_frees_due_lines : ((("frees" : Str)) == ("due_lines" : Str)) = false := by decide +kernel
theorem nq_due_lines_frees : (("due_lines" : Str)) ≠ ("frees" : Str) := by decide +kernel
theorem nb_frees_none : ((("frees" : Str)) == ("none" : Str)) = false := by decide +kernel
theorem nq_none_frees : (("none" : Str)) ≠ ("frees" : Str) := by decide +kernel
theorem nb_frees_behind : ((("frees" : Str)) == ("behind" : Str)) = false := by decide +kernel
theorem nq_behind_frees : (("behind" : Str)) ≠ ("frees" : Str) := by decide +kernel
theorem nb_dues_given : ((("dues" : Str)) == ("given" : Str)) = false := by decide +kernel
theorem nq_given_dues : (("given" : Str)) ≠ ("dues" : Str) := by decide +kernel
theorem nb_dues_lines : ((("dues" : Str)) == ("lines" : Str)) = false := by decide +kernel
theorem nq_lines_dues : (("lines" : Str)) ≠ ("dues" : Str) := by decide +kernel
theorem nb_dues_frees : ((("dues" : Str)) == ("frees" : Str)) = false := by decide +kernel
theorem nq_frees_dues : (("frees" : Str)) ≠ ("dues" : Str) := by decide +kernel
theorem nb_dues_free_lines : ((("dues" : Str)) == ("free_lines" : Str)) = false := by decide +kernel
theorem nq_free_lines_dues : (("free_lines" : Str)) ≠ ("dues" : Str) := by decide +kernel
theorem nb_dues_due_lines : ((("dues" : Str)) == ("due_lines" : Str)) = false := by decide +kernel
theorem nq_due_lines_dues : (("due_lines" : Str)) ≠ ("dues" : Str) := by decide +kernel
theorem nb_dues_none : ((("dues" : Str)) == ("none" : Str)) = false := by decide +kernel
theorem nq_none_dues : (("none" : Str)) ≠ ("dues" : Str) := by decide +kernel
theorem nb_dues_behind : ((("dues" : Str)) == ("behind" : Str)) = false := by decide +kernel
theorem nq_behind_dues : (("behind" : Str)) ≠ ("dues" : Str) := by decide +kernel
theorem nb_free_lines_given : ((("free_lines" : Str)) == ("given" : Str)) = false := by decide +kernel
theorem nq_given_free_lines : (("given" : Str)) ≠ ("free_lines" : Str) := by decide +kernel
theorem nb_free_lines_lines : ((("free_lines" : Str)) == ("lines" : Str)) = false := by decide +kernel
theorem nq_lines_free_lines : (("lines" : Str)) ≠ ("free_lines" : Str) := by decide +kernel
theorem nb_free_lines_frees : ((("free_lines" : Str)) == ("frees" : Str)) = false := by decide +kernel
theorem nq_frees_free_lines : (("frees" : Str)) ≠ ("free_lines" : Str) := by decide +kernel
theorem nb_free_lines_dues : ((("free_lines" : Str)) == ("dues" : Str)) = false := by decide +kernel
theorem nq_dues_free_lines : (("dues" : Str)) ≠ ("free_lines" : Str) := by decide +kernel
theorem nb_free_lines_due_lines : ((("free_lines" : Str)) == ("due_lines" : Str)) = false := by decide +kernel
theorem nq_due_lines_free_lines : (("due_lines" : Str)) ≠ ("free_lines" : Str) := by decide +kernel
theorem nb_free_lines_none : ((("free_lines" : Str)) == ("none" : Str)) = false := by decide +kernel
theorem nq_none_free_lines : (("none" : Str)) ≠ ("free_lines" : Str) := by decide +kernel
theorem nb_free_lines_behind : ((("free_lines" : Str)) == ("behind" : Str)) = false := by decide +kernel
theorem nq_behind_free_lines : (("behind" : Str)) ≠ ("free_lines" : Str) := by decide +kernel
theorem nb_due_lines_given : ((("due_lines" : Str)) == ("given" : Str)) = false := by decide +kernel
theorem nq_given_due_lines : (("given" : Str)) ≠ ("due_lines" : Str) := by decide +kernel
theorem nb_due_lines_lines : ((("due_lines" : Str)) == ("lines" : Str)) = false := by decide +kernel
theorem nq_lines_due_lines : (("lines" : Str)) ≠ ("due_lines" : Str) := by decide +kernel
theorem nb_due_lines_frees : ((("due_lines" : Str)) == ("frees" : Str)) = false := by decide +kernel
theorem nq_frees_due_lines : (("frees" : Str)) ≠ ("due_lines" : Str) := by decide +kernel
theorem nb_due_lines_dues : ((("due_lines" : Str)) == ("dues" : Str)) = false := by decide +kernel
theorem nq_dues_due_lines : (("dues" : Str)) ≠ ("due_lines" : Str) := by decide +kernel
theorem nb_due_lines_free_lines : ((("due_lines" : Str)) == ("free_lines" : Str)) = false := by decide +kernel
theorem nq_free_lines_due_lines : (("free_lines" : Str)) ≠ ("due_lines" : Str) := by decide +kernel
theorem nb_due_lines_none : ((("due_lines" : Str)) == ("none" : Str)) = false := by decide +kernel
theorem nq_none_due_lines : (("none" : Str)) ≠ ("due_lines" : Str) := by decide +kernel
theorem nb_due_lines_behind : ((("due_lines" : Str)) == ("behind" : Str)) = false := by decide +kernel
theorem nq_behind_due_lines : (("behind" : Str)) ≠ ("due_lines" : Str) := by decide +kernel
theorem nb_none_given : ((("none" : Str)) == ("given" : Str)) = false := by decide +kernel
theorem nq_given_none : (("given" : Str)) ≠ ("none" : Str) := by decide +kernel
theorem nb_none_lines : ((("none" : Str)) == ("lines" : Str)) = false := by decide +kernel
theorem nq_lines_none : (("lines" : Str)) ≠ ("none" : Str) := by decide +kernel
theorem nb_none_frees : ((("none" : Str)) == ("frees" : Str)) = false := by decide +kernel
theorem nq_frees_none : (("frees" : Str)) ≠ ("none" : Str) := by decide +kernel
theorem nb_none_dues : ((("none" : Str)) == ("dues" : Str)) = false := by decide +kernel
theorem nq_dues_none : (("dues" : Str)) ≠ ("none" : Str) := by decide +kernel
theorem nb_none_free_lines : ((("none" : Str)) == ("free_lines" : Str)) = false := by decide +kernel
theorem nq_free_lines_none : (("free_lines" : Str)) ≠ ("none" : Str) := by decide +kernel
theorem nb_none_due_lines : ((("none" : Str)) == ("due_lines" : Str)) = false := by decide +kernel
theorem nq_due_lines_none : (("due_lines" : Str)) ≠ ("none" : Str) := by decide +kernel
theorem nb_none_behind : ((("none" : Str)) == ("behind" : Str)) = false := by decide +kernel
theorem nb_behind_given : ((("behind" : Str)) == ("given" : Str)) = false := by decide +kernel
theorem nb_behind_lines : ((("behind" : Str)) == ("lines" : Str)) = false := by decide +kernel
theorem nb_behind_frees : ((("behind" : Str)) == ("frees" : Str)) = false := by decide +kernel
theorem nb_behind_dues : ((("behind" : Str)) == ("dues" : Str)) = false := by decide +kernel
theorem nb_behind_free_lines : ((("behind" : Str)) == ("free_lines" : Str)) = false := by decide +kernel
theorem nb_behind_due_lines : ((("behind" : Str)) == ("due_lines" : Str)) = false := by decide +kernel
theorem nb_behind_none : ((("behind" : Str)) == ("none" : Str)) = false := by decide +kernel
theorem nb_put_given : ((("put" : Str)) == ("given" : Str)) = false := by decide +kernel
theorem nb_put_lines : ((("put" : Str)) == ("lines" : Str)) = false := by decide +kernel
theorem nb_put_frees : ((("put" : Str)) == ("frees" : Str)) = false := by decide +kernel
theorem nb_put_dues : ((("put" : Str)) == ("dues" : Str)) = false := by decide +kernel
theorem nb_put_free_lines : ((("put" : Str)) == ("free_lines" : Str)) = false := by decide +kernel
theorem nb_put_due_lines : ((("put" : Str)) == ("due_lines" : Str)) = false := by decide +kernel
theorem nb_put_none : ((("put" : Str)) == ("none" : Str)) = false := by decide +kernel
theorem nb_put_behind : ((("put" : Str)) == ("behind" : Str)) = false := by decide +kernel
theorem nb_begin_given : ((("begin" : Str)) == ("given" : Str)) = false := by decide +kernel
theorem nb_begin_lines : ((("begin" : Str)) == ("lines" : Str)) = false := by decide +kernel
theorem nb_begin_frees : ((("begin" : Str)) == ("frees" : Str)) = false := by decide +kernel
theorem nb_begin_dues : ((("begin" : Str)) == ("dues" : Str)) = false := by decide +kernel
theorem nb_begin_free_lines : ((("begin" : Str)) == ("free_lines" : Str)) = false := by decide +kernel
theorem nb_begin_due_lines : ((("begin" : Str)) == ("due_lines" : Str)) = false := by decide +kernel
theorem nb_begin_none : ((("begin" : Str)) == ("none" : Str)) = false := by decide +kernel
theorem nb_begin_behind : ((("begin" : Str)) == ("behind" : Str)) = false := by decide +kernel
theorem nb_later_given : ((("later" : Str)) == ("given" : Str)) = false := by decide +kernel
theorem nb_later_lines : ((("later" : Str)) == ("lines" : Str)) = false := by decide +kernel
theorem nb_later_frees : ((("later" : Str)) == ("frees" : Str)) = false := by decide +kernel
theorem nb_later_dues : ((("later" : Str)) == ("dues" : Str)) = false := by decide +kernel
theorem nb_later_free_lines : ((("later" : Str)) == ("free_lines" : Str)) = false := by decide +kernel
theorem nb_later_due_lines : ((("later" : Str)) == ("due_lines" : Str)) = false := by decide +kernel
theorem nb_later_none : ((("later" : Str)) == ("none" : Str)) = false := by decide +kernel
theorem nb_later_behind : ((("later" : Str)) == ("behind" : Str)) = false := by decide +kernel
theorem nb_rising_given : ((("rising" : Str)) == ("given" : Str)) = false := by decide +kernel
theorem nb_rising_lines : ((("rising" : Str)) == ("lines" : Str)) = false := by decide +kernel
theorem nb_rising_frees : ((("rising" : Str)) == ("frees" : Str)) = false := by decide +kernel
theorem nb_rising_dues : ((("rising" : Str)) == ("dues" : Str)) = false := by decide +kernel
theorem nb_rising_free_lines : ((("rising" : Str)) == ("free_lines" : Str)) = false := by decide +kernel
theorem nb_rising_due_lines : ((("rising" : Str)) == ("due_lines" : Str)) = false := by decide +kernel
theorem nb_rising_none : ((("rising" : Str)) == ("none" : Str)) = false := by decide +kernel
theorem nb_rising_behind : ((("rising" : Str)) == ("behind" : Str)) = false := by decide +kernel
theorem nb_crowd_given : ((("crowd" : Str)) == ("given" : Str)) = false := by decide +kernel
theorem nb_crowd_lines : ((("crowd" : Str)) == ("lines" : Str)) = false := by decide +kernel
theorem nb_crowd_frees : ((("crowd" : Str)) == ("frees" : Str)) = false := by decide +kernel
theorem nb_crowd_dues : ((("crowd" : Str)) == ("dues" : Str)) = false := by decide +kernel
theorem nb_crowd_free_lines : ((("crowd" : Str)) == ("free_lines" : Str)) = false := by decide +kernel
theorem nb_crowd_due_lines : ((("crowd" : Str)) == ("due_lines" : Str)) = false := by decide +kernel
theorem nb_crowd_none : ((("crowd" : Str)) == ("none" : Str)) = false := by decide +kernel
theorem nb_crowd_behind : ((("crowd" : Str)) == ("behind" : Str)) = false := by decide +kernel
theorem nb_full_given : ((("full" : Str)) == ("given" : Str)) = false := by decide +kernel
theorem nb_full_lines : ((("full" : Str)) == ("lines" : Str)) = false := by decide +kernel
theorem nb_full_frees : ((("full" : Str)) == ("frees" : Str)) = false := by decide +kernel
theorem nb_full_dues : ((("full" : Str)) == ("dues" : Str)) = false := by decide +kernel
theorem nb_full_free_lines : ((("full" : Str)) == ("free_lines" : Str)) = false := by decide +kernel
theorem nb_full_due_lines : ((("full" : Str)) == ("due_lines" : Str)) = false := by decide +kernel
theorem nb_full_none : ((("full" : Str)) == ("none" : Str)) = false := by decide +kernel
theorem nb_full_behind : ((("full" : Str)) == ("behind" : Str)) = false := by decide +kernel
theorem nb_least_due_given : ((("least_due" : Str)) == ("given" : Str)) = false := by decide +kernel
theorem nb_least_due_lines : ((("least_due" : Str)) == ("lines" : Str)) = false := by decide +kernel
theorem nb_least_due_frees : ((("least_due" : Str)) == ("frees" : Str)) = false := by decide +kernel
theorem nb_least_due_dues : ((("least_due" : Str)) == ("dues" : Str)) = false := by decide +kernel
theorem nb_least_due_free_lines : ((("least_due" : Str)) == ("free_lines" : Str)) = false := by decide +kernel
theorem nb_least_due_due_lines : ((("least_due" : Str)) == ("due_lines" : Str)) = false := by decide +kernel
theorem nb_least_due_none : ((("least_due" : Str)) == ("none" : Str)) = false := by decide +kernel
theorem nb_least_due_behind : ((("least_due" : Str)) == ("behind" : Str)) = false := by decide +kernel
theorem nb_sooner_given : ((("sooner" : Str)) == ("given" : Str)) = false := by decide +kernel
theorem nb_sooner_lines : ((("sooner" : Str)) == ("lines" : Str)) = false := by decide +kernel
theorem nb_sooner_frees : ((("sooner" : Str)) == ("frees" : Str)) = false := by decide +kernel
theorem nb_sooner_dues : ((("sooner" : Str)) == ("dues" : Str)) = false := by decide +kernel
theorem nb_sooner_free_lines : ((("sooner" : Str)) == ("free_lines" : Str)) = false := by decide +kernel
theorem nb_sooner_due_lines : ((("sooner" : Str)) == ("due_lines" : Str)) = false := by decide +kernel
theorem nb_sooner_none : ((("sooner" : Str)) == ("none" : Str)) = false := by decide +kernel
theorem nb_sooner_behind : ((("sooner" : Str)) == ("behind" : Str)) = false := by decide +kernel
theorem look_given : List.lookup ("given" : Str) [(("given" : Str), Tr.dat g), (("lines" : Str), Tr.own L), (("frees" : Str), Tr.own A), (("dues" : Str), Tr.own U), (("free_lines" : Str), Tr.own P), (("due_lines" : Str), Tr.own Z), (("none" : Str), Tr.dat N), (("behind" : Str), B)] = some (.dat g) := by
  simp only [List.lookup_cons, nb_given_lines, nb_given_frees, nb_given_dues, nb_given_free_lines, nb_given_due_lines, nb_given_none, nb_given_behind, beq_self_eq_true]
theorem look_lines : List.lookup ("lines" : Str) [(("given" : Str), Tr.dat g), (("lines" : Str), Tr.own L), (("frees" : Str), Tr.own A), (("dues" : Str), Tr.own U), (("free_lines" : Str), Tr.own P), (("due_lines" : Str), Tr.own Z), (("none" : Str), Tr.dat N), (("behind" : Str), B)] = some (.own L) := by
  simp only [List.lookup_cons, nb_lines_given, nb_lines_frees, nb_lines_dues, nb_lines_free_lines, nb_lines_due_lines, nb_lines_none, nb_lines_behind, beq_self_eq_true]
theorem look_frees : List.lookup ("frees" : Str) [(("given" : Str), Tr.dat g), (("lines" : Str), Tr.own L), (("frees" : Str), Tr.own A), (("dues" : Str), Tr.own U), (("free_lines" : Str), Tr.own P), (("due_lines" : Str), Tr.own Z), (("none" : Str), Tr.dat N), (("behind" : Str), B)] = some (.own A) := by
  simp only [List.lookup_cons, nb_frees_given, nb_frees_lines, nb_frees_dues, nb_frees_free_lines, nb_frees_due_lines, nb_frees_none, nb_frees_behind, beq_self_eq_true]
theorem look_dues : List.lookup ("dues" : Str) [(("given" : Str), Tr.dat g), (("lines" : Str), Tr.own L), (("frees" : Str), Tr.own A), (("dues" : Str), Tr.own U), (("free_lines" : Str), Tr.own P), (("due_lines" : Str), Tr.own Z), (("none" : Str), Tr.dat N), (("behind" : Str), B)] = some (.own U) := by
  simp only [List.lookup_cons, nb_dues_given, nb_dues_lines, nb_dues_frees, nb_dues_free_lines, nb_dues_due_lines, nb_dues_none, nb_dues_behind, beq_self_eq_true]
theorem look_free_lines : List.lookup ("free_lines" : Str) [(("given" : Str), Tr.dat g), (("lines" : Str), Tr.own L), (("frees" : Str), Tr.own A), (("dues" : Str), Tr.own U), (("free_lines" : Str), Tr.own P), (("due_lines" : Str), Tr.own Z), (("none" : Str), Tr.dat N), (("behind" : Str), B)] = some (.own P) := by
  simp only [List.lookup_cons, nb_free_lines_given, nb_free_lines_lines, nb_free_lines_frees, nb_free_lines_dues, nb_free_lines_due_lines, nb_free_lines_none, nb_free_lines_behind, beq_self_eq_true]
theorem look_due_lines : List.lookup ("due_lines" : Str) [(("given" : Str), Tr.dat g), (("lines" : Str), Tr.own L), (("frees" : Str), Tr.own A), (("dues" : Str), Tr.own U), (("free_lines" : Str), Tr.own P), (("due_lines" : Str), Tr.own Z), (("none" : Str), Tr.dat N), (("behind" : Str), B)] = some (.own Z) := by
  simp only [List.lookup_cons, nb_due_lines_given, nb_due_lines_lines, nb_due_lines_frees, nb_due_lines_dues, nb_due_lines_free_lines, nb_due_lines_none, nb_due_lines_behind, beq_self_eq_true]
theorem look_none : List.lookup ("none" : Str) [(("given" : Str), Tr.dat g), (("lines" : Str), Tr.own L), (("frees" : Str), Tr.own A), (("dues" : Str), Tr.own U), (("free_lines" : Str), Tr.own P), (("due_lines" : Str), Tr.own Z), (("none" : Str), Tr.dat N), (("behind" : Str), B)] = some (.dat N) := by
  simp only [List.lookup_cons, nb_none_given, nb_none_lines, nb_none_frees, nb_none_dues, nb_none_free_lines, nb_none_due_lines, nb_none_behind, beq_self_eq_true]
theorem look_behind : List.lookup ("behind" : Str) [(("given" : Str), Tr.dat g), (("lines" : Str), Tr.own L), (("frees" : Str), Tr.own A), (("dues" : Str), Tr.own U), (("free_lines" : Str), Tr.own P), (("due_lines" : Str), Tr.own Z), (("none" : Str), Tr.dat N), (("behind" : Str), B)] = some (B) := by
  simp only [List.lookup_cons, nb_behind_given, nb_behind_lines, nb_behind_frees, nb_behind_dues, nb_behind_free_lines, nb_behind_due_lines, nb_behind_none, beq_self_eq_true]
theorem att_given {i : Nat} {p : Pa} : attO "Closing" "given" (.pl i p) (cT g L A U P Z N B) = some (.dat g) := by
  unfold attO cT
  dsimp only
  rw [if_pos rfl, look_given]
  rfl
theorem att_lines {i : Nat} {p : Pa} : attO "Closing" "lines" (.pl i p) (cT g L A U P Z N B) = some (.pl i (p ++ [.f "lines"])) := by
  unfold attO cT
  dsimp only
  rw [if_pos rfl, look_lines]
  rfl
theorem get_lines : Tr.get [.f "lines"] (cT g L A U P Z N B) = some (.own L) := by
  unfold cT Tr.get
  rw [look_lines]
  dsimp only
  rw [get_nil]
theorem put_lines {y : List PyData} : Tr.put (.own y) [.f "lines"] (cT g L A U P Z N B) = cT g y A U P Z N B := by
  unfold cT Tr.put
  rw [look_lines]
  dsimp only
  rw [put_nil]
  simp only [putF, nq_given_lines, nq_frees_lines, nq_dues_lines, nq_free_lines_lines, nq_due_lines_lines, nq_none_lines, nq_behind_lines, if_false, if_true]
theorem att_frees {i : Nat} {p : Pa} : attO "Closing" "frees" (.pl i p) (cT g L A U P Z N B) = some (.pl i (p ++ [.f "frees"])) := by
  unfold attO cT
  dsimp only
  rw [if_pos rfl, look_frees]
  rfl
theorem get_frees : Tr.get [.f "frees"] (cT g L A U P Z N B) = some (.own A) := by
  unfold cT Tr.get
  rw [look_frees]
  dsimp only
  rw [get_nil]
theorem put_frees {y : List PyData} : Tr.put (.own y) [.f "frees"] (cT g L A U P Z N B) = cT g L y U P Z N B := by
  unfold cT Tr.put
  rw [look_frees]
  dsimp only
  rw [put_nil]
  simp only [putF, nq_given_frees, nq_lines_frees, nq_dues_frees, nq_free_lines_frees, nq_due_lines_frees, nq_none_frees, nq_behind_frees, if_false, if_true]
theorem att_dues {i : Nat} {p : Pa} : attO "Closing" "dues" (.pl i p) (cT g L A U P Z N B) = some (.pl i (p ++ [.f "dues"])) := by
  unfold attO cT
  dsimp only
  rw [if_pos rfl, look_dues]
  rfl
theorem get_dues : Tr.get [.f "dues"] (cT g L A U P Z N B) = some (.own U) := by
  unfold cT Tr.get
  rw [look_dues]
  dsimp only
  rw [get_nil]
theorem put_dues {y : List PyData} : Tr.put (.own y) [.f "dues"] (cT g L A U P Z N B) = cT g L A y P Z N B := by
  unfold cT Tr.put
  rw [look_dues]
  dsimp only
  rw [put_nil]
  simp only [putF, nq_given_dues, nq_lines_dues, nq_frees_dues, nq_free_lines_dues, nq_due_lines_dues, nq_none_dues, nq_behind_dues, if_false, if_true]
theorem att_free_lines {i : Nat} {p : Pa} : attO "Closing" "free_lines" (.pl i p) (cT g L A U P Z N B) = some (.pl i (p ++ [.f "free_lines"])) := by
  unfold attO cT
  dsimp only
  rw [if_pos rfl, look_free_lines]
  rfl
theorem get_free_lines : Tr.get [.f "free_lines"] (cT g L A U P Z N B) = some (.own P) := by
  unfold cT Tr.get
  rw [look_free_lines]
  dsimp only
  rw [get_nil]
theorem put_free_lines {y : List PyData} : Tr.put (.own y) [.f "free_lines"] (cT g L A U P Z N B) = cT g L A U y Z N B := by
  unfold cT Tr.put
  rw [look_free_lines]
  dsimp only
  rw [put_nil]
  simp only [putF, nq_given_free_lines, nq_lines_free_lines, nq_frees_free_lines, nq_dues_free_lines, nq_due_lines_free_lines, nq_none_free_lines, nq_behind_free_lines, if_false, if_true]
theorem att_due_lines {i : Nat} {p : Pa} : attO "Closing" "due_lines" (.pl i p) (cT g L A U P Z N B) = some (.pl i (p ++ [.f "due_lines"])) := by
  unfold attO cT
  dsimp only
  rw [if_pos rfl, look_due_lines]
  rfl
theorem get_due_lines : Tr.get [.f "due_lines"] (cT g L A U P Z N B) = some (.own Z) := by
  unfold cT Tr.get
  rw [look_due_lines]
  dsimp only
  rw [get_nil]
theorem put_due_lines {y : List PyData} : Tr.put (.own y) [.f "due_lines"] (cT g L A U P Z N B) = cT g L A U P y N B := by
  unfold cT Tr.put
  rw [look_due_lines]
  dsimp only
  rw [put_nil]
  simp only [putF, nq_given_due_lines, nq_lines_due_lines, nq_frees_due_lines, nq_dues_due_lines, nq_free_lines_due_lines, nq_none_due_lines, nq_behind_due_lines, if_false, if_true]
theorem att_none {i : Nat} {p : Pa} : attO "Closing" "none" (.pl i p) (cT g L A U P Z N B) = some (.dat N) := by
  unfold attO cT
  dsimp only
  rw [if_pos rfl, look_none]
  rfl
theorem att_behind {i : Nat} {p : Pa} : attO "Closing" "behind" (.pl i p) (cT g L A U P Z N B) = subR (.pl i p) (.f "behind") B := by
  unfold attO cT
  dsimp only
  rw [if_pos rfl, look_behind]
theorem get_behind {q : Pa} : Tr.get (.f "behind" :: q) (cT g L A U P Z N B) = Tr.get q B := by
  unfold cT
  rw [Tr.get, look_behind]
theorem vOf_cT {i : Nat} : vOf i (cT g L A U P Z N B) = some (.pl i []) := rfl
theorem isUn_cT : isUn (cT g L A U P Z N B) = false := rfl
theorem mkNew_cT : mkNew (cT g L A U P Z N B) = .new (cT g L A U P Z N B) := rfl
theorem obj_cT : objO "Closing" (cT g L A U P Z N B) = some [(("given" : Str), Tr.dat g), (("lines" : Str), Tr.own L), (("frees" : Str), Tr.own A), (("dues" : Str), Tr.own U), (("free_lines" : Str), Tr.own P), (("due_lines" : Str), Tr.own Z), (("none" : Str), Tr.dat N), (("behind" : Str), B)] := by unfold objO cT; dsimp only; rw [if_pos rfl]
theorem lookm_put : List.lookup ("put" : Str) [(("given" : Str), Tr.dat g), (("lines" : Str), Tr.own L), (("frees" : Str), Tr.own A), (("dues" : Str), Tr.own U), (("free_lines" : Str), Tr.own P), (("due_lines" : Str), Tr.own Z), (("none" : Str), Tr.dat N), (("behind" : Str), B)] = none := by
  simp only [List.lookup_cons, nb_put_given, nb_put_lines, nb_put_frees, nb_put_dues, nb_put_free_lines, nb_put_due_lines, nb_put_none, nb_put_behind, List.lookup_nil]
theorem meth_put : methO "Closing" "put" (.o (cT g L A U P Z N B)) = true := by
  unfold methO cT
  dsimp only
  rw [lookm_put]
  rfl
theorem lookm_begin : List.lookup ("begin" : Str) [(("given" : Str), Tr.dat g), (("lines" : Str), Tr.own L), (("frees" : Str), Tr.own A), (("dues" : Str), Tr.own U), (("free_lines" : Str), Tr.own P), (("due_lines" : Str), Tr.own Z), (("none" : Str), Tr.dat N), (("behind" : Str), B)] = none := by
  simp only [List.lookup_cons, nb_begin_given, nb_begin_lines, nb_begin_frees, nb_begin_dues, nb_begin_free_lines, nb_begin_due_lines, nb_begin_none, nb_begin_behind, List.lookup_nil]
theorem meth_begin : methO "Closing" "begin" (.o (cT g L A U P Z N B)) = true := by
  unfold methO cT
  dsimp only
  rw [lookm_begin]
  rfl
theorem lookm_later : List.lookup ("later" : Str) [(("given" : Str), Tr.dat g), (("lines" : Str), Tr.own L), (("frees" : Str), Tr.own A), (("dues" : Str), Tr.own U), (("free_lines" : Str), Tr.own P), (("due_lines" : Str), Tr.own Z), (("none" : Str), Tr.dat N), (("behind" : Str), B)] = none := by
  simp only [List.lookup_cons, nb_later_given, nb_later_lines, nb_later_frees, nb_later_dues, nb_later_free_lines, nb_later_due_lines, nb_later_none, nb_later_behind, List.lookup_nil]
theorem meth_later : methO "Closing" "later" (.o (cT g L A U P Z N B)) = true := by
  unfold methO cT
  dsimp only
  rw [lookm_later]
  rfl
theorem lookm_rising : List.lookup ("rising" : Str) [(("given" : Str), Tr.dat g), (("lines" : Str), Tr.own L), (("frees" : Str), Tr.own A), (("dues" : Str), Tr.own U), (("free_lines" : Str), Tr.own P), (("due_lines" : Str), Tr.own Z), (("none" : Str), Tr.dat N), (("behind" : Str), B)] = none := by
  simp only [List.lookup_cons, nb_rising_given, nb_rising_lines, nb_rising_frees, nb_rising_dues, nb_rising_free_lines, nb_rising_due_lines, nb_rising_none, nb_rising_behind, List.lookup_nil]
theorem meth_rising : methO "Closing" "rising" (.o (cT g L A U P Z N B)) = true := by
  unfold methO cT
  dsimp only
  rw [lookm_rising]
  rfl
theorem lookm_crowd : List.lookup ("crowd" : Str) [(("given" : Str), Tr.dat g), (("lines" : Str), Tr.own L), (("frees" : Str), Tr.own A), (("dues" : Str), Tr.own U), (("free_lines" : Str), Tr.own P), (("due_lines" : Str), Tr.own Z), (("none" : Str), Tr.dat N), (("behind" : Str), B)] = none := by
  simp only [List.lookup_cons, nb_crowd_given, nb_crowd_lines, nb_crowd_frees, nb_crowd_dues, nb_crowd_free_lines, nb_crowd_due_lines, nb_crowd_none, nb_crowd_behind, List.lookup_nil]
theorem meth_crowd : methO "Closing" "crowd" (.o (cT g L A U P Z N B)) = true := by
  unfold methO cT
  dsimp only
  rw [lookm_crowd]
  rfl
theorem lookm_full : List.lookup ("full" : Str) [(("given" : Str), Tr.dat g), (("lines" : Str), Tr.own L), (("frees" : Str), Tr.own A), (("dues" : Str), Tr.own U), (("free_lines" : Str), Tr.own P), (("due_lines" : Str), Tr.own Z), (("none" : Str), Tr.dat N), (("behind" : Str), B)] = none := by
  simp only [List.lookup_cons, nb_full_given, nb_full_lines, nb_full_frees, nb_full_dues, nb_full_free_lines, nb_full_due_lines, nb_full_none, nb_full_behind, List.lookup_nil]
theorem meth_full : methO "Closing" "full" (.o (cT g L A U P Z N B)) = true := by
  unfold methO cT
  dsimp only
  rw [lookm_full]
  rfl
theorem lookm_least_due : List.lookup ("least_due" : Str) [(("given" : Str), Tr.dat g), (("lines" : Str), Tr.own L), (("frees" : Str), Tr.own A), (("dues" : Str), Tr.own U), (("free_lines" : Str), Tr.own P), (("due_lines" : Str), Tr.own Z), (("none" : Str), Tr.dat N), (("behind" : Str), B)] = none := by
  simp only [List.lookup_cons, nb_least_due_given, nb_least_due_lines, nb_least_due_frees, nb_least_due_dues, nb_least_due_free_lines, nb_least_due_due_lines, nb_least_due_none, nb_least_due_behind, List.lookup_nil]
theorem meth_least_due : methO "Closing" "least_due" (.o (cT g L A U P Z N B)) = true := by
  unfold methO cT
  dsimp only
  rw [lookm_least_due]
  rfl
theorem lookm_sooner : List.lookup ("sooner" : Str) [(("given" : Str), Tr.dat g), (("lines" : Str), Tr.own L), (("frees" : Str), Tr.own A), (("dues" : Str), Tr.own U), (("free_lines" : Str), Tr.own P), (("due_lines" : Str), Tr.own Z), (("none" : Str), Tr.dat N), (("behind" : Str), B)] = none := by
  simp only [List.lookup_cons, nb_sooner_given, nb_sooner_lines, nb_sooner_frees, nb_sooner_dues, nb_sooner_free_lines, nb_sooner_due_lines, nb_sooner_none, nb_sooner_behind, List.lookup_nil]
theorem meth_sooner : methO "Closing" "sooner" (.o (cT g L A U P Z N B)) = true := by
  unfold methO cT
  dsimp only
  rw [lookm_sooner]
  rfl
end R

namespace R
open PySem PySem.Spec PyProof.Rows L2
variable {nx bk ct : En → Prop} {rt : Tr → En → Prop} {ex : Xc → En → Prop} {X : Xc → En → Prop} {e : En} {Q : Rs → En → Prop} {g N N' d : PyData} {L A U P Z L' A' U' P' Z' : List PyData} {B : Tr}
theorem ws_stoN {y : PyData} {k : Nat} {K : En → Prop} : WO (stoAO "Closing" "none" (.dat y) (.pl 0 []) (.o (cT g L A U P Z N B) :: e)) K = K (.o (cT g L A U P Z y B) :: e) := by
  rw [wo_stoAO]
  show WO (Tr.get [] (cT g L A U P Z N B)) _ = _
  rw [get_nil, wo_some, obj_cT, wo_some]
  simp only [putT, nq_given_none, nq_lines_none, nq_frees_none, nq_dues_none, nq_free_lines_none, nq_due_lines_none, if_false, if_true, isO_z, true_and]
  exact propext ⟨fun h => h.2, fun h => ⟨by simp only [List.length_cons, List.length_nil]; omega, h⟩⟩
theorem hold_k {i : Nat} {k : Ps} {q : Pa} : holdR (.pl i (k :: q)) e = holdE i e := rfl
theorem holdE_z {t : Tr} : holdE 0 (.o t :: e) = .r t :: e := rfl
theorem holdE_zr {t : Tr} : holdE 0 (.r t :: e) = .r t :: e := rfl
theorem holdE_s {i : Nat} {x : Sl} : holdE (i + 1) (x :: e) = x :: holdE i e := by
  unfold holdE
  rw [List.getElem?_cons_succ]
  cases e[i]? with
  | none => rfl
  | some y => cases y <;> rfl
theorem unhold_k {i : Nat} {k : Ps} {q : Pa} {e2 : En} : unholdR (.pl i (k :: q)) e e2 = unholdE i e e2 := rfl
theorem unholdE_z {t : Tr} {x : Sl} {e2 : En} : unholdE 0 (.o t :: e) (x :: e2) = .o t :: e2 := rfl
theorem unholdE_zr {t : Tr} {e2 : En} : unholdE 0 (.r t :: e) e2 = e2 := rfl
theorem unholdE_s {i : Nat} {x y : Sl} {e2 : En} : unholdE (i + 1) (x :: e) (y :: e2) = y :: unholdE i e e2 := by
  unfold unholdE
  rw [List.getElem?_cons_succ]
  cases e[i]? with
  | none => rfl
  | some z => cases z <;> rfl
theorem sortP_eq {ps : List (Int × Int)} : sortPF (.list (ps.map prD)) = some (.lst ((isortP ps).map prD)) := by
  unfold sortPF
  dsimp only
  rw [prsOf_prs]
end R

namespace R
open PySem PySem.Spec PyProof.Rows L2
theorem we_isNT {neg : Bool} {f : Ev} {e : En} {Q : Rs → En → Prop} {X : Xc → En → Prop} : WE (isNT neg f e) Q X = WE (f e) (fun r e1 => WO (getR e1 r) fun t => WO (nonT t) fun b => Q (.dat (.bool (if neg then !b else b))) e1) X := by
  unfold isNT
  cases f e with
  | ok r e1 =>
    show WE (match getR e1 r with | some t => (match nonT t with | some b => .ok (.dat (.bool (if neg then !b else b))) e1 | none => .no) | none => .no) Q X = WO (getR e1 r) _
    cases getR e1 r with
    | none => rfl
    | some t =>
      show WE (match nonT t with | some b => .ok (.dat (.bool (if neg then !b else b))) e1 | none => .no) Q X = WO (nonT t) _
      cases nonT t <;> rfl
  | exc _ _ => rfl
  | no => rfl
theorem nonT_dat {d : PyData} : nonT (.dat d) = some (isNone d) := rfl
theorem nonT_own {d : List PyData} : nonT (.own d) = some false := rfl
theorem nonT_tup {d : List Tr} : nonT (.tup d) = some false := rfl
end R

namespace R
open PySem PySem.Spec PyProof.Rows L2
variable {e e1 e2 : En} {Q : Rs → En → Prop} {X : Xc → En → Prop} {nx bk ct : En → Prop} {rt : Tr → En → Prop} {ex : Xc → En → Prop}
/-! dicts that are filled -/
theorem we_dnew : WE (dnewV e) Q X = Q (.new (.dic [])) e := rfl
theorem we_ddisp1 {f g : Ev} : WE (ddisp1 f g e) Q X = WE (asD f e) (fun d e1 => WE (asD g e1) (fun d2 e2 => WO (keyOf d) fun k => Q (.new (.dic [(k, d2)])) e2) X) X := by
  unfold ddisp1
  cases asD f e with
  | ok d e1 =>
    show WE ((asD g e1).bnd _) Q X = WE (asD g e1) _ X
    cases asD g e1 with
    | ok d2 e2 =>
      show WE (match keyOf d with | some k => Out.ok (.new (.dic [(k, d2)])) e2 | none => .no) Q X = WO (keyOf d) _
      cases keyOf d <;> rfl
    | exc _ _ => rfl
    | no => rfl
  | exc _ _ => rfl
  | no => rfl
def dputO (p : Rs) (ky : Key) (d : PyData) (e2 : En) : Option En := match p with
  | .pl k pa => (getPl e2 k pa).bind fun t0 => (dOf t0).bind fun kvs => if isO e2 k && lenOk kvs.length then some (putPl e2 k pa (.dic (putD kvs ky d))) else none
  | _ => none
def dputK (K : En → Prop) (d : PyData) (x y : Rs) (e : En) [Hd K] : Prop := WO (rdS e y) fun q => WO (keyOf q) fun ky => WO (dputO x ky d e) K
theorem dputk {K : En → Prop} {d : PyData} {x y : Rs} : dputK K d x y e = WO (rdS e y) fun q => WO (keyOf q) fun ky => WO (dputO x ky d e) K := rfl
theorem ws_dput {o i f : Ev} : WS (dputS o i f e) (Kt.mk nx rt bk ct ex) = WE (asD f e) (fun t e1 => WE (o e1) (fun x e2 => WE (i (holdR x e2)) (fun y e3 => dputK nx t x y (unholdR x e2 e3)) fun z e3 => ex z (unholdR x e2 e3)) ex) ex := by
  refine Eq.trans ?_ (congrArg (fun Q : PyData → En → Prop => WE (asD f e) Q ex) (funext fun t => funext fun e1 => we_two (Q := fun p e2 => dputK nx t p.1 p.2 e2)))
  unfold dputS
  rw [ws_so]
  cases asD f e with
  | ok t e1 =>
    show WS ((twoF o i e1).so _) (Kt.mk nx rt bk ct ex) = WE (twoF o i e1) _ _
    rw [ws_so]
    cases twoF o i e1 with
    | ok p e2 =>
      show WS _ (Kt.mk nx rt bk ct ex) = WO (rdS e2 p.2) _
      cases rdS e2 p.2 with
      | none => rfl
      | some d =>
        rw [show (some d).bind keyOf = keyOf d from rfl]
        show _ = WO (keyOf d) _
        cases keyOf d with
        | none => rfl
        | some ky =>
          dsimp only
          show _ = WO (dputO p.1 ky t e2) nx
          unfold dputO
          cases p.1 with
          | pl k pa =>
            dsimp only
            cases getPl e2 k pa with
            | none => rfl
            | some t0 =>
              cases t0 with
              | dic kvs =>
                show WS (if isO e2 k && lenOk kvs.length then _ else .no) (Kt.mk nx rt bk ct ex) = WO (if isO e2 k && lenOk kvs.length then _ else none) nx
                cases (isO e2 k && lenOk kvs.length) <;> rfl
              | _ => rfl
          | _ => rfl
    | exc _ _ => rfl
    | no => rfl
  | exc _ _ => rfl
  | no => rfl
theorem wo_dputO {k : Nat} {pa : Pa} {ky : Key} {d : PyData} {K : En → Prop} : WO (dputO (.pl k pa) ky d e) K = WO (getPl e k pa) fun t0 => WO (dOf t0) fun kvs => isO e k = true ∧ lenOk kvs.length = true ∧ Kv K (putPl e k pa (.dic (putD kvs ky d))) := by
  dsimp only [dputO]
  rw [wo_bind]
  cases getPl e k pa with
  | none => rfl
  | some t0 =>
    show WO ((dOf t0).bind _) K = WO (dOf t0) _
    cases dOf t0 with
    | none => rfl
    | some kvs =>
      show WO (if isO e k && lenOk kvs.length then _ else none) K = _
      rw [wo_if, Bool.and_eq_true]
      exact propext ⟨fun ⟨⟨a, b⟩, c⟩ => ⟨a, b, c⟩, fun ⟨a, b, c⟩ => ⟨⟨a, b⟩, c⟩⟩
theorem we_rng3 {f g h : Ev} {Q : List PyData → En → Prop} : WE (rng3D f g h e) Q X = WE (asD f e) (fun d e1 => WE (asD g e1) (fun d2 e2 => WE (asD h e2) (fun d3 e3 => WO (iOf d) fun i => WO (iOf d2) fun j => WO (iOf d3) fun c => (inR i && inR j && decide (c = -1)) = true ∧ Q (rngD i (i - j).toNat) e3) X) X) X := by
  unfold rng3D
  cases asD f e with
  | ok d e1 =>
    show WE ((asD g e1).bnd _) Q X = WE (asD g e1) _ X
    cases asD g e1 with
    | ok d2 e2 =>
      show WE ((asD h e2).bnd _) Q X = WE (asD h e2) _ X
      cases asD h e2 with
      | ok d3 e3 => cases d <;> cases d2 <;> cases d3 <;> first | rfl | exact we_if
      | exc _ _ => rfl
      | no => rfl
    | exc _ _ => rfl
    | no => rfl
  | exc _ _ => rfl
  | no => rfl
theorem we_sortL {f : Ev} {i : Nat} : WE (sortLV f i e) Q X = WE (asD f e) (fun d e1 => WO (lOf d) fun ds => WO (intsOf ds) fun ns => WO (getPl e1 i []) fun t => WO (shal t) fun u => WO (lOf u) fun us => (ns.all fun n => (keyAt us n).isSome) = true ∧ Q (.new (.own ((sortBy (fun n => (keyAt us n).getD 0) ns).map .int))) e1) X := by
  unfold sortLV
  cases asD f e with
  | ok d e1 =>
    cases d with
    | list ds =>
      show WE (match intsOf ds, getPl e1 i [] with | some ns, some t => (match shal t with | some (.list us) => if ns.all fun n => (keyAt us n).isSome then Out.ok (.new (.own ((sortBy (fun n => (keyAt us n).getD 0) ns).map .int))) e1 else .no | _ => .no) | _, _ => .no) Q X = WO (intsOf ds) _
      cases intsOf ds with
      | none => rfl
      | some ns =>
        show _ = WO (getPl e1 i []) _
        cases getPl e1 i [] with
        | none => rfl
        | some t =>
          show _ = WO (shal t) _
          cases hs : shal t with
          | none => dsimp only; rw [hs]; rfl
          | some u =>
            dsimp only
            rw [hs]
            cases u with
            | list us => exact we_if
            | _ => rfl
    | _ => rfl
  | exc _ _ => rfl
  | no => rfl
/-! what is one's own to names -/
def unpO (gs : Tgs) (e1 : En) : Tr → Option En
  | .dat d => bindG (.tup gs) d e1
  | .tup ts => bindT gs ts e1
  | .lst ts => bindT gs ts e1
  | _ => none
theorem ws_asgG {gs : Tgs} {f : Ev} : WS (asgG (.tup gs) f e) (Kt.mk nx rt bk ct ex) = WE (asT f e) (fun t e1 => WO (unpO gs e1 t) nx) ex := by
  unfold asgG
  rw [ws_so]
  cases asT f e with
  | ok t e1 =>
    show WS _ (Kt.mk nx rt bk ct ex) = WO (unpO gs e1 t) nx
    cases t with
    | dat d =>
      show WS (match bindG (.tup gs) d e1 with | some e2 => .nx e2 | none => .no) (Kt.mk nx rt bk ct ex) = WO (bindG (.tup gs) d e1) nx
      cases bindG (.tup gs) d e1 <;> rfl
    | tup ts =>
      show WS (match bindT gs ts e1 with | some e2 => .nx e2 | none => .no) (Kt.mk nx rt bk ct ex) = WO (bindT gs ts e1) nx
      cases bindT gs ts e1 <;> rfl
    | lst ts =>
      show WS (match bindT gs ts e1 with | some e2 => .nx e2 | none => .no) (Kt.mk nx rt bk ct ex) = WO (bindT gs ts e1) nx
      cases bindT gs ts e1 <;> rfl
    | _ => rfl
  | exc _ _ => rfl
  | no => rfl
theorem unpO_dat {gs : Tgs} {d : PyData} : unpO gs e (.dat d) = bindG (.tup gs) d e := rfl
theorem unpO_tup {gs : Tgs} {d : List Tr} : unpO gs e (.tup d) = bindT gs d e := rfl
theorem unpO_lst {gs : Tgs} {d : List Tr} : unpO gs e (.lst d) = bindT gs d e := rfl
theorem wo_btN {K : En → Prop} : WO (bindT .nil [] e) K = K e := rfl
theorem wo_btC {i : Nat} {gs : Tgs} {t : Tr} {ts : List Tr} {K : En → Prop} : WO (bindT (.cons (.name i) gs) (t :: ts) e) K = WO (setN i t e) fun e1 => WO (bindT gs ts e1) K := by
  unfold bindT
  cases setN i t e <;> rfl
theorem we_callT {R : List Tr → Ret} {fs : List Ev} : WE (callT R fs e) Q X = WE (argsT fs e) (fun ts e1 => WR (R ts) (fun t _ => Kw Q (mkNew t) e1) fun x _ => x.fs.isEmpty = true ∧ X x e1) X := by
  unfold callT
  rw [we_bnd]
  cases argsT fs e with
  | exc _ _ => rfl
  | no => rfl
  | ok ts e1 =>
    show WE (match R ts with | .ret t _ => .ok (mkNew t) e1 | .exc x _ => if x.fs.isEmpty then .exc x e1 else .no | .no => .no) Q X = WR (R ts) _ _
    cases R ts with
    | ret t os => rfl
    | no => rfl
    | exc x os =>
      show WE (if x.fs.isEmpty then Out.exc x e1 else .no) Q X = (x.fs.isEmpty = true ∧ X x e1)
      by_cases h : x.fs.isEmpty = true
      · rw [if_pos h]; exact propext ⟨fun z => ⟨h, z⟩, fun z => z.2⟩
      · rw [if_neg h]; exact propext ⟨fun z => z.elim, fun z => absurd z.1 h⟩
/-! x or y -/
def orIW (d : PyData) (A : Prop) (B : Int → Prop) [Hd A] [Hd B] : Prop := match d with
  | .int i => (i = 0 → A) ∧ (¬ i = 0 → B i)
  | .none => A
  | _ => False
theorem orIW_int {i : Int} {A : Prop} {B : Int → Prop} : orIW (.int i) A B = ((i = 0 → A) ∧ (¬ i = 0 → B i)) := rfl
theorem orIW_none {A : Prop} {B : Int → Prop} : orIW .none A B = A := rfl
theorem we_orI {f g : Ev} : WE (orI f g e) Q X = WE (f e) (fun r e1 => WO (rdS e1 r) fun d => orIW d (WE (g e1) Q X) fun i => Q (.dat (.int i)) e1) X := by
  unfold orI
  rw [we_bnd]
  cases f e with
  | exc _ _ => rfl
  | no => rfl
  | ok r e1 =>
    show WE (match rdS e1 r with | some (.int i) => if i = 0 then g e1 else .ok (.dat (.int i)) e1 | some .none => g e1 | _ => .no) Q X = WO (rdS e1 r) _
    cases rdS e1 r with
    | none => rfl
    | some d =>
      cases d with
      | int i =>
        show WE (if i = 0 then g e1 else .ok (.dat (.int i)) e1) Q X = ((i = 0 → _) ∧ (¬ i = 0 → _))
        by_cases c : i = 0
        · rw [if_pos c]; exact propext ⟨fun z => ⟨fun _ => z, fun n => absurd c n⟩, fun z => z.1 c⟩
        · rw [if_neg c]; exact propext ⟨fun z => ⟨fun n => absurd n c, fun _ => z⟩, fun z => z.2 c⟩
      | _ => rfl
end R

/-! try, by weakest conditions -/
namespace R
open PySem PySem.Spec PyProof.Rows L2
variable {e : En} {nx bk ct : En → Prop} {rt : Tr → En → Prop} {ex : Xc → En → Prop}
theorem ws_clr {o : So} {i : Nat} : WS (clrS i o) (Kt.mk nx rt bk ct ex) = WS o (Kt.mk (fun e => isO e i = true ∧ nx (e.set i (.o .un))) rt (fun e => isO e i = true ∧ bk (e.set i (.o .un))) (fun e => isO e i = true ∧ ct (e.set i (.o .un))) fun _ _ => False) := by
  cases o with
  | nx e =>
    show WS (if isO e i then So.nx (e.set i (.o .un)) else .no) _ = (isO e i = true ∧ nx (e.set i (.o .un)))
    split
    · rename_i h; exact propext ⟨fun z => ⟨h, z⟩, fun z => z.2⟩
    · rename_i h; exact propext ⟨fun z => z.elim, fun z => absurd z.1 h⟩
  | bk e =>
    show WS (if isO e i then So.bk (e.set i (.o .un)) else .no) _ = (isO e i = true ∧ bk (e.set i (.o .un)))
    split
    · rename_i h; exact propext ⟨fun z => ⟨h, z⟩, fun z => z.2⟩
    · rename_i h; exact propext ⟨fun z => z.elim, fun z => absurd z.1 h⟩
  | ct e =>
    show WS (if isO e i then So.ct (e.set i (.o .un)) else .no) _ = (isO e i = true ∧ ct (e.set i (.o .un)))
    split
    · rename_i h; exact propext ⟨fun z => ⟨h, z⟩, fun z => z.2⟩
    · rename_i h; exact propext ⟨fun z => z.elim, fun z => absurd z.1 h⟩
  | rt t e => rfl
  | exc x e => rfl
  | no => rfl
def TryK (tab : List (Str × Bool)) (i : Nat) (su : Es) (D : Kt) (x : Xc) (e1 : En) [Hd D] : Prop := match tab.lookup x.c with
  | some true => WO (setN i (.dat (excD x.c x.fs)) e1) fun e2 => WS (clrS i (su e2)) D
  | some false => D.ex x e1
  | none => False
theorem ws_try {tab : List (Str × Bool)} {i : Nat} {b su : Es} : WS (tryS tab b i su e) (Kt.mk nx rt bk ct ex) = WS (b e) (Kt.mk nx rt bk ct fun x e1 => TryK tab i su (Kt.mk nx rt bk ct ex) x e1) := by
  unfold tryS
  cases b e with
  | exc x e1 =>
    show WS (match tab.lookup x.c with | some true => (match setN i (.dat (excD x.c x.fs)) e1 with | some e2 => clrS i (su e2) | none => .no) | some false => .exc x e1 | none => .no) _ = TryK tab i su (Kt.mk nx rt bk ct ex) x e1
    unfold TryK
    cases tab.lookup x.c with
    | none => rfl
    | some v =>
      cases v with
      | false => rfl
      | true =>
        show WS (match setN i (.dat (excD x.c x.fs)) e1 with | some e2 => clrS i (su e2) | none => .no) _ = WO (setN i (.dat (excD x.c x.fs)) e1) _
        cases setN i (.dat (excD x.c x.fs)) e1 <;> rfl
  | nx e => rfl
  | rt t e => rfl
  | bk e => rfl
  | ct e => rfl
  | no => rfl
theorem try_t {tab : List (Str × Bool)} {i : Nat} {su : Es} {c : Str} {fs : List (Str × PyData)} (h : tab.lookup c = some true) : TryK tab i su (Kt.mk nx rt bk ct ex) ⟨c, fs⟩ e = WO (setN i (.dat (excD c fs)) e) fun e2 => WS (su e2) (Kt.mk (fun e => isO e i = true ∧ nx (e.set i (.o .un))) rt (fun e => isO e i = true ∧ bk (e.set i (.o .un))) (fun e => isO e i = true ∧ ct (e.set i (.o .un))) fun _ _ => False) := by
  unfold TryK
  rw [show (Xc.mk c fs).c = c from rfl, h]
  dsimp only
  cases setN i (.dat (excD c fs)) e with
  | none => rfl
  | some e2 => exact ws_clr
theorem isN_exc {c : Str} {fs : List (Str × PyData)} : isNF (excD c fs) = some (.dat (.bool false)) := rfl
theorem isNN_exc {c : Str} {fs : List (Str × PyData)} : isNNF (excD c fs) = some (.dat (.bool true)) := rfl
theorem lenT_tp {ts : List Tr} : lenT (.tup ts) = some (ts.length : Int) := rfl
theorem lenT_lst {ts : List Tr} : lenT (.lst ts) = some (ts.length : Int) := rfl
/-! views -/
theorem holdL_nil : R.holdL [] e = e := rfl
theorem holdL_c {i : Nat} {L : List Nat} : R.holdL (i :: L) e = holdE i (R.holdL L e) := rfl
theorem tgsns_nil : Tgs.ns .nil = [] := rfl
theorem tgsns_c {i : Nat} {gs : Tgs} : Tgs.ns (.cons (.name i) gs) = i :: gs.ns := rfl
theorem relL_nil : relL [] e = e := rfl
theorem relL_c {i : Nat} {L : List Nat} : relL (i :: L) e = relE i (relL L e) := rfl
theorem relE_zo {t : Tr} : relE 0 (.o t :: e) = .o t :: e := rfl
theorem relE_zr {t : Tr} : relE 0 (.r t :: e) = .o t :: e := rfl
theorem relE_s {x : Sl} {i : Nat} : relE (i + 1) (x :: e) = x :: relE i e := by
  unfold relE
  rw [List.getElem?_cons_succ]
  cases h : e[i]? with
  | none => rfl
  | some y => cases y <;> rfl
theorem cast2 : ((2 : Nat) : Int) = 2 := rfl
theorem cast3 : ((3 : Nat) : Int) = 3 := rfl
theorem cast4 : ((4 : Nat) : Int) = 4 := rfl
end R

/-! except without a name, by weakest conditions -/
namespace R
open PySem PySem.Spec PyProof.Rows L2
variable {e : En} {nx bk ct : En → Prop} {rt : Tr → En → Prop} {ex : Xc → En → Prop}
def TryN (tab : List (Str × Bool)) (su : Es) (D : Kt) (x : Xc) (e1 : En) [Hd D] : Prop := match tab.lookup x.c with
  | some true => WS (noExc (su e1)) D
  | some false => D.ex x e1
  | none => False
theorem ws_tryN {tab : List (Str × Bool)} {b su : Es} : WS (tryN tab b su e) (Kt.mk nx rt bk ct ex) = WS (b e) (Kt.mk nx rt bk ct fun x e1 => TryN tab su (Kt.mk nx rt bk ct ex) x e1) := by
  unfold tryN
  cases b e with
  | exc x e1 =>
    show WS (match tab.lookup x.c with | some true => noExc (su e1) | some false => .exc x e1 | none => .no) _ = TryN tab su (Kt.mk nx rt bk ct ex) x e1
    unfold TryN
    cases tab.lookup x.c with
    | none => rfl
    | some v => cases v <;> rfl
  | nx e => rfl
  | rt t e => rfl
  | bk e => rfl
  | ct e => rfl
  | no => rfl
theorem we_trng1 {e : En} {Q : Rs → En → Prop} {X : Xc → En → Prop} {f : Ev} : WE (trng1 f e) Q X = WE (rng1 f e) (fun ds e1 => lenOk ds.length = true ∧ Q (.dat (.tuple ds)) e1) X := by
  unfold trng1
  cases rng1 f e with
  | ok ds e1 => exact we_if
  | exc _ _ => rfl
  | no => rfl
end R

/-! two places at once, by weakest conditions -/
namespace R
open PySem PySem.Spec PyProof.Rows L2
variable {e : En} {nx bk ct : En → Prop} {rt : Tr → En → Prop} {ex : Xc → En → Prop}
def fstO : PyData → Option PyData
  | .tuple [a, _] => some a
  | _ => none
def sndO : PyData → Option PyData
  | .tuple [_, b] => some b
  | _ => none
theorem fstO_t {a b : PyData} : fstO (.tuple [a, b]) = some a := rfl
theorem sndO_t {a b : PyData} : sndO (.tuple [a, b]) = some b := rfl
theorem thn_skip {x : So} : x.thn skipS = x := by cases x <;> rfl
theorem ws_swp {o1 i1 o2 i2 f : Ev} : WS (swpS o1 i1 o2 i2 f e) (Kt.mk nx rt bk ct ex) = WE (asD f e) (fun d e1 => WO (fstO d) fun a => WO (sndO d) fun b => WS (seqS (stoS o1 i1 (cstV a)) (stoS o2 i2 (cstV b)) e1) (Kt.mk nx rt bk ct ex)) ex := by
  unfold swpS
  rw [ws_so]
  cases asD f e with
  | ok d e1 =>
    show WS (match d with | .tuple [d1, d2] => ((stoS o1 i1 (cstV d1) e1).thn (stoS o2 i2 (cstV d2))).thn skipS | _ => .no) _ = WO (fstO d) _
    match d with
    | .tuple [d1, d2] =>
      show WS (((stoS o1 i1 (cstV d1) e1).thn (stoS o2 i2 (cstV d2))).thn skipS) _ = WS (seqS (stoS o1 i1 (cstV d1)) (stoS o2 i2 (cstV d2)) e1) _
      rw [thn_skip]
      rfl
    | .tuple [] => rfl
    | .tuple [_] => rfl
    | .tuple (_ :: _ :: _ :: _) => rfl
    | .none => rfl
    | .bool _ => rfl
    | .int _ => rfl
    | .str _ => rfl
    | .list _ => rfl
    | .dict _ => rfl
  | exc x e => rfl
  | no => rfl
theorem bool_int {i : Int} : boolF (.int i) = some (.dat (.bool (i != 0))) := rfl
theorem bool_bool {b : Bool} : boolF (.bool b) = some (.dat (.bool b)) := rfl
theorem we_frz {Q : Rs → En → Prop} {X : Xc → En → Prop} {f : Ev} : WE (frzV f e) Q X = WE (asD f e) (fun d e1 => Q (.dat d) e1) X := by
  unfold frzV
  cases asD f e <;> rfl
end R

/-! dicts with tuple keys, by weakest conditions -/
namespace R
open PySem PySem.Spec PyProof.Rows L2
variable {e e1 e2 : En} {Q : Rs → En → Prop} {X : Xc → En → Prop} {nx bk ct : En → Prop} {rt : Tr → En → Prop} {ex : Xc → En → Prop}
theorem we_dnewT : WE (dnewT e) Q X = Q (.new (.dit [])) e := rfl
theorem we_ddispT {f g : Ev} : WE (ddispT f g e) Q X = WE (asD f e) (fun d e1 => WE (asD g e1) (fun d2 e2 => WO (keyT d) fun k => Q (.new (.dit [(k, d2)])) e2) X) X := by
  unfold ddispT
  cases asD f e with
  | ok d e1 =>
    show WE ((asD g e1).bnd _) Q X = WE (asD g e1) _ X
    cases asD g e1 with
    | ok d2 e2 =>
      show WE (match keyT d with | some k => Out.ok (.new (.dit [(k, d2)])) e2 | none => .no) Q X = WO (keyT d) _
      cases keyT d <;> rfl
    | exc _ _ => rfl
    | no => rfl
  | exc _ _ => rfl
  | no => rfl
def ditO : Tr → Option KvsT
  | .dit kvs => some kvs
  | _ => none
theorem ditO_s {k : KvsT} : ditO (.dit k) = some k := rfl
theorem wo_ditR {r : Rs} {K : KvsT → Prop} : WO (ditR e r) K = WO (getR e r) fun t => WO (ditO t) K := by
  unfold ditR
  cases getR e r with
  | none => rfl
  | some t => cases t <;> rfl
def dputTO (p : Rs) (ky : List Key) (d : PyData) (e2 : En) : Option En := match p with
  | .pl k pa => (getPl e2 k pa).bind fun t0 => (ditO t0).bind fun kvs => if isO e2 k && lenOk kvs.length then some (putPl e2 k pa (.dit (putD kvs ky d))) else none
  | _ => none
def dputTK (K : En → Prop) (d : PyData) (x y : Rs) (e : En) [Hd K] : Prop := WO (rdS e y) fun q => WO (keyT q) fun ky => WO (dputTO x ky d e) K
theorem dputTk {K : En → Prop} {d : PyData} {x y : Rs} : dputTK K d x y e = WO (rdS e y) fun q => WO (keyT q) fun ky => WO (dputTO x ky d e) K := rfl
theorem ws_dputT {o i f : Ev} : WS (dputT o i f e) (Kt.mk nx rt bk ct ex) = WE (asD f e) (fun t e1 => WE (o e1) (fun x e2 => WE (i (holdR x e2)) (fun y e3 => dputTK nx t x y (unholdR x e2 e3)) fun z e3 => ex z (unholdR x e2 e3)) ex) ex := by
  refine Eq.trans ?_ (congrArg (fun Q : PyData → En → Prop => WE (asD f e) Q ex) (funext fun t => funext fun e1 => we_two (Q := fun p e2 => dputTK nx t p.1 p.2 e2)))
  unfold dputT
  rw [ws_so]
  cases asD f e with
  | ok t e1 =>
    show WS ((twoF o i e1).so _) (Kt.mk nx rt bk ct ex) = WE (twoF o i e1) _ _
    rw [ws_so]
    cases twoF o i e1 with
    | ok p e2 =>
      show WS _ (Kt.mk nx rt bk ct ex) = WO (rdS e2 p.2) _
      cases rdS e2 p.2 with
      | none => rfl
      | some d =>
        rw [show (some d).bind keyT = keyT d from rfl]
        show _ = WO (keyT d) _
        cases keyT d with
        | none => rfl
        | some ky =>
          dsimp only
          show _ = WO (dputTO p.1 ky t e2) nx
          unfold dputTO
          cases p.1 with
          | pl k pa =>
            dsimp only
            cases getPl e2 k pa with
            | none => rfl
            | some t0 =>
              cases t0 with
              | dit kvs =>
                show WS (if isO e2 k && lenOk kvs.length then _ else .no) (Kt.mk nx rt bk ct ex) = WO (if isO e2 k && lenOk kvs.length then _ else none) nx
                cases (isO e2 k && lenOk kvs.length) <;> rfl
              | _ => rfl
          | _ => rfl
    | exc _ _ => rfl
    | no => rfl
  | exc _ _ => rfl
  | no => rfl
theorem wo_dputTO {k : Nat} {pa : Pa} {ky : List Key} {d : PyData} {K : En → Prop} : WO (dputTO (.pl k pa) ky d e) K = WO (getPl e k pa) fun t0 => WO (ditO t0) fun kvs => isO e k = true ∧ lenOk kvs.length = true ∧ Kv K (putPl e k pa (.dit (putD kvs ky d))) := by
  dsimp only [dputTO]
  rw [wo_bind]
  cases getPl e k pa with
  | none => rfl
  | some t0 =>
    show WO ((ditO t0).bind _) K = WO (ditO t0) _
    cases ditO t0 with
    | none => rfl
    | some kvs =>
      show WO (if isO e k && lenOk kvs.length then _ else none) K = _
      rw [wo_if, Bool.and_eq_true]
      exact propext ⟨fun ⟨⟨a, b⟩, c⟩ => ⟨a, b, c⟩, fun ⟨a, b, c⟩ => ⟨⟨a, b⟩, c⟩⟩
def dinTK (neg : Bool) (Q : Rs → En → Prop) (x y : Rs) (e : En) [Hd Q] : Prop := WO (rdS e x) fun d => WO (keyT d) fun k => WO (ditR e y) fun kvs => Q (.dat (.bool (if neg then !(valD kvs k).isSome else (valD kvs k).isSome))) e
theorem dinTk {neg : Bool} {x y : Rs} : dinTK neg Q x y e = WO (rdS e x) fun d => WO (keyT d) fun k => WO (ditR e y) fun kvs => Q (.dat (.bool (if neg then !(valD kvs k).isSome else (valD kvs k).isSome))) e := rfl
def dgetTK (Q : Rs → En → Prop) (x y : Rs) (e : En) [Hd Q] : Prop := WO (ditR e x) fun kvs => WO (rdS e y) fun d => WO (keyT d) fun k => WO (valD kvs k) fun z => Q (.dat z) e
theorem dgetTk {x y : Rs} : dgetTK Q x y e = WO (ditR e x) fun kvs => WO (rdS e y) fun d => WO (keyT d) fun k => WO (valD kvs k) fun z => Q (.dat z) e := rfl
theorem we_dinT {neg : Bool} {f g : Ev} : WE (dinT neg f g e) Q X = WE (f e) (fun x e1 => WE (g (holdR x e1)) (fun y e2 => dinTK neg Q x y (unholdR x e1 e2)) fun z e2 => X z (unholdR x e1 e2)) X := by
  refine Eq.trans ?_ (we_two (Q := fun p e2 => dinTK neg Q p.1 p.2 e2))
  unfold dinT
  cases twoF f g e with
  | ok p e2 =>
    show WE (match (rdS e2 p.1).bind keyT, ditR e2 p.2 with | some k, some kvs => .ok (.dat (.bool (if neg then !(valD kvs k).isSome else (valD kvs k).isSome))) e2 | _, _ => .no) Q X = WO (rdS e2 p.1) _
    cases rdS e2 p.1 with
    | none => rfl
    | some d =>
      show WE (match keyT d, ditR e2 p.2 with | some k, some kvs => .ok (.dat (.bool (if neg then !(valD kvs k).isSome else (valD kvs k).isSome))) e2 | _, _ => .no) Q X = WO (keyT d) _
      cases keyT d with
      | none => rfl
      | some k =>
        show _ = WO (ditR e2 p.2) _
        cases ditR e2 p.2 <;> rfl
  | exc _ _ => rfl
  | no => rfl
theorem we_dgetT {f g : Ev} : WE (dgetT f g e) Q X = WE (f e) (fun x e1 => WE (g (holdR x e1)) (fun y e2 => dgetTK Q x y (unholdR x e1 e2)) fun z e2 => X z (unholdR x e1 e2)) X := by
  refine Eq.trans ?_ (we_two (Q := fun p e2 => dgetTK Q p.1 p.2 e2))
  unfold dgetT
  cases twoF f g e with
  | ok p e2 =>
    show WE (match ditR e2 p.1, (rdS e2 p.2).bind keyT with | some kvs, some k => (match valD kvs k with | some d => .ok (.dat d) e2 | none => .no) | _, _ => .no) Q X = WO (ditR e2 p.1) _
    cases ditR e2 p.1 with
    | none => rfl
    | some kvs =>
      show _ = WO (rdS e2 p.2) _
      cases rdS e2 p.2 with
      | none => rfl
      | some d =>
        show WE (match some kvs, keyT d with | some kvs, some k => (match valD kvs k with | some d => .ok (.dat d) e2 | none => .no) | _, _ => .no) Q X = WO (keyT d) _
        cases keyT d with
        | none => rfl
        | some k =>
          show WE (match valD kvs k with | some d => .ok (.dat d) e2 | none => .no) Q X = WO (valD kvs k) _
          cases valD kvs k <;> rfl
  | exc _ _ => rfl
  | no => rfl
/-! keys of ints -/
def kI (l : List Int) : List Key := l.map .inl
theorem keysOf_ints : ∀ {l : List Int}, keysOf (l.map .int) = some (kI l)
  | [] => rfl
  | a :: l => by
    show (match keyOf (.int a), keysOf (l.map PyData.int) with | some k, some ks => some (k :: ks) | _, _ => none) = _
    rw [keysOf_ints]
    rfl
theorem keyT_ints {l : List Int} : keyT (.tuple (l.map .int)) = some (kI l) := keysOf_ints
theorem keyT_nil : keyT (.tuple []) = some (kI []) := rfl
/-! the dict in a slot is walked -/
def ditS : Option Sl → Option KvsT
  | some (.o (.dit kvs)) => some kvs
  | _ => none
theorem ditS_s {k : KvsT} : ditS (some (.o (.dit k))) = some k := rfl
theorem ws_forK {its : KvsT → List PyData} {i : Nat} {g : Tg} {b : Es} : WS (forK its i g b e) (Kt.mk nx rt bk ct ex) = WO (ditS e[i]?) fun kvs => WS (forF g b (its kvs) (e.set i (.r .un))) (Kt.mk (fun e2 => Kv nx (e2.set i (.o (.dit kvs)))) (fun t e2 => Kw rt t (e2.set i (.o (.dit kvs)))) (fun e2 => Kv bk (e2.set i (.o (.dit kvs)))) (fun e2 => Kv ct (e2.set i (.o (.dit kvs)))) fun _ _ => False) := by
  unfold forK
  cases e[i]? with
  | none => rfl
  | some x =>
    match x with
    | .o (.dit kvs) =>
      show WS (unlS i kvs _) _ = WS (forF g b (its kvs) (e.set i (.r .un))) _
      cases forF g b (its kvs) (e.set i (.r .un)) <;> rfl
    | .o .un => rfl
    | .o (.dat _) => rfl
    | .o (.own _) => rfl
    | .o (.lst _) => rfl
    | .o (.tup _) => rfl
    | .o (.dic _) => rfl
    | .o (.obj _ _) => rfl
    | .o (.scr _) => rfl
    | .r _ => rfl
theorem we_lcK {its : KvsT → List PyData} {vs : List Nat} {i : Nat} {g : Tg} {c : Et} {f : Ev} : WE (lcK its vs i g c f e) Q X = WO (ditS e[i]?) fun kvs => wipeOk (e.set i (.r .un)) vs = true ∧ vs.contains i = false ∧ WE (lcDF vs g c f (its kvs) [] (wipeE (e.set i (.r .un)) vs)) (fun acc e2 => Kw Q (.new (.own acc)) ((unwipe (e.set i (.r .un)) e2 vs).set i (.o (.dit kvs)))) fun _ _ => False := by
  unfold lcK
  cases e[i]? with
  | none => rfl
  | some x =>
    match x with
    | .o (.dit kvs) =>
      dsimp only
      show WE (if _ then _ else _) Q X = (_ ∧ _)
      cases hw : wipeOk (e.set i (.r .un)) vs with
      | false =>
        rw [Bool.false_and]
        exact propext ⟨fun z => z.elim, fun z => nomatch z.1⟩
      | true =>
        rw [Bool.true_and]
        cases hc : vs.contains i with
        | true => exact propext ⟨fun z => z.elim, fun z => nomatch z.2.1⟩
        | false =>
          rw [if_pos (show (!false) = true from rfl)]
          refine propext ⟨fun z => ⟨rfl, rfl, ?_⟩, fun z => ?_⟩
          · cases ho : lcDF vs g c f (its kvs) [] (wipeE (e.set i (.r .un)) vs) with
            | ok acc eF => rw [ho] at z; exact z
            | exc _ _ => rw [ho] at z; exact z.elim
            | no => rw [ho] at z; exact z.elim
          · have z := z.2.2
            cases ho : lcDF vs g c f (its kvs) [] (wipeE (e.set i (.r .un)) vs) with
            | ok acc eF => rw [ho] at z; exact z
            | exc _ _ => rw [ho] at z; exact z.elim
            | no => rw [ho] at z; exact z.elim
    | .o .un => rfl
    | .o (.dat _) => rfl
    | .o (.own _) => rfl
    | .o (.lst _) => rfl
    | .o (.tup _) => rfl
    | .o (.dic _) => rfl
    | .o (.obj _ _) => rfl
    | .o (.scr _) => rfl
    | .r _ => rfl
theorem vOf_dit {i : Nat} {d : KvsT} : vOf i (.dit d) = some (.pl i []) := rfl
theorem isUn_dit {d : KvsT} : isUn (.dit d) = false := rfl
theorem unO_dit {l : KvsT} : unO (.dit l) = some (.dit l) := rfl
theorem mkNew_dit {d : KvsT} : mkNew (.dit d) = .new (.dit d) := rfl
end R

/-! A tree put behind a list of one's own, by weakest conditions -/
namespace R
open PySem PySem.Spec PyProof.Rows L2
variable {e e1 e2 : En} {Q : Rs → En → Prop} {X : Xc → En → Prop} {nx bk ct : En → Prop} {rt : Tr → En → Prop} {ex : Xc → En → Prop}
def appTP (t : Tr) (x : Rs) (e2 : En) : Option En := match x with
  | .pl i p => (getPl e2 i p).bind fun t0 => if isO e2 i then (appTO t t0).bind fun t1 => some (putPl e2 i p t1) else none
  | _ => none
theorem we_appT {f g : Ev} : WE (appT f g e) Q X = WE (f e) (fun x e1 => isL e1 x = true ∧ WE (asT g (holdR x e1)) (fun t e2 => WO (appTP t x (unholdR x e1 e2)) fun e3 => Q (.dat .none) e3) fun z e2 => X z (unholdR x e1 e2)) X := by
  unfold appT
  cases f e with
  | ok x e1 =>
    show WE (if isL e1 x then _ else .no) Q X = _
    rw [we_if, we_bnd, we_onE]
    show _ = (isL e1 x = true ∧ WE (asT g (holdR x e1)) _ _)
    cases asT g (holdR x e1) with
    | ok t e2 =>
      show (isL e1 x = true ∧ WE (appTB t x (unholdR x e1 e2)) Q X) = (isL e1 x = true ∧ WO (appTP t x (unholdR x e1 e2)) _)
      congr 1
      unfold appTB appTP
      cases x with
      | pl i p =>
        dsimp only
        cases getPl (unholdR (.pl i p) e1 e2) i p with
        | none => rfl
        | some t0 =>
          show WE (if isO _ i then _ else .no) Q X = WO (if isO _ i then _ else none) _
          split
          · cases appTO t t0 <;> rfl
          · rfl
      | _ => rfl
    | exc _ _ => rfl
    | no => rfl
  | exc _ _ => rfl
  | no => rfl
theorem wo_appTP {t : Tr} {i : Nat} {p : Pa} {K : En → Prop} : WO (appTP t (.pl i p) e) K = WO (getPl e i p) fun t0 => isO e i = true ∧ WO (appTO t t0) fun t1 => K (putPl e i p t1) := by
  show WO ((getPl e i p).bind _) K = _
  rw [wo_bind]
  cases getPl e i p with
  | none => rfl
  | some t0 =>
    show WO (if isO e i then _ else none) K = (isO e i = true ∧ WO (appTO t t0) _)
    cases isO e i with
    | true =>
      show WO ((appTO t t0).bind _) K = _
      rw [wo_bind]
      exact propext ⟨fun h => ⟨rfl, h⟩, fun h => h.2⟩
    | false => exact propext ⟨fun h => h.elim, fun h => nomatch h.1⟩
/-! a part lent to a call -/
def lentO (x : Rs) (e2 : En) : Option PyData := match x with
  | .pl i p => (getPl e2 i p).bind fun t => if isO e2 i then t.data else none
  | _ => none
def retB : Ret → Option PyData
  | .ret (.dat r) [] => if lf r then some r else none
  | _ => none
theorem we_callY {R : List Tr → Ret} {g f : Ev} : WE (callY R g f e) Q X = WE (asD g e) (fun d1 e1 => WE (f e1) (fun x e2 => WO (lentO x e2) fun d => WO (retB (R [.dat d1, .dat d])) fun r => Q (.dat r) e2) X) X := by
  unfold callY
  cases asD g e with
  | exc _ _ => rfl
  | no => rfl
  | ok d1 e1 =>
    show WE ((f e1).bnd fun x e2 => lentY R d1 x e2) Q X = WE (f e1) _ X
    cases f e1 with
    | exc _ _ => rfl
    | no => rfl
    | ok x e2 =>
      show WE (lentY R d1 x e2) Q X = WO (lentO x e2) _
      unfold lentY lentO
      cases x with
      | pl i p =>
        dsimp only
        rw [wo_bind]
        cases getPl e2 i p with
        | none => rfl
        | some t =>
          show WE (if isO e2 i then _ else .no) Q X = WO (if isO e2 i then t.data else none) _
          cases isO e2 i with
          | false => rfl
          | true =>
            show WE (match t.data with | some d => _ | none => .no) Q X = WO t.data _
            cases t.data with
            | none => rfl
            | some d =>
              show WE (match R [.dat d1, .dat d] with | .ret (.dat r) [] => if lf r then .ok (.dat r) e2 else .no | _ => .no) Q X = WO (retB (R [.dat d1, .dat d])) _
              cases R [.dat d1, .dat d] with
              | ret t os =>
                cases t with
                | dat r =>
                  cases os with
                  | nil =>
                    show WE (if lf r then .ok (.dat r) e2 else .no) Q X = WO (if lf r then some r else none) _
                    cases lf r <;> rfl
                  | cons _ _ => rfl
                | _ => rfl
              | exc x os => rfl
              | no => rfl
      | _ => rfl
theorem wo_lentO {i : Nat} {p : Pa} {K : PyData → Prop} : WO (lentO (.pl i p) e) K = WO (getPl e i p) fun t => isO e i = true ∧ WO t.data K := by
  show WO ((getPl e i p).bind _) K = _
  rw [wo_bind]
  cases getPl e i p with
  | none => rfl
  | some t =>
    show WO (if isO e i then t.data else none) K = (isO e i = true ∧ WO t.data K)
    cases isO e i with
    | true => exact propext ⟨fun h => ⟨rfl, h⟩, fun h => h.2⟩
    | false => exact propext ⟨fun h => h.elim, fun h => nomatch h.1⟩
/-! a view left where a test holds -/
theorem ws_vif {i : Nat} {js : List Nat} {t : Et} {a : Es} : WS (vifS i js t a e) (Kt.mk nx rt bk ct ex) = WE (t e) (fun c e1 => WC c (WS (a (relL (i :: js) e1)) (Kt.mk (fun _ => False) rt (fun _ => False) (fun _ => False) fun _ _ => False)) (WS (skipS e1) (Kt.mk nx rt bk ct ex))) (fun _ _ => False) := by
  unfold vifS
  cases t e with
  | ok c e1 =>
    cases c with
    | false => rfl
    | true =>
      show WS (match a (relL (i :: js) e1) with | .rt t e3 => .rt t e3 | _ => .no) _ = WS (a (relL (i :: js) e1)) _
      cases a (relL (i :: js) e1) <;> rfl
  | exc _ _ => rfl
  | no => rfl
end R

/-! if (x := e) is not None, by weakest conditions -/
namespace R
open PySem PySem.Spec PyProof.Rows L2
variable {e e1 e2 : En} {Q : Rs → En → Prop} {X : Xc → En → Prop} {nx bk ct : En → Prop} {rt : Tr → En → Prop} {ex : Xc → En → Prop}
theorem ws_ifW {i : Nat} {f : Ev} {a b : Es} : WS (ifW i f a b e) (Kt.mk nx rt bk ct ex) = WE (asT f e) (fun t e1 => WO (setN i t e1) fun e2 => WO (nonT t) fun c => WC c (WS (b e2) (Kt.mk nx rt bk ct ex)) (WS (a e2) (Kt.mk nx rt bk ct ex))) ex := by
  unfold ifW
  rw [ws_so]
  cases asT f e with
  | ok t e1 =>
    show WS (match setN i t e1 with | some e2 => (match nonT t with | some true => b e2 | some false => a e2 | none => .no) | none => .no) _ = WO (setN i t e1) _
    cases setN i t e1 with
    | none => rfl
    | some e2 =>
      show WS (match nonT t with | some true => b e2 | some false => a e2 | none => .no) _ = WO (nonT t) _
      cases nonT t with
      | none => rfl
      | some c => cases c <;> rfl
  | exc _ _ => rfl
  | no => rfl
end R

/-! A for over a new list of trees, what is frozen for a while, calls with keywords, by weakest conditions -/
namespace R
open PySem PySem.Spec PyProof.Rows L2
variable {e e1 e2 : En} {Q : Rs → En → Prop} {X : Xc → En → Prop} {nx bk ct : En → Prop} {rt : Tr → En → Prop} {ex : Xc → En → Prop}
def lstO : Tr → Option (List Tr)
  | .lst ts => some ts
  | _ => none
theorem lst2_s {as bs : List Tr} : lst2 [.lst as, .lst bs] = some (as, bs) := rfl
theorem lstO_s {ts : List Tr} : lstO (.lst ts) = some ts := rfl
theorem ws_forT {i : Nat} {f : Ev} {b : Es} : WS (forT i f b e) (Kt.mk nx rt bk ct ex) = WE (asT f e) (fun t e1 => WO (lstO t) fun ts => WS (forTF i b ts e1) (Kt.mk nx rt bk ct ex)) ex := by
  unfold forT
  rw [ws_so]
  cases asT f e with
  | ok t e1 => cases t <;> rfl
  | exc _ _ => rfl
  | no => rfl
def ro1 (a b : Bool) (d : PyData) (x : Sl) : Sl := if a then .r (.dat d) else if b then .o .un else .r x.t
theorem ro1_t {b : Bool} {d : PyData} {x : Sl} : ro1 true b d x = .r (.dat d) := rfl
theorem ro1_u {d : PyData} {x : Sl} : ro1 false true d x = .o .un := rfl
theorem ro1_f {d : PyData} {x : Sl} : ro1 false false d x = .r x.t := rfl
def roA (vs : List Nat) (k : Nat) (d : PyData) : Nat → En → En
  | _, [] => []
  | j, x :: r => ro1 (j == k) (vs.contains j) d x :: roA vs k d (j + 1) r
theorem roA_nil {vs : List Nat} {k j : Nat} {d : PyData} : roA vs k d j [] = [] := rfl
theorem roA_c {vs : List Nat} {k j : Nat} {d : PyData} {x : Sl} {r : En} : roA vs k d j (x :: r) = ro1 (j == k) (vs.contains j) d x :: roA vs k d (j + 1) r := rfl
theorem we_callK {R : List Tr → Ret} {n m : Nat} {pm : List Nat} {fs gs : List Ev} : WE (callK R n m pm fs gs e) Q X = WE (argsD fs e) (fun ds e1 => WE (argsD gs e1) (fun es e2 => WR (R ((kperm n m pm ds es).map .dat)) (fun t _ => Kw Q (mkNew t) e2) fun x _ => x.fs.isEmpty = true ∧ X x e2) X) X := by
  unfold callK
  rw [we_bnd]
  cases argsD fs e with
  | exc _ _ => rfl
  | no => rfl
  | ok ds e1 =>
    show WE ((argsD gs e1).bnd _) Q X = WE (argsD gs e1) _ X
    rw [we_bnd]
    cases argsD gs e1 with
    | exc _ _ => rfl
    | no => rfl
    | ok es e2 =>
      show WE (match R ((kperm n m pm ds es).map .dat) with | .ret t _ => .ok (mkNew t) e2 | .exc x _ => if x.fs.isEmpty then .exc x e2 else .no | .no => .no) Q X = WR (R ((kperm n m pm ds es).map .dat)) _ _
      cases R ((kperm n m pm ds es).map .dat) with
      | ret t os => rfl
      | no => rfl
      | exc x os =>
        show WE (if x.fs.isEmpty then Out.exc x e2 else .no) Q X = (x.fs.isEmpty = true ∧ X x e2)
        by_cases h : x.fs.isEmpty = true
        · rw [if_pos h]; exact propext ⟨fun z => ⟨h, z⟩, fun z => z.2⟩
        · rw [if_neg h]; exact propext ⟨fun z => z.elim, fun z => absurd z.1 h⟩
theorem we_catT {f g : Ev} : WE (catT f g e) Q X = WE (argsT [f, g] e) (fun ts e2 => WO (lst2 ts) fun p => lenOk (p.1.length + p.2.length) = true ∧ Q (.new (.lst (p.1 ++ p.2))) e2) X := by
  unfold catT
  rw [we_bnd]
  cases argsT [f, g] e with
  | exc _ _ => rfl
  | no => rfl
  | ok ts e2 =>
    show WE (match lst2 ts with | some p => if lenOk (p.1.length + p.2.length) then Out.ok (Rs.new (.lst (p.1 ++ p.2))) e2 else .no | none => .no) Q X = WO (lst2 ts) _
    cases lst2 ts with
    | none => rfl
    | some p =>
      show WE (if lenOk (p.1.length + p.2.length) then Out.ok (Rs.new (.lst (p.1 ++ p.2))) e2 else .no) Q X = (lenOk (p.1.length + p.2.length) = true ∧ Q (.new (.lst (p.1 ++ p.2))) e2)
      by_cases h : lenOk (p.1.length + p.2.length) = true
      · rw [if_pos h]; exact propext ⟨fun z => ⟨h, z⟩, fun z => z.2⟩
      · rw [if_neg h]; exact propext ⟨fun z => z.elim, fun z => absurd z.1 h⟩
theorem we_cutT1 {f : Ev} {k : Nat} : WE (cutT1 f k e) Q X = WE (asT f e) (fun t e1 => WO (lstO t) fun ts => Q (.new (.lst (ts.take k))) e1) X := by
  unfold cutT1
  rw [we_bnd]
  cases asT f e with
  | ok t e1 => cases t <;> rfl
  | exc _ _ => rfl
  | no => rfl
theorem kperm_021 {α : Type} {a b c : α} : kperm 1 2 [0, 2, 1] [a] [b, c] = [a, c, b] := rfl
end R

/-! Texts by weakest conditions -/
namespace R
open PySem PySem.Spec PyProof.Rows L2
variable {e e1 e2 : En} {Q : Rs → En → Prop} {X : Xc → En → Prop} {nx bk ct : En → Prop} {rt : Tr → En → Prop} {ex : Xc → En → Prop}
def strO : PyData → Option Str
  | .str a => some a
  | _ => none
theorem strO_s {a : Str} : strO (.str a) = some a := rfl
theorem we_mthS {o : PyData → PyData → Option Rz} {f g : Ev} : WE (mthS o f g e) Q X = WE (asD f e) (fun d e1 => WO (strO d) fun a => WE (g e1) (fun y e2 => WO (rdS e2 y) fun d2 => WO (o (.str a) d2) fun z => Q z.rs e2) X) X := by
  unfold mthS
  rw [we_bnd]
  cases asD f e with
  | exc _ _ => rfl
  | no => rfl
  | ok d e1 =>
    cases d with
    | str a =>
      show WE ((g e1).bnd _) Q X = WE (g e1) _ X
      rw [we_bnd]
      cases g e1 with
      | exc _ _ => rfl
      | no => rfl
      | ok y e2 =>
        show WE (match rdS e2 y with | some d2 => (match o (.str a) d2 with | some z => Out.ok z.rs e2 | none => .no) | none => .no) Q X = WO (rdS e2 y) _
        cases rdS e2 y with
        | none => rfl
        | some d2 =>
          show WE (match o (.str a) d2 with | some z => Out.ok z.rs e2 | none => .no) Q X = WO (o (.str a) d2) _
          cases o (.str a) d2 <;> rfl
    | _ => rfl
def agK (nx : En → Prop) (ex : Xc → En → Prop) (f : Ev) (x y : Rs) (e : En) [Hd nx] [Hd ex] : Prop := WO (rdS e y) fun d => WO (iOf d) fun j => WO (plO x) fun x => WO (rdS e x) fun d2 => WO (lOf d2) fun ds => WO (atI ds j) fun d3 => WO (strO d3) fun s => WE (asD f (holdR x e)) (fun d4 e3 => WO (strO d4) fun s2 => lenOk (s.length + s2.length) = true ∧ WO (stoO x (.dat (.str (s ++ s2))) (unholdR x e e3) j) nx) fun z e3 => ex z (unholdR x e e3)
where plO : Rs → Option Rs
  | .pl n p => some (.pl n p)
  | _ => none
theorem plO_pl {n : Nat} {p : Pa} : agK.plO (.pl n p) = some (.pl n p) := rfl
theorem agk {f : Ev} {x y : Rs} : agK nx ex f x y e = WO (rdS e y) fun d => WO (iOf d) fun j => WO (agK.plO x) fun x => WO (rdS e x) fun d2 => WO (lOf d2) fun ds => WO (atI ds j) fun d3 => WO (strO d3) fun s => WE (asD f (holdR x e)) (fun d4 e3 => WO (strO d4) fun s2 => lenOk (s.length + s2.length) = true ∧ WO (stoO x (.dat (.str (s ++ s2))) (unholdR x e e3) j) nx) fun z e3 => ex z (unholdR x e e3) := rfl
theorem ws_augJ {n : Nat} {pa : Pa} {j : Int} {s : Str} {d : PyData} : WS (augJ n pa j s d e) (Kt.mk nx rt bk ct ex) = WO (strO d) fun s2 => lenOk (s.length + s2.length) = true ∧ WO (stoO (.pl n pa) (.dat (.str (s ++ s2))) e j) nx := by
  cases d with
  | str y =>
    unfold augJ
    show WS (if lenOk (s.length + y.length) then _ else So.no) _ = (lenOk (s.length + y.length) = true ∧ WO (stoO (.pl n pa) (.dat (.str (s ++ y))) e j) nx)
    rw [wo_stoO]
    cases lenOk (s.length + y.length) with
    | false => exact propext ⟨fun h => h.elim, fun h => nomatch h.1⟩
    | true =>
      refine Eq.trans ?_ (propext ⟨fun h => ⟨rfl, h⟩, fun h => h.2⟩)
      cases getPl e n pa with
      | none => rfl
      | some t0 =>
        show WS (if isO e n then _ else So.no) _ = (isO e n = true ∧ WO (setAt t0 j (.dat (.str (s ++ y)))) _)
        cases isO e n with
        | false => exact propext ⟨fun h => h.elim, fun h => nomatch h.1⟩
        | true =>
          refine Eq.trans ?_ (propext ⟨fun h => ⟨rfl, h⟩, fun h => h.2⟩)
          cases setAt t0 j (.dat (.str (s ++ y))) <;> rfl
  | _ => rfl
theorem ws_augI {o i f : Ev} : WS (augI o i f e) (Kt.mk nx rt bk ct ex) = WE (o e) (fun x e1 => WE (i (holdR x e1)) (fun y e2 => agK nx ex f x y (unholdR x e1 e2)) fun z e2 => ex z (unholdR x e1 e2)) ex := by
  refine Eq.trans ?_ (we_two (Q := fun p e2 => agK nx ex f p.1 p.2 e2))
  unfold augI
  rw [ws_so]
  cases twoF o i e with
  | exc _ _ => rfl
  | no => rfl
  | ok p e2 =>
    obtain ⟨x, y⟩ := p
    show WS (match rdS e2 y with | some (.int j) => augK j f x e2 | _ => So.no) _ = WO (rdS e2 y) _
    cases rdS e2 y with
    | none => rfl
    | some d =>
      cases d with
      | int j =>
        show WS (augK j f x e2) _ = WO (agK.plO x) _
        cases x with
        | pl n pa =>
          unfold augK
          show WS (match rdS e2 (.pl n pa) with | some (.list ds) => _ | _ => So.no) _ = WO (rdS e2 (.pl n pa)) _
          cases rdS e2 (.pl n pa) with
          | none => rfl
          | some d2 =>
            cases d2 with
            | list ds =>
              show WS (match atI ds j with | some (.str x) => _ | _ => So.no) _ = WO (atI ds j) _
              cases atI ds j with
              | none => rfl
              | some d3 =>
                cases d3 with
                | str s =>
                  show WS (((asD f (holdR (.pl n pa) e2)).onE (unholdR (.pl n pa) e2)).so fun d e2 => augJ n pa j s d e2) _ = WE (asD f (holdR (.pl n pa) e2)) _ _
                  rw [ws_so, we_onE]
                  cases asD f (holdR (.pl n pa) e2) with
                  | exc _ _ => rfl
                  | no => rfl
                  | ok d4 e3 => exact ws_augJ
                | _ => rfl
            | _ => rfl
        | _ => rfl
      | _ => rfl
theorem we_strI {f : Ev} {Q : List PyData → En → Prop} : WE (strI f e) Q X = WE (asD f e) (fun d e1 => WO (strO d) fun z => Q (z.cps.toList.map fun c => PyData.str ⟨#[c]⟩) e1) X := by
  unfold strI
  rw [we_bnd]
  cases asD f e with
  | ok d e1 => cases d <;> rfl
  | exc _ _ => rfl
  | no => rfl
theorem big_lt {n : Int} (h : n.natAbs < 1000000) : bigB n = true := decide_eq_true (Nat.lt_trans h (Nat.lt_of_lt_of_le (show 1000000 < 2 ^ 20 by decide) (Nat.pow_le_pow_right (by decide) (by decide))))
theorem strI_int {n : Int} (h : n.natAbs < 1000000) : strIF (.int n) = some (.dat (.str (Str.ofString (toString n)))) := by
  show (if bigB n then some (Rz.dat (.str (Str.ofString (toString n)))) else none) = _
  rw [if_pos (big_lt h)]
theorem add_strs {a b : Str} (h : a.length + b.length ≤ 1000000) : addF (.str a) (.str b) = some (.dat (.str (a ++ b))) := by
  show (if lenOk (a.length + b.length) then some (Rz.dat (.str (a ++ b))) else none) = _
  exact if_pos (decide_eq_true h)
theorem ix_str {z : Str} {j : Int} {c : Nat} (hl : z.length ≤ 1000000) (h : atI z.cps.toList j = some c) : ixF (.str z) j = some (.str ⟨#[c]⟩) := by
  show (if lenOk z.length then (match atI z.cps.toList j with | some c => some (PyData.str ⟨#[c]⟩) | none => none) else none) = _
  rw [if_pos (show lenOk z.length = true from decide_eq_true hl), h]
theorem join_str {a : Str} {ys : List Str} (h : (ys.map (·.length)).sum + ys.length * a.length ≤ 1000000) : joinF (.str a) (.list (ys.map .str)) = some (.dat (.str (Txt.join a ys))) := by
  have e : ∀ {ys : List Str}, strsOf (ys.map .str) = some ys := fun {ys} => by
    induction ys with
    | nil => rfl
    | cons y ys ih => show (match strsOf (ys.map .str) with | some l => some (y :: l) | none => none) = _; rw [ih]
  show (match strsOf (ys.map .str) with | some (ys : List Str) => (if lenOk ((ys.map fun (x : Str) => x.length).sum + ys.length * a.length) then some (Rz.dat (.str (Txt.join a ys))) else none) | none => none) = _
  rw [e]
  exact if_pos (decide_eq_true h)
theorem split_str {a b : Str} (hb : (b.length == 0) = false) (h : a.length ≤ 900000) : splitF (.str a) (.str b) = some (.lst ((Txt.split a b).map .str)) := by
  show (if !(b.length == 0) && lenOk (a.length + 2) then _ else none) = _
  rw [if_pos]
  rw [hb]
  exact decide_eq_true (by omega)
theorem intS_str {a : Str} {n : Int} (h : PySem.intText? a = some n) (hl : a.length ≤ 640) : intSF (.str a) = some (.dat (.int n)) := by
  show (if decide (a.length ≤ 640) then (match PySem.intText? a with | some n => some (Rz.dat (.int n)) | none => none) else none) = _
  rw [if_pos (decide_eq_true hl), h]
end R

/-! Exceptions with a field, by weakest conditions -/
namespace R
open PySem PySem.Spec PyProof.Rows L2
variable {e e1 e2 : En} {Q : Rs → En → Prop} {X : Xc → En → Prop} {nx bk ct : En → Prop} {rt : Tr → En → Prop} {ex : Xc → En → Prop}
theorem ws_raiseF {lv : Bool} {c f : Str} {g : Ev} : WS (raiseF lv c f g e) (Kt.mk nx rt bk ct ex) = (lv = true ∧ WE (asD g e) (fun d e1 => ex ⟨c, [(f, d)]⟩ e1) ex) := by
  unfold raiseF
  cases lv with
  | false => exact propext ⟨fun h => h.elim, fun h => nomatch h.1⟩
  | true =>
    refine Eq.trans ?_ (propext ⟨fun h => ⟨rfl, h⟩, fun h => h.2⟩)
    show WS ((asD g e).so fun d e1 => .exc ⟨c, [(f, d)]⟩ e1) _ = _
    rw [ws_so]
    cases asD g e with
    | exc _ _ => rfl
    | no => rfl
    | ok d e1 => rfl
theorem xf_hit {c f : Str} {d : PyData} : xfF c f (excD c [(f, d)]) = some (.dat d) := by
  show (if c = c then (match (if f = f then some d else xfl f []) with | some d => some (Rz.dat d) | none => none) else none) = _
  rw [if_pos rfl, if_pos rfl]
end R

/-! A tuple under names; a text none or one time: by weakest conditions -/
namespace R
open PySem PySem.Spec PyProof.Rows L2
variable {e e1 e2 : En} {Q : Rs → En → Prop} {X : Xc → En → Prop} {nx bk ct : En → Prop} {rt : Tr → En → Prop} {ex : Xc → En → Prop}
def tuO : Option Sl → Option (List Tr)
  | some (.o (.tup ts)) => some ts
  | _ => none
theorem tuO_t {ts : List Tr} : tuO (some (.o (.tup ts))) = some ts := rfl
def tkO : Option Sl → Option Tr
  | some (.o t) => if isUn t then none else some t
  | _ => none
theorem tkO_own {ds : List PyData} : tkO (some (.o (.own ds))) = some (.own ds) := rfl
theorem tkO_dat {d : PyData} : tkO (some (.o (.dat d))) = some (.dat d) := rfl
theorem wp_take0 {Q : List Tr → En → Prop} : WP (takeJs e []) Q = Q [] e := rfl
theorem wp_takeC {j : Nat} {js : List Nat} {Q : List Tr → En → Prop} : WP (takeJs e (j :: js)) Q = WO (tkO e[j]?) fun t => WP (takeJs (e.set j (.o .un)) js) fun ts e2 => Q (t :: ts) e2 := by
  show WP (match e[j]? with | some (.o t) => if isUn t then none else (match takeJs (e.set j (.o .un)) js with | some p => some (t :: p.1, p.2) | none => none) | _ => none) Q = _
  cases e[j]? with
  | none => rfl
  | some x =>
    cases x with
    | r t => rfl
    | o t =>
      show WP (if isUn t then none else (match takeJs (e.set j (.o .un)) js with | some p => some (t :: p.1, p.2) | none => none)) Q = WO (if isUn t then none else some t) _
      cases isUn t with
      | true => rfl
      | false =>
        show WP (match takeJs (e.set j (.o .un)) js with | some p => some (t :: p.1, p.2) | none => none) Q = WP (takeJs (e.set j (.o .un)) js) _
        cases takeJs (e.set j (.o .un)) js with
        | none => rfl
        | some p => rfl
theorem wo_backJ {i : Nat} {js : List Nat} {Q : En → Prop} : WO (backJ i js e) Q = WP (takeJs e js) fun us e2 => WO (setN i (.tup us) e2) Q := by
  unfold backJ
  cases takeJs e js <;> rfl
theorem ws_backS {i : Nat} {js : List Nat} {o : So} : WS (backS i js o) (Kt.mk nx rt bk ct ex) = WS o (Kt.mk (fun e => WO (backJ i js e) nx) (fun t e => WO (backJ i js e) (rt t)) (fun e => WO (backJ i js e) bk) (fun e => WO (backJ i js e) ct) (fun x e => WO (backJ i js e) (ex x))) := by
  cases o with
  | no => rfl
  | nx e => show WS (match backJ i js e with | some e2 => So.nx e2 | none => .no) _ = WO (backJ i js e) _; cases backJ i js e <;> rfl
  | bk e => show WS (match backJ i js e with | some e2 => So.bk e2 | none => .no) _ = WO (backJ i js e) _; cases backJ i js e <;> rfl
  | ct e => show WS (match backJ i js e with | some e2 => So.ct e2 | none => .no) _ = WO (backJ i js e) _; cases backJ i js e <;> rfl
  | rt t e => show WS (match backJ i js e with | some e2 => So.rt t e2 | none => .no) _ = WO (backJ i js e) _; cases backJ i js e <;> rfl
  | exc x e => show WS (match backJ i js e with | some e2 => So.exc x e2 | none => .no) _ = WO (backJ i js e) _; cases backJ i js e <;> rfl
theorem ws_viewS {i : Nat} {gs : Tgs} {f : Es} : WS (viewS i gs f e) (Kt.mk nx rt bk ct ex) = WO (tuO e[i]?) fun ts => noUn ts = true ∧ WO (bindT gs ts (e.set i (.o .un))) fun e1 => WS (f e1) (Kt.mk (fun e => WO (backJ i gs.ns e) nx) (fun t e => WO (backJ i gs.ns e) (rt t)) (fun e => WO (backJ i gs.ns e) bk) (fun e => WO (backJ i gs.ns e) ct) (fun x e => WO (backJ i gs.ns e) (ex x))) := by
  unfold viewS
  cases e[i]? with
  | none => rfl
  | some x =>
    cases x with
    | r t => rfl
    | o t =>
      cases t with
      | tup ts =>
        show WS (if noUn ts then (match bindT gs ts (e.set i (.o .un)) with | some e1 => backS i gs.ns (f e1) | none => .no) else .no) _ = (noUn ts = true ∧ _)
        cases noUn ts with
        | false => exact propext ⟨fun h => h.elim, fun h => nomatch h.1⟩
        | true =>
          refine Eq.trans ?_ (propext ⟨fun h => ⟨rfl, h⟩, fun h => h.2⟩)
          show WS (match bindT gs ts (e.set i (.o .un)) with | some e1 => backS i gs.ns (f e1) | none => .no) _ = WO (bindT gs ts (e.set i (.o .un))) _
          cases bindT gs ts (e.set i (.o .un)) with
          | none => rfl
          | some e1 => exact ws_backS
      | _ => rfl
theorem noUn_nil : noUn [] = true := rfl
theorem noUn_c {t : Tr} {ts : List Tr} : noUn (t :: ts) = (!isUn t && noUn ts) := rfl
theorem mulS_0 {a : Str} : mulSF (.str a) (.int 0) = some (.dat (.str Str.empty)) := rfl
theorem mulS_1 {a : Str} : mulSF (.str a) (.int 1) = some (.dat (.str a)) := rfl
end R

namespace R
open PySem PySem.Spec PyProof.Rows L2
open Evl (Ex)
def topS (i : Nat) : Stmt := PySem.Challenge.pw_duepairs_k63_texts_of_no_lines.main.body.getD i (.Pass ⟨0, 0, 0, 0⟩)
inductive Fi where
  | number_read
  | whole_read
  | part_read
  | statement_read
  | reason_read
  | line_read
  | read_lines
  | _law_mixed
  | _law_pile
  | _law_take
  | _law_whole
  | _law_flags
  | _law_error
  | _law_drawn_number
  | _law_drawn_line
  | _law_line_text
  | _law_lines_text
  | _law_number
  | _law_part
  | _law_why_read
  | _law_line_read
  | _law_read
  | _law_answer
  | _law_bent
  | NoText___init__
  | law
abbrev s_number_read : Stmt := topS 20
abbrev N_number_read : List Str := ["word", "figure"]
theorem sc_number_read : FnScope N_number_read ["word"] (defScope s_number_read) := ⟨rfl, rfl, rfl, by decide +kernel, rfl, by decide +kernel, by decide +kernel⟩
abbrev s_whole_read : Stmt := topS 21
abbrev N_whole_read : List Str := ["word", "found"]
theorem sc_whole_read : FnScope N_whole_read ["word"] (defScope s_whole_read) := ⟨rfl, rfl, rfl, by decide +kernel, rfl, by decide +kernel, by decide +kernel⟩
abbrev s_part_read : Stmt := topS 22
abbrev N_part_read : List Str := ["word", "sides", "first", "second"]
theorem sc_part_read : FnScope N_part_read ["word"] (defScope s_part_read) := ⟨rfl, rfl, rfl, by decide +kernel, rfl, by decide +kernel, by decide +kernel⟩
abbrev s_statement_read : Stmt := topS 23
abbrev N_statement_read : List Str := ["words", "task", "hour"]
theorem sc_statement_read : FnScope N_statement_read ["words"] (defScope s_statement_read) := ⟨rfl, rfl, rfl, by decide +kernel, rfl, by decide +kernel, by decide +kernel⟩
abbrev s_reason_read : Stmt := topS 24
abbrev N_reason_read : List Str := ["words", "count", "numbers", "parts", "word"]
theorem sc_reason_read : FnScope N_reason_read ["words"] (defScope s_reason_read) := ⟨rfl, rfl, rfl, by decide +kernel, rfl, by decide +kernel, by decide +kernel⟩
abbrev s_line_read : Stmt := topS 25
abbrev N_line_read : List Str := ["number", "row", "words", "found", "reason"]
theorem sc_line_read : FnScope N_line_read ["number", "row"] (defScope s_line_read) := ⟨rfl, rfl, rfl, by decide +kernel, rfl, by decide +kernel, by decide +kernel⟩
abbrev s_read_lines : Stmt := topS 26
abbrev N_read_lines : List Str := ["text", "found", "number", "row", "line"]
theorem sc_read_lines : FnScope N_read_lines ["text"] (defScope s_read_lines) := ⟨rfl, rfl, rfl, by decide +kernel, rfl, by decide +kernel, by decide +kernel⟩
abbrev s__law_mixed : Stmt := topS 28
abbrev N__law_mixed : List Str := ["_law_cell", "_law_k", "_law_number_here"]
theorem sc__law_mixed : FnScope N__law_mixed ["_law_cell", "_law_k"] (defScope s__law_mixed) := ⟨rfl, rfl, rfl, by decide +kernel, rfl, by decide +kernel, by decide +kernel⟩
abbrev s__law_pile : Stmt := topS 29
abbrev N__law_pile : List Str := ["_law_script", "_law_k", "_law_cell", "_law_found", "_law_j"]
theorem sc__law_pile : FnScope N__law_pile ["_law_script", "_law_k"] (defScope s__law_pile) := ⟨rfl, rfl, rfl, by decide +kernel, rfl, by decide +kernel, by decide +kernel⟩
abbrev s__law_take : Stmt := topS 30
abbrev N__law_take : List Str := ["_law_pile_here", "_law_size", "_law_digit"]
theorem sc__law_take : FnScope N__law_take ["_law_pile_here", "_law_size"] (defScope s__law_take) := ⟨rfl, rfl, rfl, by decide +kernel, rfl, by decide +kernel, by decide +kernel⟩
abbrev s__law_whole : Stmt := topS 31
abbrev N__law_whole : List Str := ["_law_thing"]
theorem sc__law_whole : FnScope N__law_whole ["_law_thing"] (defScope s__law_whole) := ⟨rfl, rfl, rfl, by decide +kernel, rfl, by decide +kernel, by decide +kernel⟩
abbrev s__law_flags : Stmt := topS 32
abbrev N__law_flags : List Str := ["_law_caught", "_law_flags_here"]
theorem sc__law_flags : FnScope N__law_flags ["_law_caught"] (defScope s__law_flags) := ⟨rfl, rfl, rfl, by decide +kernel, rfl, by decide +kernel, by decide +kernel⟩
abbrev s__law_error : Stmt := topS 33
abbrev N__law_error : List Str := ["_law_caught", "_law_flags_here", "_law_names"]
theorem sc__law_error : FnScope N__law_error ["_law_caught"] (defScope s__law_error) := ⟨rfl, rfl, rfl, by decide +kernel, rfl, by decide +kernel, by decide +kernel⟩
abbrev s__law_drawn_number : Stmt := topS 34
abbrev N__law_drawn_number : List Str := ["_law_pile_here", "_law_number_here"]
theorem sc__law_drawn_number : FnScope N__law_drawn_number ["_law_pile_here"] (defScope s__law_drawn_number) := ⟨rfl, rfl, rfl, by decide +kernel, rfl, by decide +kernel, by decide +kernel⟩
abbrev s__law_drawn_line : Stmt := topS 35
abbrev N__law_drawn_line : List Str := ["_law_pile_here", "_law_t", "_law_made", "_law_i", "_law_parts", "_law_k", "_law_s", "_law_e", "_law_why"]
theorem sc__law_drawn_line : FnScope N__law_drawn_line ["_law_pile_here"] (defScope s__law_drawn_line) := ⟨rfl, rfl, rfl, by decide +kernel, rfl, by decide +kernel, by decide +kernel⟩
abbrev s__law_line_text : Stmt := topS 36
abbrev N__law_line_text : List Str := ["_law_number_here", "_law_line", "_law_made", "_law_why", "_law_words", "_law_one", "_law_first", "_law_second"]
theorem sc__law_line_text : FnScope N__law_line_text ["_law_number_here", "_law_line"] (defScope s__law_line_text) := ⟨rfl, rfl, rfl, by decide +kernel, rfl, by decide +kernel, by decide +kernel⟩
abbrev s__law_lines_text : Stmt := topS 37
abbrev N__law_lines_text : List Str := ["_law_lines", "_law_k"]
theorem sc__law_lines_text : FnScope N__law_lines_text ["_law_lines"] (defScope s__law_lines_text) := ⟨rfl, rfl, rfl, by decide +kernel, rfl, by decide +kernel, by decide +kernel⟩
abbrev s__law_number : Stmt := topS 38
abbrev N__law_number : List Str := ["_law_word", "_law_low", "_law_figures", "_law_sign"]
theorem sc__law_number : FnScope N__law_number ["_law_word", "_law_low"] (defScope s__law_number) := ⟨rfl, rfl, rfl, by decide +kernel, rfl, by decide +kernel, by decide +kernel⟩
abbrev s__law_part : Stmt := topS 39
abbrev N__law_part : List Str := ["_law_word", "_law_sides", "_law_first", "_law_second"]
theorem sc__law_part : FnScope N__law_part ["_law_word"] (defScope s__law_part) := ⟨rfl, rfl, rfl, by decide +kernel, rfl, by decide +kernel, by decide +kernel⟩
abbrev s__law_why_read : Stmt := topS 40
abbrev N__law_why_read : List Str := ["_law_words", "_law_number_here", "_law_many", "_law_numbers", "_law_parts", "_law_word"]
theorem sc__law_why_read : FnScope N__law_why_read ["_law_words"] (defScope s__law_why_read) := ⟨rfl, rfl, rfl, by decide +kernel, rfl, by decide +kernel, by decide +kernel⟩
abbrev s__law_line_read : Stmt := topS 41
abbrev N__law_line_read : List Str := ["_law_number_here", "_law_row", "_law_words", "_law_made", "_law_rest", "_law_why"]
theorem sc__law_line_read : FnScope N__law_line_read ["_law_number_here", "_law_row"] (defScope s__law_line_read) := ⟨rfl, rfl, rfl, by decide +kernel, rfl, by decide +kernel, by decide +kernel⟩
abbrev s__law_read : Stmt := topS 42
abbrev N__law_read : List Str := ["_law_text", "_law_found", "_law_rows", "_law_k", "_law_line"]
theorem sc__law_read : FnScope N__law_read ["_law_text"] (defScope s__law_read) := ⟨rfl, rfl, rfl, by decide +kernel, rfl, by decide +kernel, by decide +kernel⟩
abbrev s__law_answer : Stmt := topS 43
abbrev N__law_answer : List Str := ["_law_text", "_law_caught", "_law_found", "_law_e"]
theorem sc__law_answer : FnScope N__law_answer ["_law_text"] (defScope s__law_answer) := ⟨rfl, rfl, rfl, by decide +kernel, rfl, by decide +kernel, by decide +kernel⟩
abbrev s__law_bent : Stmt := topS 44
abbrev N__law_bent : List Str := ["_law_pile_here", "_law_text", "_law_way", "_law_at", "_law_signs", "_law_sign", "_law_rows", "_law_one", "_law_other", "_law_words", "_law_spot", "_law_odd"]
theorem sc__law_bent : FnScope N__law_bent ["_law_pile_here", "_law_text"] (defScope s__law_bent) := ⟨rfl, rfl, rfl, by decide +kernel, rfl, by decide +kernel, by decide +kernel⟩
abbrev s_NoText___init__ : Stmt := inClass (topS 15) 0
abbrev N_NoText___init__ : List Str := ["self", "line"]
theorem sc_NoText___init__ : FnScope N_NoText___init__ ["self", "line"] (defScope s_NoText___init__) := ⟨rfl, rfl, rfl, by decide +kernel, rfl, by decide +kernel, by decide +kernel⟩
abbrev s_law : Stmt := topS 45
abbrev N_law : List Str := ["_law_script", "_law_k", "_law_pile_here", "_law_text", "_law_turn", "_law_bent_here", "_law_some", "_law_odd", "_law_j"]
theorem sc_law : FnScope N_law ["_law_script"] (defScope s_law) := ⟨rfl, rfl, rfl, by decide +kernel, rfl, by decide +kernel, by decide +kernel⟩
@[reducible] def nmF : Fi → Str
  | .number_read => "number_read"
  | .whole_read => "whole_read"
  | .part_read => "part_read"
  | .statement_read => "statement_read"
  | .reason_read => "reason_read"
  | .line_read => "line_read"
  | .read_lines => "read_lines"
  | ._law_mixed => "_law_mixed"
  | ._law_pile => "_law_pile"
  | ._law_take => "_law_take"
  | ._law_whole => "_law_whole"
  | ._law_flags => "_law_flags"
  | ._law_error => "_law_error"
  | ._law_drawn_number => "_law_drawn_number"
  | ._law_drawn_line => "_law_drawn_line"
  | ._law_line_text => "_law_line_text"
  | ._law_lines_text => "_law_lines_text"
  | ._law_number => "_law_number"
  | ._law_part => "_law_part"
  | ._law_why_read => "_law_why_read"
  | ._law_line_read => "_law_line_read"
  | ._law_read => "_law_read"
  | ._law_answer => "_law_answer"
  | ._law_bent => "_law_bent"
  | .NoText___init__ => "__init__"
  | .law => "law"
@[reducible] def qlF : Fi → Str
  | .number_read => "number_read"
  | .whole_read => "whole_read"
  | .part_read => "part_read"
  | .statement_read => "statement_read"
  | .reason_read => "reason_read"
  | .line_read => "line_read"
  | .read_lines => "read_lines"
  | ._law_mixed => "_law_mixed"
  | ._law_pile => "_law_pile"
  | ._law_take => "_law_take"
  | ._law_whole => "_law_whole"
  | ._law_flags => "_law_flags"
  | ._law_error => "_law_error"
  | ._law_drawn_number => "_law_drawn_number"
  | ._law_drawn_line => "_law_drawn_line"
  | ._law_line_text => "_law_line_text"
  | ._law_lines_text => "_law_lines_text"
  | ._law_number => "_law_number"
  | ._law_part => "_law_part"
  | ._law_why_read => "_law_why_read"
  | ._law_line_read => "_law_line_read"
  | ._law_read => "_law_read"
  | ._law_answer => "_law_answer"
  | ._law_bent => "_law_bent"
  | .NoText___init__ => "NoText.__init__"
  | .law => "law"
@[reducible] def glF : Fi → Bool
  | .number_read => true
  | .whole_read => true
  | .part_read => true
  | .statement_read => true
  | .reason_read => true
  | .line_read => true
  | .read_lines => true
  | ._law_mixed => true
  | ._law_pile => true
  | ._law_take => true
  | ._law_whole => true
  | ._law_flags => true
  | ._law_error => true
  | ._law_drawn_number => true
  | ._law_drawn_line => true
  | ._law_line_text => true
  | ._law_lines_text => true
  | ._law_number => true
  | ._law_part => true
  | ._law_why_read => true
  | ._law_line_read => true
  | ._law_read => true
  | ._law_answer => true
  | ._law_bent => true
  | .NoText___init__ => false
  | .law => true
@[reducible] def atF : Fi → Str × Option Str
  | .number_read => ("number_read", none)
  | .whole_read => ("whole_read", none)
  | .part_read => ("part_read", none)
  | .statement_read => ("statement_read", none)
  | .reason_read => ("reason_read", none)
  | .line_read => ("line_read", none)
  | .read_lines => ("read_lines", none)
  | ._law_mixed => ("_law_mixed", none)
  | ._law_pile => ("_law_pile", none)
  | ._law_take => ("_law_take", none)
  | ._law_whole => ("_law_whole", none)
  | ._law_flags => ("_law_flags", none)
  | ._law_error => ("_law_error", none)
  | ._law_drawn_number => ("_law_drawn_number", none)
  | ._law_drawn_line => ("_law_drawn_line", none)
  | ._law_line_text => ("_law_line_text", none)
  | ._law_lines_text => ("_law_lines_text", none)
  | ._law_number => ("_law_number", none)
  | ._law_part => ("_law_part", none)
  | ._law_why_read => ("_law_why_read", none)
  | ._law_line_read => ("_law_line_read", none)
  | ._law_read => ("_law_read", none)
  | ._law_answer => ("_law_answer", none)
  | ._law_bent => ("_law_bent", none)
  | .NoText___init__ => ("NoText", some "__init__")
  | .law => ("law", none)
@[reducible] def stF : Fi → Stmt
  | .number_read => s_number_read
  | .whole_read => s_whole_read
  | .part_read => s_part_read
  | .statement_read => s_statement_read
  | .reason_read => s_reason_read
  | .line_read => s_line_read
  | .read_lines => s_read_lines
  | ._law_mixed => s__law_mixed
  | ._law_pile => s__law_pile
  | ._law_take => s__law_take
  | ._law_whole => s__law_whole
  | ._law_flags => s__law_flags
  | ._law_error => s__law_error
  | ._law_drawn_number => s__law_drawn_number
  | ._law_drawn_line => s__law_drawn_line
  | ._law_line_text => s__law_line_text
  | ._law_lines_text => s__law_lines_text
  | ._law_number => s__law_number
  | ._law_part => s__law_part
  | ._law_why_read => s__law_why_read
  | ._law_line_read => s__law_line_read
  | ._law_read => s__law_read
  | ._law_answer => s__law_answer
  | ._law_bent => s__law_bent
  | .NoText___init__ => s_NoText___init__
  | .law => s_law
@[reducible] def psF : Fi → List Str
  | .number_read => ["word"]
  | .whole_read => ["word"]
  | .part_read => ["word"]
  | .statement_read => ["words"]
  | .reason_read => ["words"]
  | .line_read => ["number", "row"]
  | .read_lines => ["text"]
  | ._law_mixed => ["_law_cell", "_law_k"]
  | ._law_pile => ["_law_script", "_law_k"]
  | ._law_take => ["_law_pile_here", "_law_size"]
  | ._law_whole => ["_law_thing"]
  | ._law_flags => ["_law_caught"]
  | ._law_error => ["_law_caught"]
  | ._law_drawn_number => ["_law_pile_here"]
  | ._law_drawn_line => ["_law_pile_here"]
  | ._law_line_text => ["_law_number_here", "_law_line"]
  | ._law_lines_text => ["_law_lines"]
  | ._law_number => ["_law_word", "_law_low"]
  | ._law_part => ["_law_word"]
  | ._law_why_read => ["_law_words"]
  | ._law_line_read => ["_law_number_here", "_law_row"]
  | ._law_read => ["_law_text"]
  | ._law_answer => ["_law_text"]
  | ._law_bent => ["_law_pile_here", "_law_text"]
  | .NoText___init__ => ["self", "line"]
  | .law => ["_law_script"]
@[reducible] def msF : Fi → List Nat
  | .number_read => []
  | .whole_read => []
  | .part_read => []
  | .statement_read => []
  | .reason_read => []
  | .line_read => []
  | .read_lines => []
  | ._law_mixed => []
  | ._law_pile => [0]
  | ._law_take => [0]
  | ._law_whole => []
  | ._law_flags => []
  | ._law_error => []
  | ._law_drawn_number => [0]
  | ._law_drawn_line => [0]
  | ._law_line_text => []
  | ._law_lines_text => []
  | ._law_number => []
  | ._law_part => []
  | ._law_why_read => []
  | ._law_line_read => []
  | ._law_read => []
  | ._law_answer => []
  | ._law_bent => [0]
  | .NoText___init__ => [0]
  | .law => [0]
structure Ad where
  f : Fi → Addr
  d : Fi → FuncData
  k_FIGURES : Tok
def tab_SIGNS : Tab := [("free", .str ">="), ("due", .str "<=")]
def tab_COUNTS : Tab := [("given", .int 0), ("later", .int 1), ("sooner", .int 1), ("full", .int 2), ("weaker", .int 1)]
def tabT_JobError : List (Str × Bool) := [("NoText", true)]
def tabK_NoHour : List (Str × Bool) := [("NoText", false)]
def tabK_NoTask : List (Str × Bool) := [("NoText", false)]
def tabK_NoJob : List (Str × Bool) := [("NoText", false)]
def tabK_NotNarrow : List (Str × Bool) := [("NoText", false)]
def tabK_NoStatement : List (Str × Bool) := [("NoText", false)]
def tabK_NoHours : List (Str × Bool) := [("NoText", false)]
def tabK_BadNeed : List (Str × Bool) := [("NoText", false)]
def tabK_NoRooms : List (Str × Bool) := [("NoText", false)]
def tabK_NoPlan : List (Str × Bool) := [("NoText", false)]
def tabK_NoDeeds : List (Str × Bool) := [("NoText", false)]
def tabK_Unlike : List (Str × Bool) := [("NoText", false)]
def tabK_NoText : List (Str × Bool) := [("NoText", true)]
def tabK_NoOrder : List (Str × Bool) := [("NoText", false)]
def tabK_BadDeed : List (Str × Bool) := [("NoText", false)]
def tabK_ValueError : List (Str × Bool) := [("NoText", true)]
def tabK_JobError : List (Str × Bool) := [("NoText", true)]
structure Txt (K : PySem.W.Frag) (w : World) (mg : Str → Option Value) (A : Ad) (cl : Str → Addr) : Prop where
  F : ∀ i, FnP K (nmF i) (qlF i) (stF i) (A.f i) (A.d i)
  g : ∀ i, glF i = true → mg (nmF i) = some (.ref (A.f i))
  b : ∀ i, Binds K (A.d i) (psF i) []
  c_FIGURES : mg "FIGURES" = some (.str "0123456789" A.k_FIGURES)
  gd_SIGNS : mg "SIGNS" = some (.ref (cl "SIGNS"))
  kd_SIGNS : KTab K w (cl "SIGNS") tab_SIGNS
  gd_COUNTS : mg "COUNTS" = some (.ref (cl "COUNTS"))
  kd_COUNTS : KTab K w (cl "COUNTS") tab_COUNTS
  m_ValueError : mg "ValueError" = none
  m_abs : mg "abs" = none
  m_all : mg "all" = none
  m_bool : mg "bool" = none
  m_enumerate : mg "enumerate" = none
  m_int : mg "int" = none
  m_isinstance : mg "isinstance" = none
  m_len : mg "len" = none
  m_max : mg "max" = none
  m_min : mg "min" = none
  m_range : mg "range" = none
  m_repr : mg "repr" = none
  m_str : mg "str" = none
  m_tuple : mg "tuple" = none
  gx_JobError : mg "JobError" = some (.ref (cl "JobError"))
  gx_NoJob : mg "NoJob" = some (.ref (cl "NoJob"))
  gx_NoTask : mg "NoTask" = some (.ref (cl "NoTask"))
  gx_NoHour : mg "NoHour" = some (.ref (cl "NoHour"))
  gx_NoHours : mg "NoHours" = some (.ref (cl "NoHours"))
  gx_NoOrder : mg "NoOrder" = some (.ref (cl "NoOrder"))
  gx_NoStatement : mg "NoStatement" = some (.ref (cl "NoStatement"))
  gx_NotNarrow : mg "NotNarrow" = some (.ref (cl "NotNarrow"))
  gx_NoPlan : mg "NoPlan" = some (.ref (cl "NoPlan"))
  gx_Unlike : mg "Unlike" = some (.ref (cl "Unlike"))
  gx_NoRooms : mg "NoRooms" = some (.ref (cl "NoRooms"))
  gx_NoDeeds : mg "NoDeeds" = some (.ref (cl "NoDeeds"))
  gx_BadNeed : mg "BadNeed" = some (.ref (cl "BadNeed"))
  gx_BadDeed : mg "BadDeed" = some (.ref (cl "BadDeed"))
  gx_NoText : mg "NoText" = some (.ref (cl "NoText"))
  xo_NoText : OexI K (cl "NoText") (A.f .NoText___init__)
  xn_NoText : PySem.W.findIn K (.ref (cl "NoText")) "line" = some none
  xt_JobError : TabOk K cl "JobError" tabT_JobError
  xk_NoHour : KitOk K cl (.ref (cl "NoHour")) tabK_NoHour
  xk_NoTask : KitOk K cl (.ref (cl "NoTask")) tabK_NoTask
  xk_NoJob : KitOk K cl (.ref (cl "NoJob")) tabK_NoJob
  xk_NotNarrow : KitOk K cl (.ref (cl "NotNarrow")) tabK_NotNarrow
  xk_NoStatement : KitOk K cl (.ref (cl "NoStatement")) tabK_NoStatement
  xk_NoHours : KitOk K cl (.ref (cl "NoHours")) tabK_NoHours
  xk_BadNeed : KitOk K cl (.ref (cl "BadNeed")) tabK_BadNeed
  xk_NoRooms : KitOk K cl (.ref (cl "NoRooms")) tabK_NoRooms
  xk_NoPlan : KitOk K cl (.ref (cl "NoPlan")) tabK_NoPlan
  xk_NoDeeds : KitOk K cl (.ref (cl "NoDeeds")) tabK_NoDeeds
  xk_Unlike : KitOk K cl (.ref (cl "Unlike")) tabK_Unlike
  xk_NoText : KitOk K cl (.ref (cl "NoText")) tabK_NoText
  xk_NoOrder : KitOk K cl (.ref (cl "NoOrder")) tabK_NoOrder
  xk_BadDeed : KitOk K cl (.ref (cl "BadDeed")) tabK_BadDeed
  xk_ValueError : KitOk K cl (.type "ValueError") tabK_ValueError
  xk_JobError : KitOk K cl (.ref (cl "JobError")) tabK_JobError
def b_number_read (wf : Nat) (Φ : Fi → List Tr → Ret) : Es := (seqS (ifS (orT (asB (op2D eqF (varV 0) (cstV (.str "")))) (orT (notT (asB (op1 allF (lcD [1] (.name 1) (strI (varV 0)) yesT (op2 inSF (varV 1) (cstV (.str "0123456789"))))))) (andT (asB (op2D eqF (ixV (varV 0) (cstV (.int 0))) (cstV (.str "0")))) (asB (op2D neF (varV 0) (cstV (.str "0"))))))) (retS (cstV .none)) skipS)
    (retS (op1 intSF (varV 0))))
def b_whole_read (wf : Nat) (Φ : Fi → List Tr → Ret) : Es := (seqS (ifS (andT (asB (op2D eqF (slcV (varV 0) none (some (cstV (.int 1)))) (cstV (.str "-")))) (asB (op2D neF (varV 0) (cstV (.str "-0"))))) (seqS (asgS 1 (callV (Φ .number_read) [.d (slcV (varV 0) (some (cstV (.int 1))) none)]))
    (retS (ifeV (asB (op1 isNF (varV 1))) (cstV .none) (op2 subF (cstV (.int 0)) (varV 1))))) skipS)
    (retS (callV (Φ .number_read) [.d (varV 0)])))
def b_part_read (wf : Nat) (Φ : Fi → List Tr → Ret) : Es := (seqS (asgS 1 (mthS splitF (slcV (varV 0) (some (cstV (.int 1))) (some (op1 negF (cstV (.int 1))))) (cstV (.str ","))))
    (seqS (ifS (orT (asB (op2D neF (slcV (varV 0) none (some (cstV (.int 1)))) (cstV (.str "(")))) (orT (asB (op2D neF (slcV (varV 0) (some (op1 negF (cstV (.int 1)))) none) (cstV (.str ")")))) (asB (op2D neF (lenV (varV 1)) (cstV (.int 2)))))) (retS (cstV .none)) skipS)
    (seqS (asgS 2 (callV (Φ .number_read) [.d (ixV (varV 1) (cstV (.int 0)))]))
    (seqS (asgS 3 (callV (Φ .number_read) [.d (ixV (varV 1) (cstV (.int 1)))]))
    (seqS (ifS (orT (asB (op1 isNF (varV 2))) (andT (asB (op1 isNF (varV 3))) (asB (op2D neF (ixV (varV 1) (cstV (.int 1))) (cstV (.str "")))))) (retS (cstV .none)) skipS)
    (retS (tupV [(mvV [] (varV 2)), (mvV [] (varV 3))])))))))
def b_statement_read (wf : Nat) (Φ : Fi → List Tr → Ret) : Es := (seqS (ifS (asB (op2D eqF (slcV (varV 0) none (some (cstV (.int 1)))) (lstV [(cstV (.str "none"))]))) (retS (tupV [(tupV [(cstV (.str "none"))]), (cstV (.int 1))])) skipS)
    (seqS (ifS (orT (asB (op2 ltF (lenV (varV 0)) (cstV (.int 4)))) (orT (asB (op1 (kinF true tab_SIGNS) (ixV (varV 0) (cstV (.int 0))))) (asB (op2D neF (ixV (varV 0) (cstV (.int 2))) (op1 (kgetF tab_SIGNS) (ixV (varV 0) (cstV (.int 0)))))))) (retS (cstV .none)) skipS)
    (seqS (asgS 1 (callV (Φ .number_read) [.d (ixV (varV 0) (cstV (.int 1)))]))
    (seqS (asgS 2 (callV (Φ .whole_read) [.d (ixV (varV 0) (cstV (.int 3)))]))
    (seqS (ifS (orT (asB (op1 isNF (varV 1))) (asB (op1 isNF (varV 2)))) (retS (cstV .none)) skipS)
    (retS (tupV [(tupV [(ixV (varV 0) (cstV (.int 0))), (mvV [] (varV 1)), (mvV [] (varV 2))]), (cstV (.int 4))])))))))
def b_reason_read (wf : Nat) (Φ : Fi → List Tr → Ret) : Es := (seqS (ifS (orT (asB (op2D eqF (lenV (varV 0)) (cstV (.int 0)))) (asB (op1 (kinF true tab_COUNTS) (ixV (varV 0) (cstV (.int 0)))))) (retS (cstV .none)) skipS)
    (seqS (asgS 1 (op1 (kgetF tab_COUNTS) (ixV (varV 0) (cstV (.int 0)))))
    (seqS (asgS 2 (lcD [4] (.name 4) (seqI (slcV (varV 0) (some (cstV (.int 1))) (some (op2 addF (cstV (.int 1)) (varV 1))))) yesT (callV (Φ .whole_read) [.d (varV 4)])))
    (seqS (asgS 3 (lcD [4] (.name 4) (seqI (slcV (varV 0) (some (op2 addF (cstV (.int 1)) (varV 1))) none)) yesT (callV (Φ .part_read) [.d (varV 4)])))
    (seqS (ifS (orT (asB (op2 ltF (lenV (varV 2)) (varV 1))) (orT (asB (op2D inF (cstV .none) (varV 2))) (asB (op2D inF (cstV .none) (varV 3))))) (retS (cstV .none)) skipS)
    (seqS (ifS (orT (andT (asB (op2D inF (ixV (varV 0) (cstV (.int 0))) (tupV [(cstV (.str "later")), (cstV (.str "weaker"))]))) (asB (op2 ltF (ixV (varV 2) (cstV (.int 0))) (cstV (.int 0))))) (andT (asB (op2D niF (ixV (varV 0) (cstV (.int 0))) (tupV [(cstV (.str "sooner")), (cstV (.str "full"))]))) (asB (op2D neF (varV 3) (lstV []))))) (retS (cstV .none)) skipS)
    (seqS (ifS (asB (op2D inF (ixV (varV 0) (cstV (.int 0))) (tupV [(cstV (.str "sooner")), (cstV (.str "full"))]))) (retS (op2 addF (op2 addF (tupV [(ixV (varV 0) (cstV (.int 0)))]) (tupleV (varV 2))) (tupV [(tupleV (varV 3))]))) skipS)
    (retS (op2 addF (tupV [(ixV (varV 0) (cstV (.int 0)))]) (tupleV (varV 2)))))))))))
def b_line_read (wf : Nat) (Φ : Fi → List Tr → Ret) : Es := (seqS (asgS 2 (mthS splitF (varV 1) (cstV (.str " "))))
    (seqS (ifS (asB (op2D neF (ixV (varV 2) (cstV (.int 0))) (op2 addF (op1 strIF (varV 0)) (cstV (.str ":"))))) (retS (cstV .none)) skipS)
    (seqS (asgS 3 (callV (Φ .statement_read) [.d (slcV (varV 2) (some (cstV (.int 1))) none)]))
    (seqS (ifS (asB (op1 isNF (varV 3))) (retS (cstV .none)) skipS)
    (seqS (asgS 4 (callV (Φ .reason_read) [.d (slcV (varV 2) (some (op2 addF (cstV (.int 1)) (ixV (varV 3) (cstV (.int 1))))) none)]))
    (seqS (ifS (asB (op1 isNF (varV 4))) (retS (cstV .none)) skipS)
    (retS (tupV [(ixV (varV 3) (cstV (.int 0))), (mvV [] (varV 4))]))))))))
def b_read_lines (wf : Nat) (Φ : Fi → List Tr → Ret) : Es := (seqS (asgS 1 (lstV []))
    (seqS (ifS (asB (op2D eqF (varV 0) (cstV (.str "")))) (retS (mvV [] (varV 1))) skipS)
    (seqS (forS (.tup (.cons (.name 2) (.cons (.name 3) .nil))) (enumI (mthS splitF (varV 0) (cstV (.str "\n")))) (seqS (asgS 4 (callV (Φ .line_read) [.d (varV 2), .d (varV 3)]))
    (seqS (ifS (asB (op1 isNF (varV 4))) (raiseF (lvB Φ ._law_whole) "NoText" "line" (op2 addF (varV 2) (cstV (.int 1)))) skipS)
    (exprS (mthV .append (varV 1) [(varV 4)])))))
    (retS (mvV [] (varV 1))))))
def b__law_mixed (wf : Nat) (Φ : Fi → List Tr → Ret) : Es := (seqS (asgS 2 (op2 modF (op1 intF (op2 addF (op2 addF (op2 mulF (op2 modF (op1 intF (varV 0)) (cstV (.int 2147483647))) (cstV (.int 48271))) (op2 mulF (varV 1) (cstV (.int 69621)))) (cstV (.int 1048583)))) (cstV (.int 2147483629))))
    (seqS (asgS 2 (op2 modF (op1 intF (op2 mulF (varV 2) (varV 2))) (cstV (.int 2147483587))))
    (retS (op2 modF (op1 intF (op2 mulF (varV 2) (op2 addF (varV 2) (cstV (.int 2))))) (cstV (.int 2147483579))))))
def b__law_pile (wf : Nat) (Φ : Fi → List Tr → Ret) : Es := (seqS (asgS 2 (cstV (.int 0)))
    (seqS (ifS (asB (op2 ltF (varV 1) (lenV (varV 0)))) (asgS 2 (ixV (varV 0) (varV 1))) skipS)
    (seqS (ifS (asB (op2 geF (varV 2) (op2 powF (cstV (.int 10)) (cstV (.int 18))))) (retS (lstV [(op2 modF (op1 intF (op2 subF (varV 2) (op2 powF (cstV (.int 10)) (cstV (.int 18))))) (op2 mulF (op2 mulF (op2 mulF (op2 powF (cstV (.int 10)) (cstV (.int 60))) (op2 powF (cstV (.int 10)) (cstV (.int 60)))) (op2 powF (cstV (.int 10)) (cstV (.int 60)))) (op2 powF (cstV (.int 10)) (cstV (.int 60)))))])) skipS)
    (seqS (asgS 3 (cstV (.int 0)))
    (seqS (forS (.name 4) (rng1 (cstV (.int 24))) (asgS 3 (op2 addF (op2 mulF (varV 3) (cstV (.int 2147483579))) (callV (Φ ._law_mixed) [.d (varV 2), .d (op2 addF (op2 addF (op2 mulF (cstV (.int 7)) (varV 1)) (op2 mulF (cstV (.int 100)) (varV 4))) (op2 mulF (varV 4) (varV 4)))]))))
    (retS (lstV [(varV 3)])))))))
def b__law_take (wf : Nat) (Φ : Fi → List Tr → Ret) : Es := (seqS (asgS 2 (op2 modF (op1 intF (ixV (varV 0) (cstV (.int 0)))) (varV 1)))
    (seqS (stoS (varV 0) (cstV (.int 0)) (op2 fdivF (ixV (varV 0) (cstV (.int 0))) (varV 1)))
    (retS (mvV [0] (varV 2)))))
def b__law_whole (wf : Nat) (Φ : Fi → List Tr → Ret) : Es := (retS (andV (op1D (isiF "int") (varV 0)) (notV (op1D (isiF "bool") (varV 0)))))
def b__law_flags (wf : Nat) (Φ : Fi → List Tr → Ret) : Es := (seqS (asgS 1 (lstV [(op1D (isiEF tabK_NoJob) (varV 0)), (op1D (isiEF tabK_NoTask) (varV 0)), (op1D (isiEF tabK_NoHour) (varV 0))]))
    (seqS (asgS 1 (op2 addF (varV 1) (lstV [(op1D (isiEF tabK_NoHours) (varV 0)), (op1D (isiEF tabK_NoStatement) (varV 0)), (op1D (isiEF tabK_NotNarrow) (varV 0))])))
    (seqS (asgS 1 (op2 addF (varV 1) (lstV [(op1D (isiEF tabK_NoPlan) (varV 0)), (op1D (isiEF tabK_NoRooms) (varV 0)), (op1D (isiEF tabK_BadNeed) (varV 0))])))
    (seqS (asgS 1 (op2 addF (varV 1) (lstV [(op1D (isiEF tabK_NoText) (varV 0)), (op1D (isiEF tabK_Unlike) (varV 0)), (op1D (isiEF tabK_NoDeeds) (varV 0))])))
    (retS (op2 addF (varV 1) (lstV [(op1D (isiEF tabK_BadDeed) (varV 0)), (op1D (isiEF tabK_NoOrder) (varV 0))])))))))
def b__law_error (wf : Nat) (Φ : Fi → List Tr → Ret) : Es := (seqS (ifS (asB (op1 isNF (varV 0))) (retS (cstV (.str ""))) skipS)
    (seqS (asgS 1 (callV (Φ ._law_flags) [.d (varV 0)]))
    (seqS (ifS (orT (asB (op2D neF (mth1 cntBF (varV 1) (cstV (.bool true))) (cstV (.int 1)))) (orT (notT (asB (op1D (isiEF tabK_JobError) (varV 0)))) (notT (asB (op1D (isiEF tabK_ValueError) (varV 0)))))) (retS (cstV (.str "other"))) skipS)
    (seqS (asgS 2 (lstV [(cstV (.str "job")), (cstV (.str "task")), (cstV (.str "hour")), (cstV (.str "hours")), (cstV (.str "statement")), (cstV (.str "narrow")), (cstV (.str "plan")), (cstV (.str "rooms")), (cstV (.str "need")), (cstV (.str "text")), (cstV (.str "unlike")), (cstV (.str "deeds"))]))
    (retS (ixV (op2 addF (varV 2) (lstV [(cstV (.str "deed")), (cstV (.str "order"))])) (mth1 idxF (varV 1) (cstV (.bool true)))))))))
def b__law_drawn_number (wf : Nat) (Φ : Fi → List Tr → Ret) : Es := (seqS (asgS 1 (ixV (lstV [(cstV (.int 0)), (cstV (.int 1)), (cstV (.int 2)), (cstV (.int 3)), (cstV (.int 10)), (cstV (.int 25)), (op1 negF (cstV (.int 1))), (op1 negF (cstV (.int 12))), (op2 powF (cstV (.int 10)) (cstV (.int 20))), (cstV (.int 7))]) (callV (Φ ._law_take) [.m 0, .d (cstV (.int 10))])))
    (retS (op2 addF (varV 1) (callV (Φ ._law_take) [.m 0, .d (cstV (.int 3))]))))
def b__law_drawn_line (wf : Nat) (Φ : Fi → List Tr → Ret) : Es := (seqS (asgS 1 (callV (Φ ._law_take) [.m 0, .d (cstV (.int 14))]))
    (seqS (asgS 2 (ixV (lstV [(tupV [(cstV (.str "free")), (varV 1), (callV (Φ ._law_drawn_number) [.m 0])]), (tupV [(cstV (.str "due")), (varV 1), (callV (Φ ._law_drawn_number) [.m 0])]), (tupV [(cstV (.str "none"))])]) (callV (Φ ._law_take) [.m 0, .d (cstV (.int 3))])))
    (seqS (asgS 3 (op1 absF (callV (Φ ._law_drawn_number) [.m 0])))
    (seqS (asgS 4 (lstV []))
    (seqS (forS (.name 5) (rng1 (callV (Φ ._law_take) [.m 0, .d (cstV (.int 5))])) (exprS (mthV .append (varV 4) [(tupV [(callV (Φ ._law_take) [.m 0, .d (cstV (.int 12))]), (ixV (lstV [(cstV .none), (callV (Φ ._law_take) [.m 0, .d (cstV (.int 12))]), (op2 powF (cstV (.int 10)) (cstV (.int 9)))]) (callV (Φ ._law_take) [.m 0, .d (cstV (.int 3))]))])])))
    (seqS (asgS 6 (callV (Φ ._law_drawn_number) [.m 0]))
    (seqS (asgS 7 (callV (Φ ._law_drawn_number) [.m 0]))
    (seqS (asgS 8 (lstV [(tupV [(cstV (.str "given"))]), (tupV [(cstV (.str "later")), (varV 3)]), (tupV [(cstV (.str "weaker")), (varV 3)]), (tupV [(cstV (.str "sooner")), (varV 7), (tupleV (varV 4))]), (tupV [(cstV (.str "full")), (varV 6), (varV 7), (tupleV (varV 4))])]))
    (retS (tupV [(mvV [0] (varV 2)), (ixV (varV 8) (callV (Φ ._law_take) [.m 0, .d (cstV (.int 5))]))]))))))))))
def b__law_line_text (wf : Nat) (Φ : Fi → List Tr → Ret) : Es := (seqS (asgD (.tup (.cons (.name 2) (.cons (.name 3) .nil))) (varV 1))
    (seqS (asgS 4 (op2 addF (frzV (lstV [(op2 addF (op1 strIF (varV 0)) (cstV (.str ":")))])) (frzV (lcD [5] (.name 5) (seqI (varV 2)) yesT (op1D strBF (varV 5))))))
    (seqS (ifS (asB (op2D neF (ixV (varV 2) (cstV (.int 0))) (cstV (.str "none")))) (exprS (mthV .insert (varV 4) [(cstV (.int 3)), (ixV (lstV [(cstV (.str ">=")), (cstV (.str "<="))]) (op1 intF (op2D eqF (ixV (varV 2) (cstV (.int 0))) (cstV (.str "due")))))])) skipS)
    (seqS (exprS (mthV .append (varV 4) [(ixV (varV 3) (cstV (.int 0)))]))
    (seqS (forS (.name 5) (seqI (slcV (varV 3) (some (cstV (.int 1))) none)) (ifS (asB (op1D (isiF "tuple") (varV 5))) (forS (.tup (.cons (.name 6) (.cons (.name 7) .nil))) (seqI (varV 5)) (exprS (mthV .append (varV 4) [(op2 addF (op2 addF (op2 addF (op2 addF (cstV (.str "(")) (op1 strIF (varV 6))) (cstV (.str ","))) (op2 mulSF (op1D strBF (varV 7)) (op1 intF (op1 isNNF (varV 7))))) (cstV (.str ")")))]))) (exprS (mthV .append (varV 4) [(op1D strBF (varV 5))]))))
    (retS (mthS joinF (cstV (.str " ")) (varV 4))))))))
def b__law_lines_text (wf : Nat) (Φ : Fi → List Tr → Ret) : Es := (retS (mthS joinF (cstV (.str "\n")) (lcD [1] (.name 1) (rng1 (lenV (varV 0))) yesT (callV (Φ ._law_line_text) [.d (varV 1), .d (ixV (varV 0) (varV 1))]))))
def b__law_number (wf : Nat) (Φ : Fi → List Tr → Ret) : Es := (seqS (asgS 2 (varV 0))
    (seqS (ifS (andT (asB (varV 1)) (asB (op2D eqF (slcV (varV 0) none (some (cstV (.int 1)))) (cstV (.str "-"))))) (asgS 2 (slcV (varV 0) (some (cstV (.int 1))) none)) skipS)
    (seqS (ifS (orT (asB (op2D eqF (varV 2) (cstV (.str "")))) (asB (op2D neF (lcD [3] (.name 3) (strI (varV 2)) (asB (op2 niSF (varV 3) (cstV (.str "0123456789")))) (varV 3)) (lstV [])))) (retS (cstV .none)) skipS)
    (seqS (ifS (andT (asB (op2D eqF (ixV (varV 2) (cstV (.int 0))) (cstV (.str "0")))) (asB (op2D neF (varV 0) (cstV (.str "0"))))) (retS (cstV .none)) skipS)
    (seqS (ifS (asB (op2D neF (varV 2) (varV 0))) (retS (op2 subF (cstV (.int 0)) (op1 intSF (varV 2)))) skipS)
    (retS (op1 intSF (varV 2))))))))
def b__law_part (wf : Nat) (Φ : Fi → List Tr → Ret) : Es := (seqS (asgS 1 (mthS splitF (slcV (varV 0) (some (cstV (.int 1))) (some (op1 negF (cstV (.int 1))))) (cstV (.str ","))))
    (seqS (ifS (orT (asB (op2D neF (slcV (varV 0) none (some (cstV (.int 1)))) (cstV (.str "(")))) (orT (asB (op2D neF (slcV (varV 0) (some (op1 negF (cstV (.int 1)))) none) (cstV (.str ")")))) (orT (asB (op2 ltF (lenV (varV 0)) (cstV (.int 2)))) (asB (op2D neF (lenV (varV 1)) (cstV (.int 2))))))) (retS (cstV .none)) skipS)
    (seqS (parS 2 3 (callV (Φ ._law_number) [.d (ixV (varV 1) (cstV (.int 0))), .d (cstV (.bool false))]) (callV (Φ ._law_number) [.d (ixV (varV 1) (cstV (.int 1))), .d (cstV (.bool false))]))
    (seqS (ifS (orT (asB (op1 isNF (varV 2))) (andT (asB (op1 isNF (varV 3))) (asB (op2D neF (ixV (varV 1) (cstV (.int 1))) (cstV (.str "")))))) (retS (cstV .none)) skipS)
    (retS (tupV [(mvV [] (varV 2)), (mvV [] (varV 3))]))))))
def b__law_why_read (wf : Nat) (Φ : Fi → List Tr → Ret) : Es := (seqS (ifS (asB (op2D eqF (varV 0) (lstV [(cstV (.str "given"))]))) (retS (tupV [(cstV (.str "given"))])) skipS)
    (seqS (ifS (andT (asB (op2D eqF (lenV (varV 0)) (cstV (.int 2)))) (asB (op2D inF (ixV (varV 0) (cstV (.int 0))) (lstV [(cstV (.str "later")), (cstV (.str "weaker"))])))) (seqS (asgS 1 (callV (Φ ._law_number) [.d (ixV (varV 0) (cstV (.int 1))), .d (cstV (.bool false))]))
    (retS (ixV (lstV [(tupV [(ixV (varV 0) (cstV (.int 0))), (varV 1)]), (cstV .none)]) (op1 intF (op1 isNF (varV 1)))))) skipS)
    (seqS (asgS 2 (ixV (lstV [(cstV (.int 1)), (cstV (.int 2))]) (op1 intF (op2D eqF (slcV (varV 0) none (some (cstV (.int 1)))) (lstV [(cstV (.str "full"))])))))
    (seqS (ifS (orT (asB (op2D niF (slcV (varV 0) none (some (cstV (.int 1)))) (lstV [(lstV [(cstV (.str "sooner"))]), (lstV [(cstV (.str "full"))])]))) (asB (op2 ltF (lenV (varV 0)) (op2 addF (varV 2) (cstV (.int 1)))))) (retS (cstV .none)) skipS)
    (seqS (asgS 3 (lcD [5] (.name 5) (seqI (slcV (varV 0) (some (cstV (.int 1))) (some (op2 addF (varV 2) (cstV (.int 1)))))) yesT (callV (Φ ._law_number) [.d (varV 5), .d (cstV (.bool true))])))
    (seqS (asgS 4 (lcD [5] (.name 5) (seqI (slcV (varV 0) (some (op2 addF (varV 2) (cstV (.int 1)))) none)) yesT (callV (Φ ._law_part) [.d (varV 5)])))
    (seqS (ifS (asB (op2D inF (cstV .none) (op2 addF (varV 3) (varV 4)))) (retS (cstV .none)) skipS)
    (retS (op2 addF (op2 addF (tupV [(ixV (varV 0) (cstV (.int 0)))]) (tupleV (varV 3))) (tupV [(tupleV (varV 4))]))))))))))
def b__law_line_read (wf : Nat) (Φ : Fi → List Tr → Ret) : Es := (seqS (asgS 2 (mthS splitF (varV 1) (cstV (.str " "))))
    (seqS (ifS (orT (asB (op2D neF (ixV (varV 2) (cstV (.int 0))) (op2 addF (op1 strIF (varV 0)) (cstV (.str ":"))))) (asB (op2 ltF (lenV (varV 2)) (cstV (.int 3))))) (retS (cstV .none)) skipS)
    (seqS (asgS 3 (tupV [(cstV (.str "none"))]))
    (seqS (asgS 4 (slcV (varV 2) (some (cstV (.int 2))) none))
    (seqS (ifS (asB (op2D neF (ixV (varV 2) (cstV (.int 1))) (cstV (.str "none")))) (seqS (ifS (orT (asB (op2D niF (ixV (varV 2) (cstV (.int 1))) (lstV [(cstV (.str "free")), (cstV (.str "due"))]))) (orT (asB (op2 ltF (lenV (varV 2)) (cstV (.int 6)))) (asB (op2D neF (ixV (varV 2) (cstV (.int 3))) (ixV (lstV [(cstV (.str ">=")), (cstV (.str "<="))]) (op1 intF (op2D eqF (ixV (varV 2) (cstV (.int 1))) (cstV (.str "due"))))))))) (retS (cstV .none)) skipS)
    (seqS (asgS 3 (tupV [(ixV (varV 2) (cstV (.int 1))), (callV (Φ ._law_number) [.d (ixV (varV 2) (cstV (.int 2))), .d (cstV (.bool false))]), (callV (Φ ._law_number) [.d (ixV (varV 2) (cstV (.int 4))), .d (cstV (.bool true))])]))
    (asgS 4 (slcV (varV 2) (some (cstV (.int 5))) none)))) skipS)
    (seqS (asgS 5 (callV (Φ ._law_why_read) [.d (varV 4)]))
    (seqS (ifS (orT (asB (op2D nitF (cstV .none) (varV 3))) (asB (op1 isNF (varV 5)))) (retS (cstV .none)) skipS)
    (retS (tupV [(mvV [] (varV 3)), (mvV [] (varV 5))])))))))))
def b__law_read (wf : Nat) (Φ : Fi → List Tr → Ret) : Es := (seqS (asgS 1 (lstV []))
    (seqS (asgS 2 (mthS splitF (varV 0) (cstV (.str "\n"))))
    (seqS (forS (.name 3) (rng1 (op2 mulF (lenV (varV 2)) (op1 intF (op2D neF (varV 0) (cstV (.str "")))))) (seqS (asgS 4 (callV (Φ ._law_line_read) [.d (varV 3), .d (ixV (varV 2) (varV 3))]))
    (seqS (ifS (asB (op1 isNF (varV 4))) (retS (op2 addF (varV 3) (cstV (.int 1)))) skipS)
    (exprS (mthV .append (varV 1) [(varV 4)])))))
    (retS (mvV [] (varV 1))))))
def b__law_answer (wf : Nat) (Φ : Fi → List Tr → Ret) : Es := (seqS (asgS 1 (cstV .none))
    (seqS (asgS 2 (cstV .none))
    (seqS (tryS tabT_JobError (asgS 2 (callV (Φ .read_lines) [.d (varV 0)])) 3 (asgS 1 (varV 3)))
    (seqS (ifS (asB (op1 isNF (varV 1))) (retS (mvV [] (varV 2))) skipS)
    (seqS (ifS (orT (asB (op2D neF (callV (Φ ._law_error) [.d (varV 1)]) (cstV (.str "text")))) (notT (asB (callV (Φ ._law_whole) [.d (op1 (xfF "NoText" "line") (varV 1))])))) (retS (cstV .none)) skipS)
    (retS (mvV [] (op1 (xfF "NoText" "line") (varV 1)))))))))
def b__law_bent (wf : Nat) (Φ : Fi → List Tr → Ret) : Es := (seqS (asgS 2 (callV (Φ ._law_take) [.m 0, .d (cstV (.int 10))]))
    (seqS (asgS 3 (callV (Φ ._law_take) [.m 0, .d (op2 addF (lenV (varV 1)) (cstV (.int 1)))]))
    (seqS (asgS 4 (cstV (.str (conS s__law_bent 2))))
    (seqS (asgS 5 (ixV (varV 4) (callV (Φ ._law_take) [.m 0, .d (lenV (varV 4))])))
    (seqS (asgS 6 (mthS splitF (varV 1) (cstV (.str "\n"))))
    (seqS (asgS 7 (callV (Φ ._law_take) [.m 0, .d (lenV (varV 6))]))
    (seqS (asgS 8 (callV (Φ ._law_take) [.m 0, .d (lenV (varV 6))]))
    (seqS (ifS (asB (op2 ltF (varV 2) (cstV (.int 3)))) (retS (op2 addF (op2 addF (slcV (varV 1) none (some (varV 3))) (ixV (lstV [(cstV (.str "")), (varV 5), (varV 5)]) (varV 2))) (slcV (varV 1) (some (op2 addF (varV 3) (ixV (lstV [(cstV (.int 1)), (cstV (.int 0)), (cstV (.int 1))]) (varV 2)))) none))) skipS)
    (seqS (ifS (asB (op2D eqF (varV 2) (cstV (.int 3)))) (retS (mthS joinF (cstV (.str "\n")) (op2 addF (op2 addF (slcV (varV 6) none (some (varV 7))) (lstV [(ixV (varV 6) (varV 8))])) (slcV (varV 6) (some (varV 7)) none)))) skipS)
    (seqS (ifS (asB (op2D eqF (varV 2) (cstV (.int 4)))) (retS (mthS joinF (cstV (.str "\n")) (op2 addF (slcV (varV 6) none (some (varV 7))) (slcV (varV 6) (some (op2 addF (varV 7) (cstV (.int 1)))) none)))) skipS)
    (seqS (asgS 9 (mthS splitF (ixV (varV 6) (varV 7)) (cstV (.str " "))))
    (seqS (asgS 10 (callV (Φ ._law_take) [.m 0, .d (lenV (varV 9))]))
    (seqS (asgS 11 (lstV [(cstV (.str "-0")), (cstV (.str "00")), (cstV (.str "01")), (cstV (.str "none")), (cstV (.str "free")), (cstV (.str "due")), (cstV (.str "given")), (cstV (.str "later")), (cstV (.str "full")), (cstV (.str "(1)")), (cstV (.str "(,1)")), (cstV (.str "()")), (cstV (.str "(1,2,3)")), (cstV (.str "(01,)"))]))
    (seqS (exprS (mthV .append (varV 11) [(cstV (.str ">="))]))
    (seqS (ifS (asB (op2 ltF (varV 2) (cstV (.int 7)))) (stoS (varV 9) (varV 10) (ixV (varV 11) (callV (Φ ._law_take) [.m 0, .d (cstV (.int 15))]))) (ifS (asB (op2D eqF (varV 2) (cstV (.int 7)))) (asgS 9 (op2 addF (slcV (varV 9) none (some (op2 addF (varV 10) (cstV (.int 1))))) (slcV (varV 9) (some (varV 10)) none))) (ifS (asB (op2D eqF (varV 2) (cstV (.int 8)))) (asgS 9 (op2 addF (slcV (varV 9) none (some (varV 10))) (slcV (varV 9) (some (op2 addF (varV 10) (cstV (.int 1)))) none))) skipS)))
    (seqS (stoS (varV 6) (varV 7) (mthS joinF (cstV (.str " ")) (varV 9)))
    (retS (op2 addF (mthS joinF (cstV (.str "\n")) (varV 6)) (op2 mulSF (cstV (.str "\n")) (op1 intF (op2D eqF (varV 2) (cstV (.int 9)))))))))))))))))))))))
def b_law (wf : Nat) (Φ : Fi → List Tr → Ret) : Es := (seqS (forS (.name 1) (rng1 (op2 max2F (cstV (.int 4)) (op2 min2F (lenV (varV 0)) (cstV (.int 10))))) (seqS (asgS 2 (callV (Φ ._law_pile) [.m 0, .d (varV 1)]))
    (seqS (asgS 3 (callV (Φ ._law_lines_text) [.d (lcD [8] (.name 8) (rng1 (op2 addF (cstV (.int 1)) (callV (Φ ._law_take) [.m 2, .d (cstV (.int 5))]))) yesT (callV (Φ ._law_drawn_line) [.m 2]))]))
    (forS (.name 4) (rng1 (cstV (.int 6))) (seqS (asgS 5 (callV (Φ ._law_bent) [.m 2, .d (varV 3)]))
    (forS (.name 6) (seqI (lstV [(varV 5), (callV (Φ ._law_bent) [.m 2, .d (varV 5)])])) (ifS (asB (op2D neF (op1D reprF (callV (Φ ._law_answer) [.d (varV 6)])) (op1D reprF (callV (Φ ._law_read) [.d (varV 6)])))) (retS (cstV (.bool false))) skipS)))))))
    (seqS (asgS 7 (lstV [(cstV (.str "")), (cstV (.str "\n")), (cstV (.str "0:")), (cstV (.str "0: none")), (cstV (.str "0: none given")), (cstV (.str "1: none given")), (cstV (.str "0: none given\n")), (cstV (.str "00: none given"))]))
    (seqS (asgS 7 (op2 addF (varV 7) (lstV [(cstV (.str "0: none given\n0: none given")), (cstV (.str "0: free 0 >= 1 given")), (cstV (.str "0: free 0 <= 1 given")), (cstV (.str "0 none given"))])))
    (seqS (asgS 7 (op2 addF (varV 7) (lstV [(cstV (.str "0: due 0 <= -0 given")), (cstV (.str "0: due 0 <= -1 given")), (cstV (.str "0: due -1 <= 1 given")), (cstV (.str "0: none later -1"))])))
    (seqS (asgS 7 (op2 addF (varV 7) (lstV [(cstV (.str "0: none sooner -3")), (cstV (.str "0: none sooner")), (cstV (.str "0: none full 1")), (cstV (.str "0: none full 1 2 (1,)(2,)")), (cstV (.str " 0: none given"))])))
    (seqS (asgS 7 (op2 addF (varV 7) (lstV [(cstV (.str "0: none full 1 2 (1, 2)")), (cstV (.str "0: none full 1 2 (1,-2)")), (cstV (.str "0: none weaker 0 (1,)"))])))
    (seqS (asgS 7 (op2 addF (varV 7) (lstV [(cstV (.str "0: free 0 >= +1 given")), (cstV (.str "0: free 0 >= 1_0 given")), (cstV (.str "0: none later +0")), (cstV (.str "0: none given (1,)"))])))
    (seqS (asgS 7 (op2 addF (varV 7) (lstV [(cstV (.str "0: free 0 >= 1 given (0,2) (3,)")), (cstV (.str "0: none sooner 3 (1_0,)")), (cstV (.str "0: none sooner +3")), (cstV (.str "0: none later 1_0"))])))
    (seqS (asgS 7 (op2 addF (varV 7) (lstV [(cstV (.str "0: none later -1\nx")), (cstV (.str "1: none given\n0: none x")), (cstV (.str "0: none full -1 -2 (0,)")), (cstV (.str "0: none sooner -0"))])))
    (retS (op2D eqF (lcD [3] (.name 3) (seqI (varV 7)) (asB (op2D neF (op1D reprF (callV (Φ ._law_answer) [.d (varV 3)])) (op1D reprF (callV (Φ ._law_read) [.d (varV 3)])))) (varV 3)) (lstV []))))))))))))
def tbl (wf : Nat) (Φ : Fi → List Tr → Ret) : Fi → List Tr → Ret
  | .number_read => execF 1 2 [] (b_number_read wf Φ)
  | .whole_read => execF 1 2 [] (b_whole_read wf Φ)
  | .part_read => execF 1 4 [] (b_part_read wf Φ)
  | .statement_read => execF 1 3 [] (b_statement_read wf Φ)
  | .reason_read => execF 1 5 [] (b_reason_read wf Φ)
  | .line_read => execF 2 5 [] (b_line_read wf Φ)
  | .read_lines => execF 1 5 [] (b_read_lines wf Φ)
  | ._law_mixed => execF 2 3 [] (b__law_mixed wf Φ)
  | ._law_pile => execF 2 5 [0] (b__law_pile wf Φ)
  | ._law_take => execF 2 3 [0] (b__law_take wf Φ)
  | ._law_whole => execF 1 1 [] (b__law_whole wf Φ)
  | ._law_flags => execF 1 2 [] (b__law_flags wf Φ)
  | ._law_error => execF 1 3 [] (b__law_error wf Φ)
  | ._law_drawn_number => execF 1 2 [0] (b__law_drawn_number wf Φ)
  | ._law_drawn_line => execF 1 9 [0] (b__law_drawn_line wf Φ)
  | ._law_line_text => execF 2 8 [] (b__law_line_text wf Φ)
  | ._law_lines_text => execF 1 2 [] (b__law_lines_text wf Φ)
  | ._law_number => execF 2 4 [] (b__law_number wf Φ)
  | ._law_part => execF 1 4 [] (b__law_part wf Φ)
  | ._law_why_read => execF 1 6 [] (b__law_why_read wf Φ)
  | ._law_line_read => execF 2 6 [] (b__law_line_read wf Φ)
  | ._law_read => execF 1 5 [] (b__law_read wf Φ)
  | ._law_answer => execF 1 4 [] (b__law_answer wf Φ)
  | ._law_bent => execF 2 12 [0] (b__law_bent wf Φ)
  | .NoText___init__ => fun _ => .no
  | .law => execF 1 9 [0] (b_law wf Φ)
def run (wf : Nat) : Nat → Fi → List Tr → Ret
  | 0 => fun _ _ => .no
  | n + 1 => tbl wf (run wf n)
theorem in_NoText {P : Program} {w : World} {K : PySem.W.Frag} {mg : Str → Option Value} {base : Heap} {A : Ad} {cl : Str → Addr} (T : Txt K w mg A cl) : FnOk P w K mg base (L2.CX P w) 1 (A.f .NoText___init__) (A.d .NoText___init__) ["self", "line"] (spInit K "line") := init_ok (T.F .NoText___init__) sc_NoText___init__ rfl (.inl rfl) (.inl rfl) (by decide) (by decide) (fun _ => rfl)
end R

namespace Hd
open PySem PySem.Spec PyProof.Rows L2 R
def dd_number_read : He.DefD := ⟨("number_read", none), "number_read", "number_read", defArgs s_number_read, defBody s_number_read, defScope s_number_read, [], []⟩
def dd_whole_read : He.DefD := ⟨("whole_read", none), "whole_read", "whole_read", defArgs s_whole_read, defBody s_whole_read, defScope s_whole_read, [], []⟩
def dd_part_read : He.DefD := ⟨("part_read", none), "part_read", "part_read", defArgs s_part_read, defBody s_part_read, defScope s_part_read, [], []⟩
def dd_statement_read : He.DefD := ⟨("statement_read", none), "statement_read", "statement_read", defArgs s_statement_read, defBody s_statement_read, defScope s_statement_read, [], []⟩
def dd_reason_read : He.DefD := ⟨("reason_read", none), "reason_read", "reason_read", defArgs s_reason_read, defBody s_reason_read, defScope s_reason_read, [], []⟩
def dd_line_read : He.DefD := ⟨("line_read", none), "line_read", "line_read", defArgs s_line_read, defBody s_line_read, defScope s_line_read, [], []⟩
def dd_read_lines : He.DefD := ⟨("read_lines", none), "read_lines", "read_lines", defArgs s_read_lines, defBody s_read_lines, defScope s_read_lines, [], []⟩
def dd__law_mixed : He.DefD := ⟨("_law_mixed", none), "_law_mixed", "_law_mixed", defArgs s__law_mixed, defBody s__law_mixed, defScope s__law_mixed, [], []⟩
def dd__law_pile : He.DefD := ⟨("_law_pile", none), "_law_pile", "_law_pile", defArgs s__law_pile, defBody s__law_pile, defScope s__law_pile, [], []⟩
def dd__law_take : He.DefD := ⟨("_law_take", none), "_law_take", "_law_take", defArgs s__law_take, defBody s__law_take, defScope s__law_take, [], []⟩
def dd__law_whole : He.DefD := ⟨("_law_whole", none), "_law_whole", "_law_whole", defArgs s__law_whole, defBody s__law_whole, defScope s__law_whole, [], []⟩
def dd__law_flags : He.DefD := ⟨("_law_flags", none), "_law_flags", "_law_flags", defArgs s__law_flags, defBody s__law_flags, defScope s__law_flags, [], []⟩
def dd__law_error : He.DefD := ⟨("_law_error", none), "_law_error", "_law_error", defArgs s__law_error, defBody s__law_error, defScope s__law_error, [], []⟩
def dd__law_drawn_number : He.DefD := ⟨("_law_drawn_number", none), "_law_drawn_number", "_law_drawn_number", defArgs s__law_drawn_number, defBody s__law_drawn_number, defScope s__law_drawn_number, [], []⟩
def dd__law_drawn_line : He.DefD := ⟨("_law_drawn_line", none), "_law_drawn_line", "_law_drawn_line", defArgs s__law_drawn_line, defBody s__law_drawn_line, defScope s__law_drawn_line, [], []⟩
def dd__law_line_text : He.DefD := ⟨("_law_line_text", none), "_law_line_text", "_law_line_text", defArgs s__law_line_text, defBody s__law_line_text, defScope s__law_line_text, [], []⟩
def dd__law_lines_text : He.DefD := ⟨("_law_lines_text", none), "_law_lines_text", "_law_lines_text", defArgs s__law_lines_text, defBody s__law_lines_text, defScope s__law_lines_text, [], []⟩
def dd__law_number : He.DefD := ⟨("_law_number", none), "_law_number", "_law_number", defArgs s__law_number, defBody s__law_number, defScope s__law_number, [], []⟩
def dd__law_part : He.DefD := ⟨("_law_part", none), "_law_part", "_law_part", defArgs s__law_part, defBody s__law_part, defScope s__law_part, [], []⟩
def dd__law_why_read : He.DefD := ⟨("_law_why_read", none), "_law_why_read", "_law_why_read", defArgs s__law_why_read, defBody s__law_why_read, defScope s__law_why_read, [], []⟩
def dd__law_line_read : He.DefD := ⟨("_law_line_read", none), "_law_line_read", "_law_line_read", defArgs s__law_line_read, defBody s__law_line_read, defScope s__law_line_read, [], []⟩
def dd__law_read : He.DefD := ⟨("_law_read", none), "_law_read", "_law_read", defArgs s__law_read, defBody s__law_read, defScope s__law_read, [], []⟩
def dd__law_answer : He.DefD := ⟨("_law_answer", none), "_law_answer", "_law_answer", defArgs s__law_answer, defBody s__law_answer, defScope s__law_answer, [], []⟩
def dd__law_bent : He.DefD := ⟨("_law_bent", none), "_law_bent", "_law_bent", defArgs s__law_bent, defBody s__law_bent, defScope s__law_bent, [], []⟩
def dd_NoText___init__ : He.DefD := ⟨("NoText", some "__init__"), "__init__", "NoText.__init__", defArgs s_NoText___init__, defBody s_NoText___init__, defScope s_NoText___init__, [], []⟩
def dd_law : He.DefD := ⟨("law", none), "law", "law", defArgs s_law, defBody s_law, defScope s_law, [], []⟩
def fn : List He.DefD := [dd_number_read, dd_whole_read, dd_part_read, dd_statement_read, dd_reason_read, dd_line_read, dd_read_lines, dd__law_mixed, dd__law_pile, dd__law_take, dd__law_whole, dd__law_flags, dd__law_error, dd__law_drawn_number, dd__law_drawn_line, dd__law_line_text, dd__law_lines_text, dd__law_number, dd__law_part, dd__law_why_read, dd__law_line_read, dd__law_read, dd__law_answer, dd__law_bent, dd_NoText___init__, dd_law]
def fa : List He.Fa := [.glo "number_read", .glo "whole_read", .glo "part_read", .glo "statement_read", .glo "reason_read", .glo "line_read", .glo "read_lines", .glo "_law_mixed", .glo "_law_pile", .glo "_law_take", .glo "_law_whole", .glo "_law_flags", .glo "_law_error", .glo "_law_drawn_number", .glo "_law_drawn_line", .glo "_law_line_text", .glo "_law_lines_text", .glo "_law_number", .glo "_law_part", .glo "_law_why_read", .glo "_law_line_read", .glo "_law_read", .glo "_law_answer", .glo "_law_bent", .glo "law", .glo "JobError", .glo "NoJob", .glo "NoTask", .glo "NoHour", .glo "NoHours", .glo "NoOrder", .glo "NoStatement", .glo "NotNarrow", .glo "NoPlan", .glo "Unlike", .glo "NoRooms", .glo "NoDeeds", .glo "BadNeed", .glo "BadDeed", .glo "NoText", .exm "NoText" "JobError" true, .glo "SIGNS", .glo "COUNTS", .free "ValueError", .free "abs", .free "all", .free "bool", .free "enumerate", .free "int", .free "isinstance", .free "len", .free "max", .free "min", .free "range", .free "repr", .free "str", .free "tuple", .str "FIGURES" "0123456789"]
abbrev Rw : PySem.W.OpenRow := PySem.W.OpenLaw.row PySem.Challenge.rw_duepairs_k63_texts_of_no_lines
def dx : List (Str × R.Tab) := [("SIGNS", R.tab_SIGNS), ("COUNTS", R.tab_COUNTS)]
def fx : List R.Fx := [.exc "NoText", .exi "NoText", .exn "NoText" "line", .kit "NoText" "NoHour" false, .kit "NoText" "NoTask" false, .kit "NoText" "NoJob" false, .kit "NoText" "NotNarrow" false, .kit "NoText" "NoStatement" false, .kit "NoText" "NoHours" false, .kit "NoText" "BadNeed" false, .kit "NoText" "NoRooms" false, .kit "NoText" "NoPlan" false, .kit "NoText" "NoDeeds" false, .kit "NoText" "Unlike" false, .kit "NoText" "NoText" true, .kit "NoText" "NoOrder" false, .kit "NoText" "BadDeed" false, .kitT "NoText" "ValueError" true, .kit "NoText" "JobError" true]
abbrev hk : PySem.W.Hook := R.hookY 5 fa fx dx fn
def ob (s : PySem.W.SharedT) : R.AlY := R.obsYG 5 fa fx dx fn (HandSHeadRun.getT s)
theorem ob_eq (s : PySem.W.SharedT) : ob s = hk.obs s.abs := R.obsYG_eq (HandSHeadRun.getT_eq s)
def loose0 : List Str := ["JobError", "NoJob", "NoTask", "NoHour", "NoHours", "NoOrder", "NoStatement", "NotNarrow", "NoPlan", "Unlike", "NoRooms", "NoDeeds", "BadNeed", "BadDeed", "NoText", "FIGURES", "SIGNS", "COUNTS", "number_read", "whole_read", "part_read", "statement_read", "reason_read", "line_read", "read_lines"]
def loose1 : List Str := ["_law_mixed", "_law_pile", "_law_take", "_law_whole", "_law_flags", "_law_error", "_law_drawn_number", "_law_drawn_line", "_law_line_text", "_law_lines_text", "_law_number", "_law_part", "_law_why_read", "_law_line_read", "_law_read", "_law_answer", "_law_bent"]
abbrev loose : List Str := List.flatten [loose0, loose1]
theorem map3 {α β γ δ : Type _} {o : Option α} {A : α → β} {B : α → γ} {C : α → δ} {a : β} {b : γ} {c : δ} (h1 : o.map A = some a) (h2 : o.map B = some b) (h3 : o.map C = some c) : o.map (fun s => (A s, B s, C s)) = some (a, b, c) := by
  cases o with
  | none => cases h1
  | some s => cases h1; cases h2; cases h3; rfl
def wb (w : World) (b : Bool) : World := { w with params := { w.params with followText := fun s => if s = "special-get-raises" then b else w.params.followText s } }
theorem wb_eq (w : World) : wb w (w.params.followText "special-get-raises") = w := by
  have e : (fun s => if s = "special-get-raises" then w.params.followText "special-get-raises" else w.params.followText s) = w.params.followText := funext fun s => by
    split
    · rename_i h; rw [h]
    · rfl
  unfold wb
  rw [e]
open PySem PySem.W PySem.Calls HandSHeadRun in
theorem run_at (w : World) (os : OsState) : (endF (stepQ (denQ tabQ) Rw.prog (wb w true)) 6000 Rw.prog (wb w true) os).map (fun s => looksF Rw.prog (boot_heap (wb w true).params) s.abs) = some true := by
  kernel_rfl
open PySem PySem.W PySem.Calls HandSHeadRun in
theorem run_af (w : World) (os : OsState) : (endF (stepQ (denQ tabQ) Rw.prog (wb w false)) 6000 Rw.prog (wb w false) os).map (fun s => looksF Rw.prog (boot_heap (wb w false).params) s.abs) = some true := by
  kernel_rfl
open PySem PySem.W PySem.Calls HandSHeadRun in
theorem run_a (w : World) (os : OsState) : (endF (stepQ (denQ tabQ) Rw.prog w) 6000 Rw.prog w os).map (fun s => looksF Rw.prog (boot_heap w.params) s.abs) = some true := by
  have h : ∀ b, (endF (stepQ (denQ tabQ) Rw.prog (wb w b)) 6000 Rw.prog (wb w b) os).map (fun s => looksF Rw.prog (boot_heap (wb w b).params) s.abs) = some true := fun b => by
    cases b
    · exact run_af w os
    · exact run_at w os
  have := h (w.params.followText "special-get-raises")
  rw [wb_eq] at this
  exact this
open PySem PySem.W PySem.Calls HandSHeadRun in
theorem run_bt (w : World) (os : OsState) : (endF (stepQ (denQ tabQ) Rw.prog (wb w true)) 6000 Rw.prog (wb w true) os).map (fun s => seenQ (PySem.W.view Rw.prog [45]) loose (importedModules Rw.prog.main.body) (fun s => xlAt (PySem.W.view Rw.prog [45]) [] s && recOk Rw.toRowW.records s) s.abs) = some (openGood (PySem.W.view Rw.prog [45]) loose) := by
  kernel_rfl
open PySem PySem.W PySem.Calls HandSHeadRun in
theorem run_bf (w : World) (os : OsState) : (endF (stepQ (denQ tabQ) Rw.prog (wb w false)) 6000 Rw.prog (wb w false) os).map (fun s => seenQ (PySem.W.view Rw.prog [45]) loose (importedModules Rw.prog.main.body) (fun s => xlAt (PySem.W.view Rw.prog [45]) [] s && recOk Rw.toRowW.records s) s.abs) = some (openGood (PySem.W.view Rw.prog [45]) loose) := by
  kernel_rfl
open PySem PySem.W PySem.Calls HandSHeadRun in
theorem run_b (w : World) (os : OsState) : (endF (stepQ (denQ tabQ) Rw.prog w) 6000 Rw.prog w os).map (fun s => seenQ (PySem.W.view Rw.prog [45]) loose (importedModules Rw.prog.main.body) (fun s => xlAt (PySem.W.view Rw.prog [45]) [] s && recOk Rw.toRowW.records s) s.abs) = some (openGood (PySem.W.view Rw.prog [45]) loose) := by
  have h : ∀ b, (endF (stepQ (denQ tabQ) Rw.prog (wb w b)) 6000 Rw.prog (wb w b) os).map (fun s => seenQ (PySem.W.view Rw.prog [45]) loose (importedModules Rw.prog.main.body) (fun s => xlAt (PySem.W.view Rw.prog [45]) [] s && recOk Rw.toRowW.records s) s.abs) = some (openGood (PySem.W.view Rw.prog [45]) loose) := fun b => by
    cases b
    · exact run_bf w os
    · exact run_bt w os
  have := h (w.params.followText "special-get-raises")
  rw [wb_eq] at this
  exact this
open PySem PySem.W PySem.Calls HandSHeadRun in
theorem run_ct (w : World) (os : OsState) : (endF (stepQ (denQ tabQ) Rw.prog (wb w true)) 6000 Rw.prog (wb w true) os).map (fun s => ob s) = some (hk.val (wb w true)) := by
  kernel_rfl
open PySem PySem.W PySem.Calls HandSHeadRun in
theorem run_cf (w : World) (os : OsState) : (endF (stepQ (denQ tabQ) Rw.prog (wb w false)) 6000 Rw.prog (wb w false) os).map (fun s => ob s) = some (hk.val (wb w false)) := by
  kernel_rfl
open PySem PySem.W PySem.Calls HandSHeadRun in
theorem run_c (w : World) (os : OsState) : (endF (stepQ (denQ tabQ) Rw.prog w) 6000 Rw.prog w os).map (fun s => ob s) = some (hk.val w) := by
  have h : ∀ b, (endF (stepQ (denQ tabQ) Rw.prog (wb w b)) 6000 Rw.prog (wb w b) os).map (fun s => ob s) = some (hk.val (wb w b)) := fun b => by
    cases b
    · exact run_cf w os
    · exact run_ct w os
  have := h (w.params.followText "special-get-raises")
  rw [wb_eq] at this
  exact this
theorem run (w : World) : HandSHeadRun.RunEq Rw (PySem.W.view Rw.prog [45]) hk ob 6000 loose w := by
  unfold HandSHeadRun.RunEq
  intro os
  exact map3 (run_a w os) (run_b w os) (run_c w os)
end Hd

namespace R
open PySem PySem.Spec PyProof.Rows L2
open Evl (Ex)
section
variable {P : Program} {w : World} {K : PySem.W.Frag} {mg : Str → Option Value} {base : Heap} {A : Ad} {cl : Str → Addr} {wf k : Nat} {Φ : Fi → List Tr → Ret}
theorem ok_number_read (T : Txt K w mg A cl) (h : ∀ i, FnG P w K mg base (L2.CX P w) k (A.f i) (A.d i) (psF i) (spR ⟨K, cl⟩ (msF i) (Φ i))) : FnG P w K mg base (L2.CX P w) (k + 2) (A.f .number_read) (A.d .number_read) (psF .number_read) (spR ⟨K, cl⟩ (msF .number_read) (execF 1 2 [] (b_number_read wf Φ))) :=
  def_ok (T.F .number_read) sc_number_read (by decide) (by decide) rfl rfl (by decide) fun cdv Ar outer s H E c => (jss_cons (js_if (jt_w (jw_or (jt_eq c (je_var 0) je_str) (jw_or (jt_not (jt_val (je_all c T.m_all (je_lc (own := [("figure", 1)]) c sc_number_read.nd (ji_str (je_var 0)) (blkOk_by (own := [("figure", 1)]) (N := N_number_read) (sc := defScope s_number_read) (by decide +kernel)) (fun _ _ _ _ _ c => (jg_name 1 sc_number_read.nd rfl (by first | exact Or.inl rfl | exact Or.inr rfl))) (fun _ _ _ _ _ c => jts_nil) (fun _ _ _ _ _ c => (je_inS (je_var 1) (je_gstr T.c_FIGURES rfl))) (by decide))))) (jw_or1 (jt_w (jw_and (jt_eq c (je_ix (je_var 0) je_int) je_str) (jw_and1 (jt_ne c (je_var 0) je_str)))))))) (jss_one (js_ret je_non)) jss_nil)
      (jss_one (js_ret (je_intS T.m_int (je_var 0)))))
theorem ok_whole_read (T : Txt K w mg A cl) (h : ∀ i, FnG P w K mg base (L2.CX P w) k (A.f i) (A.d i) (psF i) (spR ⟨K, cl⟩ (msF i) (Φ i))) : FnG P w K mg base (L2.CX P w) (k + 2) (A.f .whole_read) (A.d .whole_read) (psF .whole_read) (spR ⟨K, cl⟩ (msF .whole_read) (execF 1 2 [] (b_whole_read wf Φ))) :=
  def_ok (T.F .whole_read) sc_whole_read (by decide) (by decide) rfl rfl (by decide) fun cdv Ar outer s H E c => (jss_cons (js_if (jt_w (jw_and (jt_eq c (je_sl (je_var 0) jo_none (jo_some je_int)) je_str) (jw_and1 (jt_ne c (je_var 0) je_str)))) (jss_cons (js_set (i := 1) sc_whole_read.nd rfl (by first | exact Or.inl rfl | exact Or.inr rfl) rfl (je_call c (h .number_read) (Nat.le_succ _) (T.g .number_read rfl) (T.F .number_read).kp (T.b .number_read) (jm_d (je_sl (je_var 0) (jo_some je_int) jo_none) jm_nil) rfl))
      (jss_one (js_ret (je_ife (jt_isN (je_var 1)) je_non (je_sub je_int (je_var 1)))))) jss_nil)
      (jss_one (js_ret (je_call c (h .number_read) (Nat.le_succ _) (T.g .number_read rfl) (T.F .number_read).kp (T.b .number_read) (jm_d (je_var 0) jm_nil) rfl))))
theorem ok_part_read (T : Txt K w mg A cl) (h : ∀ i, FnG P w K mg base (L2.CX P w) k (A.f i) (A.d i) (psF i) (spR ⟨K, cl⟩ (msF i) (Φ i))) : FnG P w K mg base (L2.CX P w) (k + 2) (A.f .part_read) (A.d .part_read) (psF .part_read) (spR ⟨K, cl⟩ (msF .part_read) (execF 1 4 [] (b_part_read wf Φ))) :=
  def_ok (T.F .part_read) sc_part_read (by decide) (by decide) rfl rfl (by decide) fun cdv Ar outer s H E c => (jss_cons (js_set (i := 1) sc_part_read.nd rfl (by first | exact Or.inl rfl | exact Or.inr rfl) rfl (je_split (je_sl (je_var 0) (jo_some je_int) (jo_some (je_neg je_int))) je_str))
      (jss_cons (js_if (jt_w (jw_or (jt_ne c (je_sl (je_var 0) jo_none (jo_some je_int)) je_str) (jw_or (jt_ne c (je_sl (je_var 0) (jo_some (je_neg je_int)) jo_none) je_str) (jw_or1 (jt_ne c (je_len T.m_len (je_var 1)) je_int))))) (jss_one (js_ret je_non)) jss_nil)
      (jss_cons (js_set (i := 2) sc_part_read.nd rfl (by first | exact Or.inl rfl | exact Or.inr rfl) rfl (je_call c (h .number_read) (Nat.le_succ _) (T.g .number_read rfl) (T.F .number_read).kp (T.b .number_read) (jm_d (je_ix (je_var 1) je_int) jm_nil) rfl))
      (jss_cons (js_set (i := 3) sc_part_read.nd rfl (by first | exact Or.inl rfl | exact Or.inr rfl) rfl (je_call c (h .number_read) (Nat.le_succ _) (T.g .number_read rfl) (T.F .number_read).kp (T.b .number_read) (jm_d (je_ix (je_var 1) je_int) jm_nil) rfl))
      (jss_cons (js_if (jt_w (jw_or (jt_isN (je_var 2)) (jw_or1 (jt_w (jw_and (jt_isN (je_var 3)) (jw_and1 (jt_ne c (je_ix (je_var 1) je_int) je_str))))))) (jss_one (js_ret je_non)) jss_nil)
      (jss_one (js_ret (je_tup (ja_cons (je_mv [] (je_var 2)) (ja_cons (je_mv [] (je_var 3)) ja_nil))))))))))
theorem ok_statement_read (T : Txt K w mg A cl) (h : ∀ i, FnG P w K mg base (L2.CX P w) k (A.f i) (A.d i) (psF i) (spR ⟨K, cl⟩ (msF i) (Φ i))) : FnG P w K mg base (L2.CX P w) (k + 2) (A.f .statement_read) (A.d .statement_read) (psF .statement_read) (spR ⟨K, cl⟩ (msF .statement_read) (execF 1 3 [] (b_statement_read wf Φ))) :=
  def_ok (T.F .statement_read) sc_statement_read (by decide) (by decide) rfl rfl (by decide) fun cdv Ar outer s H E c => (jss_cons (js_if (jt_eq c (je_sl (je_var 0) jo_none (jo_some je_int)) (je_lst (ja_cons je_str ja_nil))) (jss_one (js_ret (je_tup (ja_cons (je_tup (ja_cons je_str ja_nil)) (ja_cons je_int ja_nil))))) jss_nil)
      (jss_cons (js_if (jt_w (jw_or (jt_lt (je_len T.m_len (je_var 0)) je_int) (jw_or (jt_kni T.kd_SIGNS T.gd_SIGNS (je_ix (je_var 0) je_int)) (jw_or1 (jt_ne c (je_ix (je_var 0) je_int) (je_kget T.kd_SIGNS T.gd_SIGNS (je_ix (je_var 0) je_int))))))) (jss_one (js_ret je_non)) jss_nil)
      (jss_cons (js_set (i := 1) sc_statement_read.nd rfl (by first | exact Or.inl rfl | exact Or.inr rfl) rfl (je_call c (h .number_read) (Nat.le_succ _) (T.g .number_read rfl) (T.F .number_read).kp (T.b .number_read) (jm_d (je_ix (je_var 0) je_int) jm_nil) rfl))
      (jss_cons (js_set (i := 2) sc_statement_read.nd rfl (by first | exact Or.inl rfl | exact Or.inr rfl) rfl (je_call c (h .whole_read) (Nat.le_succ _) (T.g .whole_read rfl) (T.F .whole_read).kp (T.b .whole_read) (jm_d (je_ix (je_var 0) je_int) jm_nil) rfl))
      (jss_cons (js_if (jt_w (jw_or (jt_isN (je_var 1)) (jw_or1 (jt_isN (je_var 2))))) (jss_one (js_ret je_non)) jss_nil)
      (jss_one (js_ret (je_tup (ja_cons (je_tup (ja_cons (je_ix (je_var 0) je_int) (ja_cons (je_mv [] (je_var 1)) (ja_cons (je_mv [] (je_var 2)) ja_nil)))) (ja_cons je_int ja_nil))))))))))
theorem ok_reason_read (T : Txt K w mg A cl) (h : ∀ i, FnG P w K mg base (L2.CX P w) k (A.f i) (A.d i) (psF i) (spR ⟨K, cl⟩ (msF i) (Φ i))) : FnG P w K mg base (L2.CX P w) (k + 2) (A.f .reason_read) (A.d .reason_read) (psF .reason_read) (spR ⟨K, cl⟩ (msF .reason_read) (execF 1 5 [] (b_reason_read wf Φ))) :=
  def_ok (T.F .reason_read) sc_reason_read (by decide) (by decide) rfl rfl (by decide) fun cdv Ar outer s H E c => (jss_cons (js_if (jt_w (jw_or (jt_eq c (je_len T.m_len (je_var 0)) je_int) (jw_or1 (jt_kni T.kd_COUNTS T.gd_COUNTS (je_ix (je_var 0) je_int))))) (jss_one (js_ret je_non)) jss_nil)
      (jss_cons (js_set (i := 1) sc_reason_read.nd rfl (by first | exact Or.inl rfl | exact Or.inr rfl) rfl (je_kget T.kd_COUNTS T.gd_COUNTS (je_ix (je_var 0) je_int)))
      (jss_cons (js_setLc (i := 2) (own := [("word", 4)]) c sc_reason_read.nd rfl rfl (sw_true rfl rfl rfl (by decide +kernel)) rfl (ji_seq (je_sl (je_var 0) (jo_some je_int) (jo_some (je_add je_int (je_var 1))))) (blkOk_by (own := [("word", 4)]) (N := N_reason_read) (sc := defScope s_reason_read) (by decide +kernel)) (fun _ _ _ _ _ c => (jg_name 4 sc_reason_read.nd rfl (by first | exact Or.inl rfl | exact Or.inr rfl))) (fun _ _ _ _ _ c => jts_nil) (fun _ _ _ _ _ c => (je_call c (h .whole_read) (Nat.le_succ _) (T.g .whole_read rfl) (T.F .whole_read).kp (T.b .whole_read) (jm_d (je_var 4) jm_nil) rfl)) (by decide))
      (jss_cons (js_setLc (i := 3) (own := [("word", 4)]) c sc_reason_read.nd rfl rfl (sw_true rfl rfl rfl (by decide +kernel)) rfl (ji_seq (je_sl (je_var 0) (jo_some (je_add je_int (je_var 1))) jo_none)) (blkOk_by (own := [("word", 4)]) (N := N_reason_read) (sc := defScope s_reason_read) (by decide +kernel)) (fun _ _ _ _ _ c => (jg_name 4 sc_reason_read.nd rfl (by first | exact Or.inl rfl | exact Or.inr rfl))) (fun _ _ _ _ _ c => jts_nil) (fun _ _ _ _ _ c => (je_call c (h .part_read) (Nat.le_succ _) (T.g .part_read rfl) (T.F .part_read).kp (T.b .part_read) (jm_d (je_var 4) jm_nil) rfl)) (by decide))
      (jss_cons (js_if (jt_w (jw_or (jt_lt (je_len T.m_len (je_var 2)) (je_var 1)) (jw_or (jt_in c je_non (je_var 2)) (jw_or1 (jt_in c je_non (je_var 3)))))) (jss_one (js_ret je_non)) jss_nil)
      (jss_cons (js_if (jt_w (jw_or (jt_w (jw_and (jt_in c (je_ix (je_var 0) je_int) (je_tup (ja_cons je_str (ja_cons je_str ja_nil)))) (jw_and1 (jt_lt (je_ix (je_var 2) je_int) je_int)))) (jw_or1 (jt_w (jw_and (jt_ni c (je_ix (je_var 0) je_int) (je_tup (ja_cons je_str (ja_cons je_str ja_nil)))) (jw_and1 (jt_ne c (je_var 3) (je_lst ja_nil)))))))) (jss_one (js_ret je_non)) jss_nil)
      (jss_cons (js_if (jt_in c (je_ix (je_var 0) je_int) (je_tup (ja_cons je_str (ja_cons je_str ja_nil)))) (jss_one (js_ret (je_add (je_add (je_tup (ja_cons (je_ix (je_var 0) je_int) ja_nil)) (je_tuple T.m_tuple (je_var 2))) (je_tup (ja_cons (je_tuple T.m_tuple (je_var 3)) ja_nil))))) jss_nil)
      (jss_one (js_ret (je_add (je_tup (ja_cons (je_ix (je_var 0) je_int) ja_nil)) (je_tuple T.m_tuple (je_var 2))))))))))))
end
end R

namespace R
open PySem PySem.Spec PyProof.Rows L2
open Evl (Ex)
section
variable {P : Program} {w : World} {K : PySem.W.Frag} {mg : Str → Option Value} {base : Heap} {A : Ad} {cl : Str → Addr} {wf k : Nat} {Φ : Fi → List Tr → Ret}
theorem ok_line_read (T : Txt K w mg A cl) (h : ∀ i, FnG P w K mg base (L2.CX P w) k (A.f i) (A.d i) (psF i) (spR ⟨K, cl⟩ (msF i) (Φ i))) : FnG P w K mg base (L2.CX P w) (k + 2) (A.f .line_read) (A.d .line_read) (psF .line_read) (spR ⟨K, cl⟩ (msF .line_read) (execF 2 5 [] (b_line_read wf Φ))) :=
  def_ok (T.F .line_read) sc_line_read (by decide) (by decide) rfl rfl (by decide) fun cdv Ar outer s H E c => (jss_cons (js_set (i := 2) sc_line_read.nd rfl (by first | exact Or.inl rfl | exact Or.inr rfl) rfl (je_split (je_var 1) je_str))
      (jss_cons (js_if (jt_ne c (je_ix (je_var 2) je_int) (je_add (je_strI T.m_str (je_var 0)) je_str)) (jss_one (js_ret je_non)) jss_nil)
      (jss_cons (js_set (i := 3) sc_line_read.nd rfl (by first | exact Or.inl rfl | exact Or.inr rfl) rfl (je_call c (h .statement_read) (Nat.le_succ _) (T.g .statement_read rfl) (T.F .statement_read).kp (T.b .statement_read) (jm_d (je_sl (je_var 2) (jo_some je_int) jo_none) jm_nil) rfl))
      (jss_cons (js_if (jt_isN (je_var 3)) (jss_one (js_ret je_non)) jss_nil)
      (jss_cons (js_set (i := 4) sc_line_read.nd rfl (by first | exact Or.inl rfl | exact Or.inr rfl) rfl (je_call c (h .reason_read) (Nat.le_succ _) (T.g .reason_read rfl) (T.F .reason_read).kp (T.b .reason_read) (jm_d (je_sl (je_var 2) (jo_some (je_add je_int (je_ix (je_var 3) je_int))) jo_none) jm_nil) rfl))
      (jss_cons (js_if (jt_isN (je_var 4)) (jss_one (js_ret je_non)) jss_nil)
      (jss_one (js_ret (je_tup (ja_cons (je_ix (je_var 3) je_int) (ja_cons (je_mv [] (je_var 4)) ja_nil)))))))))))
theorem ok_read_lines (T : Txt K w mg A cl) (h : ∀ i, FnG P w K mg base (L2.CX P w) k (A.f i) (A.d i) (psF i) (spR ⟨K, cl⟩ (msF i) (Φ i))) (hl : lvB Φ ._law_whole = true → 2 ≤ k + 1) : FnG P w K mg base (L2.CX P w) (k + 2) (A.f .read_lines) (A.d .read_lines) (psF .read_lines) (spR ⟨K, cl⟩ (msF .read_lines) (execF 1 5 [] (b_read_lines wf Φ))) :=
  def_ok (T.F .read_lines) sc_read_lines (by decide) (by decide) rfl rfl (by decide) fun cdv Ar outer s H E c => (jss_cons (js_set (i := 1) sc_read_lines.nd rfl (by first | exact Or.inl rfl | exact Or.inr rfl) rfl (je_lst ja_nil))
      (jss_cons (js_if (jt_eq c (je_var 0) je_str) (jss_one (js_ret (je_mv [] (je_var 1)))) jss_nil)
      (jss_cons (js_for c (ji_enum T.m_enumerate (je_split (je_var 0) je_str)) (jg_tup c.calm (jgs_cons (jg_name 2 sc_read_lines.nd rfl (by first | exact Or.inl rfl | exact Or.inr rfl)) (jgs_cons (jg_name 3 sc_read_lines.nd rfl (by first | exact Or.inl rfl | exact Or.inr rfl)) jgs_nil))) (jss_cons (js_set (i := 4) sc_read_lines.nd rfl (by first | exact Or.inl rfl | exact Or.inr rfl) rfl (je_call c (h .line_read) (Nat.le_succ _) (T.g .line_read rfl) (T.F .line_read).kp (T.b .line_read) (jm_d (je_var 2) (jm_d (je_var 3) jm_nil)) rfl))
      (jss_cons (js_if (jt_isN (je_var 4)) (jss_one (js_raiseF c hl T.gx_NoText T.xo_NoText T.xn_NoText (in_NoText T) (T.b .NoText___init__) (je_add (je_var 2) je_int))) jss_nil)
      (jss_one (js_expr (je_append (je_var 1) (ja_cons (je_var 4) ja_nil)))))) (by decide))
      (jss_one (js_ret (je_mv [] (je_var 1)))))))
theorem ok__law_mixed (T : Txt K w mg A cl) (h : ∀ i, FnG P w K mg base (L2.CX P w) k (A.f i) (A.d i) (psF i) (spR ⟨K, cl⟩ (msF i) (Φ i))) : FnG P w K mg base (L2.CX P w) (k + 2) (A.f ._law_mixed) (A.d ._law_mixed) (psF ._law_mixed) (spR ⟨K, cl⟩ (msF ._law_mixed) (execF 2 3 [] (b__law_mixed wf Φ))) :=
  def_ok (T.F ._law_mixed) sc__law_mixed (by decide) (by decide) rfl rfl (by decide) fun cdv Ar outer s H E c => (jss_cons (js_set (i := 2) sc__law_mixed.nd rfl (by first | exact Or.inl rfl | exact Or.inr rfl) rfl (je_mod (je_int1 T.m_int (je_add (je_add (je_mul (je_mod (je_int1 T.m_int (je_var 0)) je_int) je_int) (je_mul (je_var 1) je_int)) je_int)) je_int))
      (jss_cons (js_set (i := 2) sc__law_mixed.nd rfl (by first | exact Or.inl rfl | exact Or.inr rfl) rfl (je_mod (je_int1 T.m_int (je_mul (je_var 2) (je_var 2))) je_int))
      (jss_one (js_ret (je_mod (je_int1 T.m_int (je_mul (je_var 2) (je_add (je_var 2) je_int))) je_int)))))
theorem ok__law_pile (T : Txt K w mg A cl) (h : ∀ i, FnG P w K mg base (L2.CX P w) k (A.f i) (A.d i) (psF i) (spR ⟨K, cl⟩ (msF i) (Φ i))) : FnG P w K mg base (L2.CX P w) (k + 2) (A.f ._law_pile) (A.d ._law_pile) (psF ._law_pile) (spR ⟨K, cl⟩ (msF ._law_pile) (execF 2 5 [0] (b__law_pile wf Φ))) :=
  def_ok (T.F ._law_pile) sc__law_pile (by decide) (by decide) rfl rfl (by decide) fun cdv Ar outer s H E c => (jss_cons (js_set (i := 2) sc__law_pile.nd rfl (by first | exact Or.inl rfl | exact Or.inr rfl) rfl je_int)
      (jss_cons (js_if (jt_lt (je_var 1) (je_len T.m_len (je_var 0))) (jss_one (js_set (i := 2) sc__law_pile.nd rfl (by first | exact Or.inl rfl | exact Or.inr rfl) rfl (je_ix (je_var 0) (je_var 1)))) jss_nil)
      (jss_cons (js_if (jt_ge (je_var 2) (je_pow je_int je_int)) (jss_one (js_ret (je_lst (ja_cons (je_mod (je_int1 T.m_int (je_sub (je_var 2) (je_pow je_int je_int))) (je_mul (je_mul (je_mul (je_pow je_int je_int) (je_pow je_int je_int)) (je_pow je_int je_int)) (je_pow je_int je_int))) ja_nil)))) jss_nil)
      (jss_cons (js_set (i := 3) sc__law_pile.nd rfl (by first | exact Or.inl rfl | exact Or.inr rfl) rfl je_int)
      (jss_cons (js_for c (ji_rng1 T.m_range je_int) (jg_name 4 sc__law_pile.nd rfl (by first | exact Or.inl rfl | exact Or.inr rfl)) (jss_one (js_set (i := 3) sc__law_pile.nd rfl (by first | exact Or.inl rfl | exact Or.inr rfl) rfl (je_add (je_mul (je_var 3) je_int) (je_call c (h ._law_mixed) (Nat.le_succ _) (T.g ._law_mixed rfl) (T.F ._law_mixed).kp (T.b ._law_mixed) (jm_d (je_var 2) (jm_d (je_add (je_add (je_mul je_int (je_var 1)) (je_mul je_int (je_var 4))) (je_mul (je_var 4) (je_var 4))) jm_nil)) rfl)))) (by decide))
      (jss_one (js_ret (je_lst (ja_cons (je_var 3) ja_nil)))))))))
theorem ok__law_take (T : Txt K w mg A cl) (h : ∀ i, FnG P w K mg base (L2.CX P w) k (A.f i) (A.d i) (psF i) (spR ⟨K, cl⟩ (msF i) (Φ i))) : FnG P w K mg base (L2.CX P w) (k + 2) (A.f ._law_take) (A.d ._law_take) (psF ._law_take) (spR ⟨K, cl⟩ (msF ._law_take) (execF 2 3 [0] (b__law_take wf Φ))) :=
  def_ok (T.F ._law_take) sc__law_take (by decide) (by decide) rfl rfl (by decide) fun cdv Ar outer s H E c => (jss_cons (js_set (i := 2) sc__law_take.nd rfl (by first | exact Or.inl rfl | exact Or.inr rfl) rfl (je_mod (je_int1 T.m_int (je_ix (je_var 0) je_int)) (je_var 1)))
      (jss_cons (js_sto (je_fdiv (je_ix (je_var 0) je_int) (je_var 1)) (je_var 0) je_int)
      (jss_one (js_ret (je_mv [0] (je_var 2))))))
theorem ok__law_whole (T : Txt K w mg A cl) (h : ∀ i, FnG P w K mg base (L2.CX P w) k (A.f i) (A.d i) (psF i) (spR ⟨K, cl⟩ (msF i) (Φ i))) : FnG P w K mg base (L2.CX P w) (k + 2) (A.f ._law_whole) (A.d ._law_whole) (psF ._law_whole) (spR ⟨K, cl⟩ (msF ._law_whole) (execF 1 1 [] (b__law_whole wf Φ))) :=
  def_ok (T.F ._law_whole) sc__law_whole (by decide) (by decide) rfl rfl (by decide) fun cdv Ar outer s H E c => (jss_one (js_ret (je_and (je_isi "int" T.m_isinstance T.m_int (je_var 0) rfl (by decide +kernel)) (je_one (je_not (je_isi "bool" T.m_isinstance T.m_bool (je_var 0) rfl (by decide +kernel)))))))
theorem ok__law_flags (T : Txt K w mg A cl) (h : ∀ i, FnG P w K mg base (L2.CX P w) k (A.f i) (A.d i) (psF i) (spR ⟨K, cl⟩ (msF i) (Φ i))) : FnG P w K mg base (L2.CX P w) (k + 2) (A.f ._law_flags) (A.d ._law_flags) (psF ._law_flags) (spR ⟨K, cl⟩ (msF ._law_flags) (execF 1 2 [] (b__law_flags wf Φ))) :=
  def_ok (T.F ._law_flags) sc__law_flags (by decide) (by decide) rfl rfl (by decide) fun cdv Ar outer s H E c => (jss_cons (js_set (i := 1) sc__law_flags.nd rfl (by first | exact Or.inl rfl | exact Or.inr rfl) rfl (je_lst (ja_cons (je_isx T.m_isinstance T.gx_NoJob T.xk_NoJob (je_var 0)) (ja_cons (je_isx T.m_isinstance T.gx_NoTask T.xk_NoTask (je_var 0)) (ja_cons (je_isx T.m_isinstance T.gx_NoHour T.xk_NoHour (je_var 0)) ja_nil)))))
      (jss_cons (js_set (i := 1) sc__law_flags.nd rfl (by first | exact Or.inl rfl | exact Or.inr rfl) rfl (je_add (je_var 1) (je_lst (ja_cons (je_isx T.m_isinstance T.gx_NoHours T.xk_NoHours (je_var 0)) (ja_cons (je_isx T.m_isinstance T.gx_NoStatement T.xk_NoStatement (je_var 0)) (ja_cons (je_isx T.m_isinstance T.gx_NotNarrow T.xk_NotNarrow (je_var 0)) ja_nil))))))
      (jss_cons (js_set (i := 1) sc__law_flags.nd rfl (by first | exact Or.inl rfl | exact Or.inr rfl) rfl (je_add (je_var 1) (je_lst (ja_cons (je_isx T.m_isinstance T.gx_NoPlan T.xk_NoPlan (je_var 0)) (ja_cons (je_isx T.m_isinstance T.gx_NoRooms T.xk_NoRooms (je_var 0)) (ja_cons (je_isx T.m_isinstance T.gx_BadNeed T.xk_BadNeed (je_var 0)) ja_nil))))))
      (jss_cons (js_set (i := 1) sc__law_flags.nd rfl (by first | exact Or.inl rfl | exact Or.inr rfl) rfl (je_add (je_var 1) (je_lst (ja_cons (je_isx T.m_isinstance T.gx_NoText T.xk_NoText (je_var 0)) (ja_cons (je_isx T.m_isinstance T.gx_Unlike T.xk_Unlike (je_var 0)) (ja_cons (je_isx T.m_isinstance T.gx_NoDeeds T.xk_NoDeeds (je_var 0)) ja_nil))))))
      (jss_one (js_ret (je_add (je_var 1) (je_lst (ja_cons (je_isx T.m_isinstance T.gx_BadDeed T.xk_BadDeed (je_var 0)) (ja_cons (je_isx T.m_isinstance T.gx_NoOrder T.xk_NoOrder (je_var 0)) ja_nil))))))))))
end
end R

namespace R
open PySem PySem.Spec PyProof.Rows L2
open Evl (Ex)
section
variable {P : Program} {w : World} {K : PySem.W.Frag} {mg : Str → Option Value} {base : Heap} {A : Ad} {cl : Str → Addr} {wf k : Nat} {Φ : Fi → List Tr → Ret}
theorem ok__law_error (T : Txt K w mg A cl) (h : ∀ i, FnG P w K mg base (L2.CX P w) k (A.f i) (A.d i) (psF i) (spR ⟨K, cl⟩ (msF i) (Φ i))) : FnG P w K mg base (L2.CX P w) (k + 2) (A.f ._law_error) (A.d ._law_error) (psF ._law_error) (spR ⟨K, cl⟩ (msF ._law_error) (execF 1 3 [] (b__law_error wf Φ))) :=
  def_ok (T.F ._law_error) sc__law_error (by decide) (by decide) rfl rfl (by decide) fun cdv Ar outer s H E c => (jss_cons (js_if (jt_isN (je_var 0)) (jss_one (js_ret je_str)) jss_nil)
      (jss_cons (js_set (i := 1) sc__law_error.nd rfl (by first | exact Or.inl rfl | exact Or.inr rfl) rfl (je_call c (h ._law_flags) (Nat.le_succ _) (T.g ._law_flags rfl) (T.F ._law_flags).kp (T.b ._law_flags) (jm_d (je_var 0) jm_nil) rfl))
      (jss_cons (js_if (jt_w (jw_or (jt_ne c (je_countB (je_var 1) je_bl) je_int) (jw_or (jt_not (jt_val (je_isx T.m_isinstance T.gx_JobError T.xk_JobError (je_var 0)))) (jw_or1 (jt_not (jt_val (je_isxT "ValueError" T.m_isinstance T.m_ValueError T.xk_ValueError (je_var 0) rfl (by decide +kernel)))))))) (jss_one (js_ret je_str)) jss_nil)
      (jss_cons (js_set (i := 2) sc__law_error.nd rfl (by first | exact Or.inl rfl | exact Or.inr rfl) rfl (je_lst (ja_cons je_str (ja_cons je_str (ja_cons je_str (ja_cons je_str (ja_cons je_str (ja_cons je_str (ja_cons je_str (ja_cons je_str (ja_cons je_str (ja_cons je_str (ja_cons je_str (ja_cons je_str ja_nil))))))))))))))
      (jss_one (js_ret (je_ix (je_add (je_var 2) (je_lst (ja_cons je_str (ja_cons je_str ja_nil)))) (je_index (je_var 1) je_bl))))))))
theorem ok__law_drawn_number (T : Txt K w mg A cl) (h : ∀ i, FnG P w K mg base (L2.CX P w) k (A.f i) (A.d i) (psF i) (spR ⟨K, cl⟩ (msF i) (Φ i))) : FnG P w K mg base (L2.CX P w) (k + 2) (A.f ._law_drawn_number) (A.d ._law_drawn_number) (psF ._law_drawn_number) (spR ⟨K, cl⟩ (msF ._law_drawn_number) (execF 1 2 [0] (b__law_drawn_number wf Φ))) :=
  def_ok (T.F ._law_drawn_number) sc__law_drawn_number (by decide) (by decide) rfl rfl (by decide) fun cdv Ar outer s H E c => (jss_cons (js_set (i := 1) sc__law_drawn_number.nd rfl (by first | exact Or.inl rfl | exact Or.inr rfl) rfl (je_ix (je_lst (ja_cons je_int (ja_cons je_int (ja_cons je_int (ja_cons je_int (ja_cons je_int (ja_cons je_int (ja_cons (je_neg je_int) (ja_cons (je_neg je_int) (ja_cons (je_pow je_int je_int) (ja_cons je_int ja_nil))))))))))) (je_call c (h ._law_take) (Nat.le_succ _) (T.g ._law_take rfl) (T.F ._law_take).kp (T.b ._law_take) (jm_m 0 (jm_d je_int jm_nil)) rfl)))
      (jss_one (js_ret (je_add (je_var 1) (je_call c (h ._law_take) (Nat.le_succ _) (T.g ._law_take rfl) (T.F ._law_take).kp (T.b ._law_take) (jm_m 0 (jm_d je_int jm_nil)) rfl)))))
theorem ok__law_drawn_line (T : Txt K w mg A cl) (h : ∀ i, FnG P w K mg base (L2.CX P w) k (A.f i) (A.d i) (psF i) (spR ⟨K, cl⟩ (msF i) (Φ i))) : FnG P w K mg base (L2.CX P w) (k + 2) (A.f ._law_drawn_line) (A.d ._law_drawn_line) (psF ._law_drawn_line) (spR ⟨K, cl⟩ (msF ._law_drawn_line) (execF 1 9 [0] (b__law_drawn_line wf Φ))) :=
  def_ok (T.F ._law_drawn_line) sc__law_drawn_line (by decide) (by decide) rfl rfl (by decide) fun cdv Ar outer s H E c => (jss_cons (js_set (i := 1) sc__law_drawn_line.nd rfl (by first | exact Or.inl rfl | exact Or.inr rfl) rfl (je_call c (h ._law_take) (Nat.le_succ _) (T.g ._law_take rfl) (T.F ._law_take).kp (T.b ._law_take) (jm_m 0 (jm_d je_int jm_nil)) rfl))
      (jss_cons (js_set (i := 2) sc__law_drawn_line.nd rfl (by first | exact Or.inl rfl | exact Or.inr rfl) rfl (je_ix (je_lst (ja_cons (je_tup (ja_cons je_str (ja_cons (je_var 1) (ja_cons (je_call c (h ._law_drawn_number) (Nat.le_succ _) (T.g ._law_drawn_number rfl) (T.F ._law_drawn_number).kp (T.b ._law_drawn_number) (jm_m 0 jm_nil) rfl) ja_nil)))) (ja_cons (je_tup (ja_cons je_str (ja_cons (je_var 1) (ja_cons (je_call c (h ._law_drawn_number) (Nat.le_succ _) (T.g ._law_drawn_number rfl) (T.F ._law_drawn_number).kp (T.b ._law_drawn_number) (jm_m 0 jm_nil) rfl) ja_nil)))) (ja_cons (je_tup (ja_cons je_str ja_nil)) ja_nil)))) (je_call c (h ._law_take) (Nat.le_succ _) (T.g ._law_take rfl) (T.F ._law_take).kp (T.b ._law_take) (jm_m 0 (jm_d je_int jm_nil)) rfl)))
      (jss_cons (js_set (i := 3) sc__law_drawn_line.nd rfl (by first | exact Or.inl rfl | exact Or.inr rfl) rfl (je_abs T.m_abs (je_call c (h ._law_drawn_number) (Nat.le_succ _) (T.g ._law_drawn_number rfl) (T.F ._law_drawn_number).kp (T.b ._law_drawn_number) (jm_m 0 jm_nil) rfl)))
      (jss_cons (js_set (i := 4) sc__law_drawn_line.nd rfl (by first | exact Or.inl rfl | exact Or.inr rfl) rfl (je_lst ja_nil))
      (jss_cons (js_for c (ji_rng1 T.m_range (je_call c (h ._law_take) (Nat.le_succ _) (T.g ._law_take rfl) (T.F ._law_take).kp (T.b ._law_take) (jm_m 0 (jm_d je_int jm_nil)) rfl)) (jg_name 5 sc__law_drawn_line.nd rfl (by first | exact Or.inl rfl | exact Or.inr rfl)) (jss_one (js_expr (je_append (je_var 4) (ja_cons (je_tup (ja_cons (je_call c (h ._law_take) (Nat.le_succ _) (T.g ._law_take rfl) (T.F ._law_take).kp (T.b ._law_take) (jm_m 0 (jm_d je_int jm_nil)) rfl) (ja_cons (je_ix (je_lst (ja_cons je_non (ja_cons (je_call c (h ._law_take) (Nat.le_succ _) (T.g ._law_take rfl) (T.F ._law_take).kp (T.b ._law_take) (jm_m 0 (jm_d je_int jm_nil)) rfl) (ja_cons (je_pow je_int je_int) ja_nil)))) (je_call c (h ._law_take) (Nat.le_succ _) (T.g ._law_take rfl) (T.F ._law_take).kp (T.b ._law_take) (jm_m 0 (jm_d je_int jm_nil)) rfl)) ja_nil))) ja_nil)))) (by decide))
      (jss_cons (js_set (i := 6) sc__law_drawn_line.nd rfl (by first | exact Or.inl rfl | exact Or.inr rfl) rfl (je_call c (h ._law_drawn_number) (Nat.le_succ _) (T.g ._law_drawn_number rfl) (T.F ._law_drawn_number).kp (T.b ._law_drawn_number) (jm_m 0 jm_nil) rfl))
      (jss_cons (js_set (i := 7) sc__law_drawn_line.nd rfl (by first | exact Or.inl rfl | exact Or.inr rfl) rfl (je_call c (h ._law_drawn_number) (Nat.le_succ _) (T.g ._law_drawn_number rfl) (T.F ._law_drawn_number).kp (T.b ._law_drawn_number) (jm_m 0 jm_nil) rfl))
      (jss_cons (js_set (i := 8) sc__law_drawn_line.nd rfl (by first | exact Or.inl rfl | exact Or.inr rfl) rfl (je_lst (ja_cons (je_tup (ja_cons je_str ja_nil)) (ja_cons (je_tup (ja_cons je_str (ja_cons (je_var 3) ja_nil))) (ja_cons (je_tup (ja_cons je_str (ja_cons (je_var 3) ja_nil))) (ja_cons (je_tup (ja_cons je_str (ja_cons (je_var 7) (ja_cons (je_tuple T.m_tuple (je_var 4)) ja_nil)))) (ja_cons (je_tup (ja_cons je_str (ja_cons (je_var 6) (ja_cons (je_var 7) (ja_cons (je_tuple T.m_tuple (je_var 4)) ja_nil))))) ja_nil)))))))
      (jss_one (js_ret (je_tup (ja_cons (je_mv [0] (je_var 2)) (ja_cons (je_ix (je_var 8) (je_call c (h ._law_take) (Nat.le_succ _) (T.g ._law_take rfl) (T.F ._law_take).kp (T.b ._law_take) (jm_m 0 (jm_d je_int jm_nil)) rfl)) ja_nil)))))))))))))
theorem ok__law_line_text (T : Txt K w mg A cl) (h : ∀ i, FnG P w K mg base (L2.CX P w) k (A.f i) (A.d i) (psF i) (spR ⟨K, cl⟩ (msF i) (Φ i))) : FnG P w K mg base (L2.CX P w) (k + 2) (A.f ._law_line_text) (A.d ._law_line_text) (psF ._law_line_text) (spR ⟨K, cl⟩ (msF ._law_line_text) (execF 2 8 [] (b__law_line_text wf Φ))) :=
  def_ok (T.F ._law_line_text) sc__law_line_text (by decide) (by decide) rfl rfl (by decide) fun cdv Ar outer s H E c => (jss_cons (js_unpackD c (jn_cons (i := 2) sc__law_line_text.nd rfl (by first | exact Or.inl rfl | exact Or.inr rfl) (jn_cons (i := 3) sc__law_line_text.nd rfl (by first | exact Or.inl rfl | exact Or.inr rfl) jn_nil)) (je_var 1) rfl (by decide))
      (jss_cons (js_set (i := 4) sc__law_line_text.nd rfl (by first | exact Or.inl rfl | exact Or.inr rfl) rfl (je_add (je_frz (je_lst (ja_cons (je_add (je_strI T.m_str (je_var 0)) je_str) ja_nil))) (je_frz (je_lc (own := [("_law_one", 5)]) c sc__law_line_text.nd (ji_seq (je_var 2)) (blkOk_by (own := [("_law_one", 5)]) (N := N__law_line_text) (sc := defScope s__law_line_text) (by decide +kernel)) (fun _ _ _ _ _ c => (jg_name 5 sc__law_line_text.nd rfl (by first | exact Or.inl rfl | exact Or.inr rfl))) (fun _ _ _ _ _ c => jts_nil) (fun _ _ _ _ _ c => (je_strB c T.m_str (je_var 5))) (by decide)))))
      (jss_cons (js_if (jt_ne c (je_ix (je_var 2) je_int) je_str) (jss_one (js_expr (je_insert (je_var 4) (ja_cons je_int (ja_cons (je_ix (je_lst (ja_cons je_str (ja_cons je_str ja_nil))) (je_int1 T.m_int (je_eq c (je_ix (je_var 2) je_int) je_str))) ja_nil))))) jss_nil)
      (jss_cons (js_expr (je_append (je_var 4) (ja_cons (je_ix (je_var 3) je_int) ja_nil)))
      (jss_cons (js_for c (ji_seq (je_sl (je_var 3) (jo_some je_int) jo_none)) (jg_name 5 sc__law_line_text.nd rfl (by first | exact Or.inl rfl | exact Or.inr rfl)) (jss_one (js_if (jt_val (je_isi "tuple" T.m_isinstance T.m_tuple (je_var 5) rfl (by decide +kernel))) (jss_one (js_for c (ji_seq (je_var 5)) (jg_tup c.calm (jgs_cons (jg_name 6 sc__law_line_text.nd rfl (by first | exact Or.inl rfl | exact Or.inr rfl)) (jgs_cons (jg_name 7 sc__law_line_text.nd rfl (by first | exact Or.inl rfl | exact Or.inr rfl)) jgs_nil))) (jss_one (js_expr (je_append (je_var 4) (ja_cons (je_add (je_add (je_add (je_add je_str (je_strI T.m_str (je_var 6))) je_str) (je_mulS (je_strB c T.m_str (je_var 7)) (je_int1 T.m_int (je_notN (je_var 7))))) je_str) ja_nil)))) (by decide))) (jss_one (js_expr (je_append (je_var 4) (ja_cons (je_strB c T.m_str (je_var 5)) ja_nil)))))) (by decide))
      (jss_one (js_ret (je_join je_str (je_var 4)))))))))
end
end R

namespace R
open PySem PySem.Spec PyProof.Rows L2
open Evl (Ex)
section
variable {P : Program} {w : World} {K : PySem.W.Frag} {mg : Str → Option Value} {base : Heap} {A : Ad} {cl : Str → Addr} {wf k : Nat} {Φ : Fi → List Tr → Ret}
theorem ok__law_lines_text (T : Txt K w mg A cl) (h : ∀ i, FnG P w K mg base (L2.CX P w) k (A.f i) (A.d i) (psF i) (spR ⟨K, cl⟩ (msF i) (Φ i))) : FnG P w K mg base (L2.CX P w) (k + 2) (A.f ._law_lines_text) (A.d ._law_lines_text) (psF ._law_lines_text) (spR ⟨K, cl⟩ (msF ._law_lines_text) (execF 1 2 [] (b__law_lines_text wf Φ))) :=
  def_ok (T.F ._law_lines_text) sc__law_lines_text (by decide) (by decide) rfl rfl (by decide) fun cdv Ar outer s H E c => (jss_one (js_ret (je_join je_str (je_lc (own := [("_law_k", 1)]) c sc__law_lines_text.nd (ji_rng1 T.m_range (je_len T.m_len (je_var 0))) (blkOk_by (own := [("_law_k", 1)]) (N := N__law_lines_text) (sc := defScope s__law_lines_text) (by decide +kernel)) (fun _ _ _ _ _ c => (jg_name 1 sc__law_lines_text.nd rfl (by first | exact Or.inl rfl | exact Or.inr rfl))) (fun _ _ _ _ _ c => jts_nil) (fun _ _ _ _ _ c => (je_call c (h ._law_line_text) (Nat.le_succ _) (T.g ._law_line_text rfl) (T.F ._law_line_text).kp (T.b ._law_line_text) (jm_d (je_var 1) (jm_d (je_ix (je_var 0) (je_var 1)) jm_nil)) rfl)) (by decide)))))
theorem ok__law_number (T : Txt K w mg A cl) (h : ∀ i, FnG P w K mg base (L2.CX P w) k (A.f i) (A.d i) (psF i) (spR ⟨K, cl⟩ (msF i) (Φ i))) : FnG P w K mg base (L2.CX P w) (k + 2) (A.f ._law_number) (A.d ._law_number) (psF ._law_number) (spR ⟨K, cl⟩ (msF ._law_number) (execF 2 4 [] (b__law_number wf Φ))) :=
  def_ok (T.F ._law_number) sc__law_number (by decide) (by decide) rfl rfl (by decide) fun cdv Ar outer s H E c => (jss_cons (js_set (i := 2) sc__law_number.nd rfl (by first | exact Or.inl rfl | exact Or.inr rfl) rfl (je_var 0))
      (jss_cons (js_if (jt_w (jw_and (jt_val (je_var 1)) (jw_and1 (jt_eq c (je_sl (je_var 0) jo_none (jo_some je_int)) je_str)))) (jss_one (js_set (i := 2) sc__law_number.nd rfl (by first | exact Or.inl rfl | exact Or.inr rfl) rfl (je_sl (je_var 0) (jo_some je_int) jo_none))) jss_nil)
      (jss_cons (js_if (jt_w (jw_or (jt_eq c (je_var 2) je_str) (jw_or1 (jt_ne c (je_lc (own := [("_law_sign", 3)]) c sc__law_number.nd (ji_str (je_var 2)) (blkOk_by (own := [("_law_sign", 3)]) (N := N__law_number) (sc := defScope s__law_number) (by decide +kernel)) (fun _ _ _ _ _ c => (jg_name 3 sc__law_number.nd rfl (by first | exact Or.inl rfl | exact Or.inr rfl))) (fun _ _ _ _ _ c => (jts_one (jt_niS (je_var 3) je_str))) (fun _ _ _ _ _ c => (je_var 3)) (by decide)) (je_lst ja_nil))))) (jss_one (js_ret je_non)) jss_nil)
      (jss_cons (js_if (jt_w (jw_and (jt_eq c (je_ix (je_var 2) je_int) je_str) (jw_and1 (jt_ne c (je_var 0) je_str)))) (jss_one (js_ret je_non)) jss_nil)
      (jss_cons (js_if (jt_ne c (je_var 2) (je_var 0)) (jss_one (js_ret (je_sub je_int (je_intS T.m_int (je_var 2))))) jss_nil)
      (jss_one (js_ret (je_intS T.m_int (je_var 2)))))))))
theorem ok__law_part (T : Txt K w mg A cl) (h : ∀ i, FnG P w K mg base (L2.CX P w) k (A.f i) (A.d i) (psF i) (spR ⟨K, cl⟩ (msF i) (Φ i))) : FnG P w K mg base (L2.CX P w) (k + 2) (A.f ._law_part) (A.d ._law_part) (psF ._law_part) (spR ⟨K, cl⟩ (msF ._law_part) (execF 1 4 [] (b__law_part wf Φ))) :=
  def_ok (T.F ._law_part) sc__law_part (by decide) (by decide) rfl rfl (by decide) fun cdv Ar outer s H E c => (jss_cons (js_set (i := 1) sc__law_part.nd rfl (by first | exact Or.inl rfl | exact Or.inr rfl) rfl (je_split (je_sl (je_var 0) (jo_some je_int) (jo_some (je_neg je_int))) je_str))
      (jss_cons (js_if (jt_w (jw_or (jt_ne c (je_sl (je_var 0) jo_none (jo_some je_int)) je_str) (jw_or (jt_ne c (je_sl (je_var 0) (jo_some (je_neg je_int)) jo_none) je_str) (jw_or (jt_lt (je_len T.m_len (je_var 0)) je_int) (jw_or1 (jt_ne c (je_len T.m_len (je_var 1)) je_int)))))) (jss_one (js_ret je_non)) jss_nil)
      (jss_cons (js_par (i := 2) (j := 3) c sc__law_part.nd rfl rfl (by decide) rfl rfl rfl rfl (ja_cons (je_call c (h ._law_number) (Nat.le_succ _) (T.g ._law_number rfl) (T.F ._law_number).kp (T.b ._law_number) (jm_d (je_ix (je_var 1) je_int) (jm_d je_bl jm_nil)) rfl) (ja_cons (je_call c (h ._law_number) (Nat.le_succ _) (T.g ._law_number rfl) (T.F ._law_number).kp (T.b ._law_number) (jm_d (je_ix (je_var 1) je_int) (jm_d je_bl jm_nil)) rfl) ja_nil)))
      (jss_cons (js_if (jt_w (jw_or (jt_isN (je_var 2)) (jw_or1 (jt_w (jw_and (jt_isN (je_var 3)) (jw_and1 (jt_ne c (je_ix (je_var 1) je_int) je_str))))))) (jss_one (js_ret je_non)) jss_nil)
      (jss_one (js_ret (je_tup (ja_cons (je_mv [] (je_var 2)) (ja_cons (je_mv [] (je_var 3)) ja_nil)))))))))
theorem ok__law_why_read (T : Txt K w mg A cl) (h : ∀ i, FnG P w K mg base (L2.CX P w) k (A.f i) (A.d i) (psF i) (spR ⟨K, cl⟩ (msF i) (Φ i))) : FnG P w K mg base (L2.CX P w) (k + 2) (A.f ._law_why_read) (A.d ._law_why_read) (psF ._law_why_read) (spR ⟨K, cl⟩ (msF ._law_why_read) (execF 1 6 [] (b__law_why_read wf Φ))) :=
  def_ok (T.F ._law_why_read) sc__law_why_read (by decide) (by decide) rfl rfl (by decide) fun cdv Ar outer s H E c => (jss_cons (js_if (jt_eq c (je_var 0) (je_lst (ja_cons je_str ja_nil))) (jss_one (js_ret (je_tup (ja_cons je_str ja_nil)))) jss_nil)
      (jss_cons (js_if (jt_w (jw_and (jt_eq c (je_len T.m_len (je_var 0)) je_int) (jw_and1 (jt_in c (je_ix (je_var 0) je_int) (je_lst (ja_cons je_str (ja_cons je_str ja_nil))))))) (jss_cons (js_set (i := 1) sc__law_why_read.nd rfl (by first | exact Or.inl rfl | exact Or.inr rfl) rfl (je_call c (h ._law_number) (Nat.le_succ _) (T.g ._law_number rfl) (T.F ._law_number).kp (T.b ._law_number) (jm_d (je_ix (je_var 0) je_int) (jm_d je_bl jm_nil)) rfl))
      (jss_one (js_ret (je_ix (je_lst (ja_cons (je_tup (ja_cons (je_ix (je_var 0) je_int) (ja_cons (je_var 1) ja_nil))) (ja_cons je_non ja_nil))) (je_int1 T.m_int (je_isN (je_var 1))))))) jss_nil)
      (jss_cons (js_set (i := 2) sc__law_why_read.nd rfl (by first | exact Or.inl rfl | exact Or.inr rfl) rfl (je_ix (je_lst (ja_cons je_int (ja_cons je_int ja_nil))) (je_int1 T.m_int (je_eq c (je_sl (je_var 0) jo_none (jo_some je_int)) (je_lst (ja_cons je_str ja_nil))))))
      (jss_cons (js_if (jt_w (jw_or (jt_ni c (je_sl (je_var 0) jo_none (jo_some je_int)) (je_lst (ja_cons (je_lst (ja_cons je_str ja_nil)) (ja_cons (je_lst (ja_cons je_str ja_nil)) ja_nil)))) (jw_or1 (jt_lt (je_len T.m_len (je_var 0)) (je_add (je_var 2) je_int))))) (jss_one (js_ret je_non)) jss_nil)
      (jss_cons (js_setLc (i := 3) (own := [("_law_word", 5)]) c sc__law_why_read.nd rfl rfl (sw_true rfl rfl rfl (by decide +kernel)) rfl (ji_seq (je_sl (je_var 0) (jo_some je_int) (jo_some (je_add (je_var 2) je_int)))) (blkOk_by (own := [("_law_word", 5)]) (N := N__law_why_read) (sc := defScope s__law_why_read) (by decide +kernel)) (fun _ _ _ _ _ c => (jg_name 5 sc__law_why_read.nd rfl (by first | exact Or.inl rfl | exact Or.inr rfl))) (fun _ _ _ _ _ c => jts_nil) (fun _ _ _ _ _ c => (je_call c (h ._law_number) (Nat.le_succ _) (T.g ._law_number rfl) (T.F ._law_number).kp (T.b ._law_number) (jm_d (je_var 5) (jm_d je_bl jm_nil)) rfl)) (by decide))
      (jss_cons (js_setLc (i := 4) (own := [("_law_word", 5)]) c sc__law_why_read.nd rfl rfl (sw_true rfl rfl rfl (by decide +kernel)) rfl (ji_seq (je_sl (je_var 0) (jo_some (je_add (je_var 2) je_int)) jo_none)) (blkOk_by (own := [("_law_word", 5)]) (N := N__law_why_read) (sc := defScope s__law_why_read) (by decide +kernel)) (fun _ _ _ _ _ c => (jg_name 5 sc__law_why_read.nd rfl (by first | exact Or.inl rfl | exact Or.inr rfl))) (fun _ _ _ _ _ c => jts_nil) (fun _ _ _ _ _ c => (je_call c (h ._law_part) (Nat.le_succ _) (T.g ._law_part rfl) (T.F ._law_part).kp (T.b ._law_part) (jm_d (je_var 5) jm_nil) rfl)) (by decide))
      (jss_cons (js_if (jt_in c je_non (je_add (je_var 3) (je_var 4))) (jss_one (js_ret je_non)) jss_nil)
      (jss_one (js_ret (je_add (je_add (je_tup (ja_cons (je_ix (je_var 0) je_int) ja_nil)) (je_tuple T.m_tuple (je_var 3))) (je_tup (ja_cons (je_tuple T.m_tuple (je_var 4)) ja_nil))))))))))))
theorem ok__law_line_read (T : Txt K w mg A cl) (h : ∀ i, FnG P w K mg base (L2.CX P w) k (A.f i) (A.d i) (psF i) (spR ⟨K, cl⟩ (msF i) (Φ i))) : FnG P w K mg base (L2.CX P w) (k + 2) (A.f ._law_line_read) (A.d ._law_line_read) (psF ._law_line_read) (spR ⟨K, cl⟩ (msF ._law_line_read) (execF 2 6 [] (b__law_line_read wf Φ))) :=
  def_ok (T.F ._law_line_read) sc__law_line_read (by decide) (by decide) rfl rfl (by decide) fun cdv Ar outer s H E c => (jss_cons (js_set (i := 2) sc__law_line_read.nd rfl (by first | exact Or.inl rfl | exact Or.inr rfl) rfl (je_split (je_var 1) je_str))
      (jss_cons (js_if (jt_w (jw_or (jt_ne c (je_ix (je_var 2) je_int) (je_add (je_strI T.m_str (je_var 0)) je_str)) (jw_or1 (jt_lt (je_len T.m_len (je_var 2)) je_int)))) (jss_one (js_ret je_non)) jss_nil)
      (jss_cons (js_set (i := 3) sc__law_line_read.nd rfl (by first | exact Or.inl rfl | exact Or.inr rfl) rfl (je_tup (ja_cons je_str ja_nil)))
      (jss_cons (js_set (i := 4) sc__law_line_read.nd rfl (by first | exact Or.inl rfl | exact Or.inr rfl) rfl (je_sl (je_var 2) (jo_some je_int) jo_none))
      (jss_cons (js_if (jt_ne c (je_ix (je_var 2) je_int) je_str) (jss_cons (js_if (jt_w (jw_or (jt_ni c (je_ix (je_var 2) je_int) (je_lst (ja_cons je_str (ja_cons je_str ja_nil)))) (jw_or (jt_lt (je_len T.m_len (je_var 2)) je_int) (jw_or1 (jt_ne c (je_ix (je_var 2) je_int) (je_ix (je_lst (ja_cons je_str (ja_cons je_str ja_nil))) (je_int1 T.m_int (je_eq c (je_ix (je_var 2) je_int) je_str)))))))) (jss_one (js_ret je_non)) jss_nil)
      (jss_cons (js_set (i := 3) sc__law_line_read.nd rfl (by first | exact Or.inl rfl | exact Or.inr rfl) rfl (je_tup (ja_cons (je_ix (je_var 2) je_int) (ja_cons (je_call c (h ._law_number) (Nat.le_succ _) (T.g ._law_number rfl) (T.F ._law_number).kp (T.b ._law_number) (jm_d (je_ix (je_var 2) je_int) (jm_d je_bl jm_nil)) rfl) (ja_cons (je_call c (h ._law_number) (Nat.le_succ _) (T.g ._law_number rfl) (T.F ._law_number).kp (T.b ._law_number) (jm_d (je_ix (je_var 2) je_int) (jm_d je_bl jm_nil)) rfl) ja_nil)))))
      (jss_one (js_set (i := 4) sc__law_line_read.nd rfl (by first | exact Or.inl rfl | exact Or.inr rfl) rfl (je_sl (je_var 2) (jo_some je_int) jo_none))))) jss_nil)
      (jss_cons (js_set (i := 5) sc__law_line_read.nd rfl (by first | exact Or.inl rfl | exact Or.inr rfl) rfl (je_call c (h ._law_why_read) (Nat.le_succ _) (T.g ._law_why_read rfl) (T.F ._law_why_read).kp (T.b ._law_why_read) (jm_d (je_var 4) jm_nil) rfl))
      (jss_cons (js_if (jt_w (jw_or (jt_nit c je_non (je_var 3)) (jw_or1 (jt_isN (je_var 5))))) (jss_one (js_ret je_non)) jss_nil)
      (jss_one (js_ret (je_tup (ja_cons (je_mv [] (je_var 3)) (ja_cons (je_mv [] (je_var 5)) ja_nil))))))))))))
end
end R

namespace R
open PySem PySem.Spec PyProof.Rows L2
open Evl (Ex)
section
variable {P : Program} {w : World} {K : PySem.W.Frag} {mg : Str → Option Value} {base : Heap} {A : Ad} {cl : Str → Addr} {wf k : Nat} {Φ : Fi → List Tr → Ret}
theorem ok__law_read (T : Txt K w mg A cl) (h : ∀ i, FnG P w K mg base (L2.CX P w) k (A.f i) (A.d i) (psF i) (spR ⟨K, cl⟩ (msF i) (Φ i))) : FnG P w K mg base (L2.CX P w) (k + 2) (A.f ._law_read) (A.d ._law_read) (psF ._law_read) (spR ⟨K, cl⟩ (msF ._law_read) (execF 1 5 [] (b__law_read wf Φ))) :=
  def_ok (T.F ._law_read) sc__law_read (by decide) (by decide) rfl rfl (by decide) fun cdv Ar outer s H E c => (jss_cons (js_set (i := 1) sc__law_read.nd rfl (by first | exact Or.inl rfl | exact Or.inr rfl) rfl (je_lst ja_nil))
      (jss_cons (js_set (i := 2) sc__law_read.nd rfl (by first | exact Or.inl rfl | exact Or.inr rfl) rfl (je_split (je_var 0) je_str))
      (jss_cons (js_for c (ji_rng1 T.m_range (je_mul (je_len T.m_len (je_var 2)) (je_int1 T.m_int (je_ne c (je_var 0) je_str)))) (jg_name 3 sc__law_read.nd rfl (by first | exact Or.inl rfl | exact Or.inr rfl)) (jss_cons (js_set (i := 4) sc__law_read.nd rfl (by first | exact Or.inl rfl | exact Or.inr rfl) rfl (je_call c (h ._law_line_read) (Nat.le_succ _) (T.g ._law_line_read rfl) (T.F ._law_line_read).kp (T.b ._law_line_read) (jm_d (je_var 3) (jm_d (je_ix (je_var 2) (je_var 3)) jm_nil)) rfl))
      (jss_cons (js_if (jt_isN (je_var 4)) (jss_one (js_ret (je_add (je_var 3) je_int))) jss_nil)
      (jss_one (js_expr (je_append (je_var 1) (ja_cons (je_var 4) ja_nil)))))) (by decide))
      (jss_one (js_ret (je_mv [] (je_var 1)))))))
theorem ok__law_answer (T : Txt K w mg A cl) (h : ∀ i, FnG P w K mg base (L2.CX P w) k (A.f i) (A.d i) (psF i) (spR ⟨K, cl⟩ (msF i) (Φ i))) : FnG P w K mg base (L2.CX P w) (k + 2) (A.f ._law_answer) (A.d ._law_answer) (psF ._law_answer) (spR ⟨K, cl⟩ (msF ._law_answer) (execF 1 4 [] (b__law_answer wf Φ))) :=
  def_ok (T.F ._law_answer) sc__law_answer (by decide) (by decide) rfl rfl (by decide) fun cdv Ar outer s H E c => (jss_cons (js_set (i := 1) sc__law_answer.nd rfl (by first | exact Or.inl rfl | exact Or.inr rfl) rfl je_non)
      (jss_cons (js_set (i := 2) sc__law_answer.nd rfl (by first | exact Or.inl rfl | exact Or.inr rfl) rfl je_non)
      (jss_cons (js_try (i := 3) c sc__law_answer.nd T.gx_JobError T.xt_JobError (fun W pn xe c => (jss_one (js_set (i := 2) sc__law_answer.nd rfl (by first | exact Or.inl rfl | exact Or.inr rfl) rfl (je_call c (h .read_lines) (Nat.le_succ _) (T.g .read_lines rfl) (T.F .read_lines).kp (T.b .read_lines) (jm_d (je_var 0) jm_nil) rfl)))) (fun _ _ => (jss_one (js_set (i := 1) sc__law_answer.nd rfl (by first | exact Or.inl rfl | exact Or.inr rfl) rfl (je_var 3)))))
      (jss_cons (js_if (jt_isN (je_var 1)) (jss_one (js_ret (je_mv [] (je_var 2)))) jss_nil)
      (jss_cons (js_if (jt_w (jw_or (jt_ne c (je_call c (h ._law_error) (Nat.le_succ _) (T.g ._law_error rfl) (T.F ._law_error).kp (T.b ._law_error) (jm_d (je_var 1) jm_nil) rfl) je_str) (jw_or1 (jt_not (jt_val (je_call c (h ._law_whole) (Nat.le_succ _) (T.g ._law_whole rfl) (T.F ._law_whole).kp (T.b ._law_whole) (jm_d (je_xf T.xn_NoText (je_var 1)) jm_nil) rfl)))))) (jss_one (js_ret je_non)) jss_nil)
      (jss_one (js_ret (je_mv [] (je_xf T.xn_NoText (je_var 1))))))))))
theorem ok__law_bent (T : Txt K w mg A cl) (h : ∀ i, FnG P w K mg base (L2.CX P w) k (A.f i) (A.d i) (psF i) (spR ⟨K, cl⟩ (msF i) (Φ i))) : FnG P w K mg base (L2.CX P w) (k + 2) (A.f ._law_bent) (A.d ._law_bent) (psF ._law_bent) (spR ⟨K, cl⟩ (msF ._law_bent) (execF 2 12 [0] (b__law_bent wf Φ))) :=
  def_ok (T.F ._law_bent) sc__law_bent (by decide) (by decide) rfl rfl (by decide) fun cdv Ar outer s H E c => (jss_cons (js_set (i := 2) sc__law_bent.nd rfl (by first | exact Or.inl rfl | exact Or.inr rfl) rfl (je_call c (h ._law_take) (Nat.le_succ _) (T.g ._law_take rfl) (T.F ._law_take).kp (T.b ._law_take) (jm_m 0 (jm_d je_int jm_nil)) rfl))
      (jss_cons (js_set (i := 3) sc__law_bent.nd rfl (by first | exact Or.inl rfl | exact Or.inr rfl) rfl (je_call c (h ._law_take) (Nat.le_succ _) (T.g ._law_take rfl) (T.F ._law_take).kp (T.b ._law_take) (jm_m 0 (jm_d (je_add (je_len T.m_len (je_var 1)) je_int) jm_nil)) rfl))
      (jss_cons (js_set (i := 4) sc__law_bent.nd rfl (by first | exact Or.inl rfl | exact Or.inr rfl) rfl je_str)
      (jss_cons (js_set (i := 5) sc__law_bent.nd rfl (by first | exact Or.inl rfl | exact Or.inr rfl) rfl (je_ix (je_var 4) (je_call c (h ._law_take) (Nat.le_succ _) (T.g ._law_take rfl) (T.F ._law_take).kp (T.b ._law_take) (jm_m 0 (jm_d (je_len T.m_len (je_var 4)) jm_nil)) rfl)))
      (jss_cons (js_set (i := 6) sc__law_bent.nd rfl (by first | exact Or.inl rfl | exact Or.inr rfl) rfl (je_split (je_var 1) je_str))
      (jss_cons (js_set (i := 7) sc__law_bent.nd rfl (by first | exact Or.inl rfl | exact Or.inr rfl) rfl (je_call c (h ._law_take) (Nat.le_succ _) (T.g ._law_take rfl) (T.F ._law_take).kp (T.b ._law_take) (jm_m 0 (jm_d (je_len T.m_len (je_var 6)) jm_nil)) rfl))
      (jss_cons (js_set (i := 8) sc__law_bent.nd rfl (by first | exact Or.inl rfl | exact Or.inr rfl) rfl (je_call c (h ._law_take) (Nat.le_succ _) (T.g ._law_take rfl) (T.F ._law_take).kp (T.b ._law_take) (jm_m 0 (jm_d (je_len T.m_len (je_var 6)) jm_nil)) rfl))
      (jss_cons (js_if (jt_lt (je_var 2) je_int) (jss_one (js_ret (je_add (je_add (je_sl (je_var 1) jo_none (jo_some (je_var 3))) (je_ix (je_lst (ja_cons je_str (ja_cons (je_var 5) (ja_cons (je_var 5) ja_nil)))) (je_var 2))) (je_sl (je_var 1) (jo_some (je_add (je_var 3) (je_ix (je_lst (ja_cons je_int (ja_cons je_int (ja_cons je_int ja_nil)))) (je_var 2)))) jo_none)))) jss_nil)
      (jss_cons (js_if (jt_eq c (je_var 2) je_int) (jss_one (js_ret (je_join je_str (je_add (je_add (je_sl (je_var 6) jo_none (jo_some (je_var 7))) (je_lst (ja_cons (je_ix (je_var 6) (je_var 8)) ja_nil))) (je_sl (je_var 6) (jo_some (je_var 7)) jo_none))))) jss_nil)
      (jss_cons (js_if (jt_eq c (je_var 2) je_int) (jss_one (js_ret (je_join je_str (je_add (je_sl (je_var 6) jo_none (jo_some (je_var 7))) (je_sl (je_var 6) (jo_some (je_add (je_var 7) je_int)) jo_none))))) jss_nil)
      (jss_cons (js_set (i := 9) sc__law_bent.nd rfl (by first | exact Or.inl rfl | exact Or.inr rfl) rfl (je_split (je_ix (je_var 6) (je_var 7)) je_str))
      (jss_cons (js_set (i := 10) sc__law_bent.nd rfl (by first | exact Or.inl rfl | exact Or.inr rfl) rfl (je_call c (h ._law_take) (Nat.le_succ _) (T.g ._law_take rfl) (T.F ._law_take).kp (T.b ._law_take) (jm_m 0 (jm_d (je_len T.m_len (je_var 9)) jm_nil)) rfl))
      (jss_cons (js_set (i := 11) sc__law_bent.nd rfl (by first | exact Or.inl rfl | exact Or.inr rfl) rfl (je_lst (ja_cons je_str (ja_cons je_str (ja_cons je_str (ja_cons je_str (ja_cons je_str (ja_cons je_str (ja_cons je_str (ja_cons je_str (ja_cons je_str (ja_cons je_str (ja_cons je_str (ja_cons je_str (ja_cons je_str (ja_cons je_str ja_nil))))))))))))))))
      (jss_cons (js_expr (je_append (je_var 11) (ja_cons je_str ja_nil)))
      (jss_cons (js_if (jt_lt (je_var 2) je_int) (jss_one (js_sto (je_ix (je_var 11) (je_call c (h ._law_take) (Nat.le_succ _) (T.g ._law_take rfl) (T.F ._law_take).kp (T.b ._law_take) (jm_m 0 (jm_d je_int jm_nil)) rfl)) (je_var 9) (je_var 10))) (jss_one (js_if (jt_eq c (je_var 2) je_int) (jss_one (js_set (i := 9) sc__law_bent.nd rfl (by first | exact Or.inl rfl | exact Or.inr rfl) rfl (je_add (je_sl (je_var 9) jo_none (jo_some (je_add (je_var 10) je_int))) (je_sl (je_var 9) (jo_some (je_var 10)) jo_none)))) (jss_one (js_if (jt_eq c (je_var 2) je_int) (jss_one (js_set (i := 9) sc__law_bent.nd rfl (by first | exact Or.inl rfl | exact Or.inr rfl) rfl (je_add (je_sl (je_var 9) jo_none (jo_some (je_var 10))) (je_sl (je_var 9) (jo_some (je_add (je_var 10) je_int)) jo_none)))) jss_nil)))))
      (jss_cons (js_sto (je_join je_str (je_var 9)) (je_var 6) (je_var 7))
      (jss_one (js_ret (je_add (je_join je_str (je_var 6)) (je_mulS je_str (je_int1 T.m_int (je_eq c (je_var 2) je_int))))))))))))))))))))))
theorem ok_law (T : Txt K w mg A cl) (h : ∀ i, FnG P w K mg base (L2.CX P w) k (A.f i) (A.d i) (psF i) (spR ⟨K, cl⟩ (msF i) (Φ i))) : FnG P w K mg base (L2.CX P w) (k + 2) (A.f .law) (A.d .law) (psF .law) (spR ⟨K, cl⟩ (msF .law) (execF 1 9 [0] (b_law wf Φ))) :=
  def_ok (T.F .law) sc_law (by decide) (by decide) rfl rfl (by decide) fun cdv Ar outer s H E c => (jss_cons (js_for c (ji_rng1 T.m_range (je_max2 c T.m_max je_int (je_min2 c T.m_min (je_len T.m_len (je_var 0)) je_int))) (jg_name 1 sc_law.nd rfl (by first | exact Or.inl rfl | exact Or.inr rfl)) (jss_cons (js_set (i := 2) sc_law.nd rfl (by first | exact Or.inl rfl | exact Or.inr rfl) rfl (je_call c (h ._law_pile) (Nat.le_succ _) (T.g ._law_pile rfl) (T.F ._law_pile).kp (T.b ._law_pile) (jm_m 0 (jm_d (je_var 1) jm_nil)) rfl))
      (jss_cons (js_set (i := 3) sc_law.nd rfl (by first | exact Or.inl rfl | exact Or.inr rfl) rfl (je_call c (h ._law_lines_text) (Nat.le_succ _) (T.g ._law_lines_text rfl) (T.F ._law_lines_text).kp (T.b ._law_lines_text) (jm_d (je_lc (own := [("_law_j", 8)]) c sc_law.nd (ji_rng1 T.m_range (je_add je_int (je_call c (h ._law_take) (Nat.le_succ _) (T.g ._law_take rfl) (T.F ._law_take).kp (T.b ._law_take) (jm_m 2 (jm_d je_int jm_nil)) rfl))) (blkOk_by (own := [("_law_j", 8)]) (N := N_law) (sc := defScope s_law) (by decide +kernel)) (fun _ _ _ _ _ c => (jg_name 8 sc_law.nd rfl (by first | exact Or.inl rfl | exact Or.inr rfl))) (fun _ _ _ _ _ c => jts_nil) (fun _ _ _ _ _ c => (je_call c (h ._law_drawn_line) (Nat.le_succ _) (T.g ._law_drawn_line rfl) (T.F ._law_drawn_line).kp (T.b ._law_drawn_line) (jm_m 2 jm_nil) rfl)) (by decide)) jm_nil) rfl))
      (jss_one (js_for c (ji_rng1 T.m_range je_int) (jg_name 4 sc_law.nd rfl (by first | exact Or.inl rfl | exact Or.inr rfl)) (jss_cons (js_set (i := 5) sc_law.nd rfl (by first | exact Or.inl rfl | exact Or.inr rfl) rfl (je_call c (h ._law_bent) (Nat.le_succ _) (T.g ._law_bent rfl) (T.F ._law_bent).kp (T.b ._law_bent) (jm_m 2 (jm_d (je_var 3) jm_nil)) rfl))
      (jss_one (js_for c (ji_seq (je_lst (ja_cons (je_var 5) (ja_cons (je_call c (h ._law_bent) (Nat.le_succ _) (T.g ._law_bent rfl) (T.F ._law_bent).kp (T.b ._law_bent) (jm_m 2 (jm_d (je_var 5) jm_nil)) rfl) ja_nil)))) (jg_name 6 sc_law.nd rfl (by first | exact Or.inl rfl | exact Or.inr rfl)) (jss_one (js_if (jt_ne c (je_reprA c T.m_repr (je_call c (h ._law_answer) (Nat.le_succ _) (T.g ._law_answer rfl) (T.F ._law_answer).kp (T.b ._law_answer) (jm_d (je_var 6) jm_nil) rfl)) (je_reprA c T.m_repr (je_call c (h ._law_read) (Nat.le_succ _) (T.g ._law_read rfl) (T.F ._law_read).kp (T.b ._law_read) (jm_d (je_var 6) jm_nil) rfl))) (jss_one (js_ret je_bl)) jss_nil)) (by decide)))) (by decide))))) (by decide))
      (jss_cons (js_set (i := 7) sc_law.nd rfl (by first | exact Or.inl rfl | exact Or.inr rfl) rfl (je_lst (ja_cons je_str (ja_cons je_str (ja_cons je_str (ja_cons je_str (ja_cons je_str (ja_cons je_str (ja_cons je_str (ja_cons je_str ja_nil))))))))))
      (jss_cons (js_set (i := 7) sc_law.nd rfl (by first | exact Or.inl rfl | exact Or.inr rfl) rfl (je_add (je_var 7) (je_lst (ja_cons je_str (ja_cons je_str (ja_cons je_str (ja_cons je_str ja_nil)))))))
      (jss_cons (js_set (i := 7) sc_law.nd rfl (by first | exact Or.inl rfl | exact Or.inr rfl) rfl (je_add (je_var 7) (je_lst (ja_cons je_str (ja_cons je_str (ja_cons je_str (ja_cons je_str ja_nil)))))))
      (jss_cons (js_set (i := 7) sc_law.nd rfl (by first | exact Or.inl rfl | exact Or.inr rfl) rfl (je_add (je_var 7) (je_lst (ja_cons je_str (ja_cons je_str (ja_cons je_str (ja_cons je_str (ja_cons je_str ja_nil))))))))
      (jss_cons (js_set (i := 7) sc_law.nd rfl (by first | exact Or.inl rfl | exact Or.inr rfl) rfl (je_add (je_var 7) (je_lst (ja_cons je_str (ja_cons je_str (ja_cons je_str ja_nil))))))
      (jss_cons (js_set (i := 7) sc_law.nd rfl (by first | exact Or.inl rfl | exact Or.inr rfl) rfl (je_add (je_var 7) (je_lst (ja_cons je_str (ja_cons je_str (ja_cons je_str (ja_cons je_str ja_nil)))))))
      (jss_cons (js_set (i := 7) sc_law.nd rfl (by first | exact Or.inl rfl | exact Or.inr rfl) rfl (je_add (je_var 7) (je_lst (ja_cons je_str (ja_cons je_str (ja_cons je_str (ja_cons je_str ja_nil)))))))
      (jss_cons (js_set (i := 7) sc_law.nd rfl (by first | exact Or.inl rfl | exact Or.inr rfl) rfl (je_add (je_var 7) (je_lst (ja_cons je_str (ja_cons je_str (ja_cons je_str (ja_cons je_str ja_nil)))))))
      (jss_one (js_ret (je_eq c (je_lc (own := [("_law_text", 3)]) c sc_law.nd (ji_seq (je_var 7)) (blkOk_by (own := [("_law_text", 3)]) (N := N_law) (sc := defScope s_law) (by decide +kernel)) (fun _ _ _ _ _ c => (jg_name 3 sc_law.nd rfl (by first | exact Or.inl rfl | exact Or.inr rfl))) (fun _ _ _ _ _ c => (jts_one (jt_ne c (je_reprA c T.m_repr (je_call c (h ._law_answer) (Nat.le_succ _) (T.g ._law_answer rfl) (T.F ._law_answer).kp (T.b ._law_answer) (jm_d (je_var 3) jm_nil) rfl)) (je_reprA c T.m_repr (je_call c (h ._law_read) (Nat.le_succ _) (T.g ._law_read rfl) (T.F ._law_read).kp (T.b ._law_read) (jm_d (je_var 3) jm_nil) rfl))))) (fun _ _ _ _ _ c => (je_var 3)) (by decide)) (je_lst ja_nil)))))))))))))
end
end R

namespace R
open PySem PySem.Spec PyProof.Rows L2
open Evl (Ex)
section
variable {P : Program} {w : World} {K : PySem.W.Frag} {mg : Str → Option Value} {base : Heap} {A : Ad} {cl : Str → Addr} {wf k : Nat} {Φ : Fi → List Tr → Ret}
theorem hl_all : ∀ (n : Nat), lvB (run wf n) ._law_whole = true → 2 ≤ 2 * n + 1
  | 0, h => nomatch h
  | n + 1, _ => by omega
theorem ok_all (T : Txt K w mg A cl) : ∀ (n : Nat) (i : Fi), FnG P w K mg base (L2.CX P w) (2 * n) (A.f i) (A.d i) (psF i) (spR ⟨K, cl⟩ (msF i) (run wf n i))
  | 0, i => fnG_no
  | n + 1, i => by
    have h := ok_all T n
    cases i with
    | number_read => exact ok_number_read T h
    | whole_read => exact ok_whole_read T h
    | part_read => exact ok_part_read T h
    | statement_read => exact ok_statement_read T h
    | reason_read => exact ok_reason_read T h
    | line_read => exact ok_line_read T h
    | read_lines => exact ok_read_lines T h (hl_all n)
    | _law_mixed => exact ok__law_mixed T h
    | _law_pile => exact ok__law_pile T h
    | _law_take => exact ok__law_take T h
    | _law_whole => exact ok__law_whole T h
    | _law_flags => exact ok__law_flags T h
    | _law_error => exact ok__law_error T h
    | _law_drawn_number => exact ok__law_drawn_number T h
    | _law_drawn_line => exact ok__law_drawn_line T h
    | _law_line_text => exact ok__law_line_text T h
    | _law_lines_text => exact ok__law_lines_text T h
    | _law_number => exact ok__law_number T h
    | _law_part => exact ok__law_part T h
    | _law_why_read => exact ok__law_why_read T h
    | _law_line_read => exact ok__law_line_read T h
    | _law_read => exact ok__law_read T h
    | _law_answer => exact ok__law_answer T h
    | _law_bent => exact ok__law_bent T h
    | NoText___init__ => exact fnG_no
    | law => exact ok_law T h
end
end R

namespace R
open PySem PySem.Spec PyProof.Rows L2
open Evl (Ex)
theorem en_number_read {wf n : Nat} {a0 : Tr} : run wf (n + 1) .number_read [a0] = finR [] (b_number_read wf (run wf n) [.o a0, .o .un]) := (rfl)
theorem en_whole_read {wf n : Nat} {a0 : Tr} : run wf (n + 1) .whole_read [a0] = finR [] (b_whole_read wf (run wf n) [.o a0, .o .un]) := (rfl)
theorem en_part_read {wf n : Nat} {a0 : Tr} : run wf (n + 1) .part_read [a0] = finR [] (b_part_read wf (run wf n) [.o a0, .o .un, .o .un, .o .un]) := (rfl)
theorem en_statement_read {wf n : Nat} {a0 : Tr} : run wf (n + 1) .statement_read [a0] = finR [] (b_statement_read wf (run wf n) [.o a0, .o .un, .o .un]) := (rfl)
theorem en_reason_read {wf n : Nat} {a0 : Tr} : run wf (n + 1) .reason_read [a0] = finR [] (b_reason_read wf (run wf n) [.o a0, .o .un, .o .un, .o .un, .o .un]) := (rfl)
theorem en_line_read {wf n : Nat} {a0 a1 : Tr} : run wf (n + 1) .line_read [a0, a1] = finR [] (b_line_read wf (run wf n) [.o a0, .o a1, .o .un, .o .un, .o .un]) := (rfl)
theorem en_read_lines {wf n : Nat} {a0 : Tr} : run wf (n + 1) .read_lines [a0] = finR [] (b_read_lines wf (run wf n) [.o a0, .o .un, .o .un, .o .un, .o .un]) := (rfl)
theorem en__law_mixed {wf n : Nat} {a0 a1 : Tr} : run wf (n + 1) ._law_mixed [a0, a1] = finR [] (b__law_mixed wf (run wf n) [.o a0, .o a1, .o .un]) := (rfl)
theorem en__law_pile {wf n : Nat} {a0 a1 : Tr} : run wf (n + 1) ._law_pile [a0, a1] = finR [0] (b__law_pile wf (run wf n) [.o a0, .o a1, .o .un, .o .un, .o .un]) := (rfl)
theorem en__law_take {wf n : Nat} {a0 a1 : Tr} : run wf (n + 1) ._law_take [a0, a1] = finR [0] (b__law_take wf (run wf n) [.o a0, .o a1, .o .un]) := (rfl)
theorem en__law_whole {wf n : Nat} {a0 : Tr} : run wf (n + 1) ._law_whole [a0] = finR [] (b__law_whole wf (run wf n) [.o a0]) := (rfl)
theorem en__law_drawn_number {wf n : Nat} {a0 : Tr} : run wf (n + 1) ._law_drawn_number [a0] = finR [0] (b__law_drawn_number wf (run wf n) [.o a0, .o .un]) := (rfl)
theorem en__law_drawn_line {wf n : Nat} {a0 : Tr} : run wf (n + 1) ._law_drawn_line [a0] = finR [0] (b__law_drawn_line wf (run wf n) [.o a0, .o .un, .o .un, .o .un, .o .un, .o .un, .o .un, .o .un, .o .un]) := (rfl)
theorem en__law_line_text {wf n : Nat} {a0 a1 : Tr} : run wf (n + 1) ._law_line_text [a0, a1] = finR [] (b__law_line_text wf (run wf n) [.o a0, .o a1, .o .un, .o .un, .o .un, .o .un, .o .un, .o .un]) := (rfl)
theorem en__law_lines_text {wf n : Nat} {a0 : Tr} : run wf (n + 1) ._law_lines_text [a0] = finR [] (b__law_lines_text wf (run wf n) [.o a0, .o .un]) := (rfl)
theorem en__law_number {wf n : Nat} {a0 a1 : Tr} : run wf (n + 1) ._law_number [a0, a1] = finR [] (b__law_number wf (run wf n) [.o a0, .o a1, .o .un, .o .un]) := (rfl)
theorem en__law_part {wf n : Nat} {a0 : Tr} : run wf (n + 1) ._law_part [a0] = finR [] (b__law_part wf (run wf n) [.o a0, .o .un, .o .un, .o .un]) := (rfl)
theorem en__law_why_read {wf n : Nat} {a0 : Tr} : run wf (n + 1) ._law_why_read [a0] = finR [] (b__law_why_read wf (run wf n) [.o a0, .o .un, .o .un, .o .un, .o .un, .o .un]) := (rfl)
theorem en__law_line_read {wf n : Nat} {a0 a1 : Tr} : run wf (n + 1) ._law_line_read [a0, a1] = finR [] (b__law_line_read wf (run wf n) [.o a0, .o a1, .o .un, .o .un, .o .un, .o .un]) := (rfl)
theorem en__law_read {wf n : Nat} {a0 : Tr} : run wf (n + 1) ._law_read [a0] = finR [] (b__law_read wf (run wf n) [.o a0, .o .un, .o .un, .o .un, .o .un]) := (rfl)
theorem en__law_answer {wf n : Nat} {a0 : Tr} : run wf (n + 1) ._law_answer [a0] = finR [] (b__law_answer wf (run wf n) [.o a0, .o .un, .o .un, .o .un]) := (rfl)
theorem en__law_bent {wf n : Nat} {a0 a1 : Tr} : run wf (n + 1) ._law_bent [a0, a1] = finR [0] (b__law_bent wf (run wf n) [.o a0, .o a1, .o .un, .o .un, .o .un, .o .un, .o .un, .o .un, .o .un, .o .un, .o .un, .o .un]) := (rfl)
theorem en_law {wf n : Nat} {a0 : Tr} : run wf (n + 1) .law [a0] = finR [0] (b_law wf (run wf n) [.o a0, .o .un, .o .un, .o .un, .o .un, .o .un, .o .un, .o .un, .o .un]) := (rfl)
end R

section
namespace Hd
open PySem PySem.Spec PyProof.Rows L2 R
theorem facts {P : Program} {w : World} {K : PySem.W.Frag} {h : Heap} {mg : Str → Option Value} {f : Addr} (X : K.In h) (G : h.Ns mainGlobals mg) (hfa : mg ("law" : Str) = some (.ref f)) (c : He.SaysD fa fn K) (cx : (fx.all fun f => f.ok K) = true) (cd : (dx.map fun (p : Str × R.Tab) => R.dObs K (He.ga K p.1)) = dx.map fun (p : Str × R.Tab) => R.dVal w p.2) :
    ∃ fd : FuncData, (∀ (s : Shared) (v : Value), BindsTo s fd ⟨[v], []⟩ [("_law_script", v)]) ∧ ∀ base : Heap, K.In base → base.Ns mainGlobals mg → R.FnG P w K mg base (L2.CX P w) 80 f fd ["_law_script"] (spR ⟨K, R.clP K 0⟩ [0] (R.run 100000 40 .law)) := by
  obtain ⟨q_number_read, F_number_read⟩ := c.def_ 0 (d := dd_number_read) rfl
  obtain ⟨q_whole_read, F_whole_read⟩ := c.def_ 1 (d := dd_whole_read) rfl
  obtain ⟨q_part_read, F_part_read⟩ := c.def_ 2 (d := dd_part_read) rfl
  obtain ⟨q_statement_read, F_statement_read⟩ := c.def_ 3 (d := dd_statement_read) rfl
  obtain ⟨q_reason_read, F_reason_read⟩ := c.def_ 4 (d := dd_reason_read) rfl
  obtain ⟨q_line_read, F_line_read⟩ := c.def_ 5 (d := dd_line_read) rfl
  obtain ⟨q_read_lines, F_read_lines⟩ := c.def_ 6 (d := dd_read_lines) rfl
  obtain ⟨q__law_mixed, F__law_mixed⟩ := c.def_ 7 (d := dd__law_mixed) rfl
  obtain ⟨q__law_pile, F__law_pile⟩ := c.def_ 8 (d := dd__law_pile) rfl
  obtain ⟨q__law_take, F__law_take⟩ := c.def_ 9 (d := dd__law_take) rfl
  obtain ⟨q__law_whole, F__law_whole⟩ := c.def_ 10 (d := dd__law_whole) rfl
  obtain ⟨q__law_flags, F__law_flags⟩ := c.def_ 11 (d := dd__law_flags) rfl
  obtain ⟨q__law_error, F__law_error⟩ := c.def_ 12 (d := dd__law_error) rfl
  obtain ⟨q__law_drawn_number, F__law_drawn_number⟩ := c.def_ 13 (d := dd__law_drawn_number) rfl
  obtain ⟨q__law_drawn_line, F__law_drawn_line⟩ := c.def_ 14 (d := dd__law_drawn_line) rfl
  obtain ⟨q__law_line_text, F__law_line_text⟩ := c.def_ 15 (d := dd__law_line_text) rfl
  obtain ⟨q__law_lines_text, F__law_lines_text⟩ := c.def_ 16 (d := dd__law_lines_text) rfl
  obtain ⟨q__law_number, F__law_number⟩ := c.def_ 17 (d := dd__law_number) rfl
  obtain ⟨q__law_part, F__law_part⟩ := c.def_ 18 (d := dd__law_part) rfl
  obtain ⟨q__law_why_read, F__law_why_read⟩ := c.def_ 19 (d := dd__law_why_read) rfl
  obtain ⟨q__law_line_read, F__law_line_read⟩ := c.def_ 20 (d := dd__law_line_read) rfl
  obtain ⟨q__law_read, F__law_read⟩ := c.def_ 21 (d := dd__law_read) rfl
  obtain ⟨q__law_answer, F__law_answer⟩ := c.def_ 22 (d := dd__law_answer) rfl
  obtain ⟨q__law_bent, F__law_bent⟩ := c.def_ 23 (d := dd__law_bent) rfl
  obtain ⟨q_NoText___init__, F_NoText___init__⟩ := c.def_ 24 (d := dd_NoText___init__) rfl
  obtain ⟨q_law, F_law⟩ := c.def_ 25 (d := dd_law) rfl
  obtain ⟨t_FIGURES, c_FIGURES⟩ := He.str_ok X G (c.fact 57 rfl)
  have z_JobError : R.clP K 0 "JobError" = He.ga K "JobError" := R.clP_ne (by decide +kernel)
  have z_NoJob : R.clP K 0 "NoJob" = He.ga K "NoJob" := R.clP_ne (by decide +kernel)
  have z_NoTask : R.clP K 0 "NoTask" = He.ga K "NoTask" := R.clP_ne (by decide +kernel)
  have z_NoHour : R.clP K 0 "NoHour" = He.ga K "NoHour" := R.clP_ne (by decide +kernel)
  have z_NoHours : R.clP K 0 "NoHours" = He.ga K "NoHours" := R.clP_ne (by decide +kernel)
  have z_NoOrder : R.clP K 0 "NoOrder" = He.ga K "NoOrder" := R.clP_ne (by decide +kernel)
  have z_NoStatement : R.clP K 0 "NoStatement" = He.ga K "NoStatement" := R.clP_ne (by decide +kernel)
  have z_NotNarrow : R.clP K 0 "NotNarrow" = He.ga K "NotNarrow" := R.clP_ne (by decide +kernel)
  have z_NoPlan : R.clP K 0 "NoPlan" = He.ga K "NoPlan" := R.clP_ne (by decide +kernel)
  have z_Unlike : R.clP K 0 "Unlike" = He.ga K "Unlike" := R.clP_ne (by decide +kernel)
  have z_NoRooms : R.clP K 0 "NoRooms" = He.ga K "NoRooms" := R.clP_ne (by decide +kernel)
  have z_NoDeeds : R.clP K 0 "NoDeeds" = He.ga K "NoDeeds" := R.clP_ne (by decide +kernel)
  have z_BadNeed : R.clP K 0 "BadNeed" = He.ga K "BadNeed" := R.clP_ne (by decide +kernel)
  have z_BadDeed : R.clP K 0 "BadDeed" = He.ga K "BadDeed" := R.clP_ne (by decide +kernel)
  have z_NoText : R.clP K 0 "NoText" = He.ga K "NoText" := R.clP_ne (by decide +kernel)
  have xq_NoText : R.XcOk ⟨K, R.clP K 0⟩ "NoText" := R.fx_exc z_NoText (R.Fx.at cx 0 rfl)
  have T : Txt K w mg {
    f := fun i => He.fAd K (atF i),
    d := (fun i => match i with | .number_read => q_number_read | .whole_read => q_whole_read | .part_read => q_part_read | .statement_read => q_statement_read | .reason_read => q_reason_read | .line_read => q_line_read | .read_lines => q_read_lines | ._law_mixed => q__law_mixed | ._law_pile => q__law_pile | ._law_take => q__law_take | ._law_whole => q__law_whole | ._law_flags => q__law_flags | ._law_error => q__law_error | ._law_drawn_number => q__law_drawn_number | ._law_drawn_line => q__law_drawn_line | ._law_line_text => q__law_line_text | ._law_lines_text => q__law_lines_text | ._law_number => q__law_number | ._law_part => q__law_part | ._law_why_read => q__law_why_read | ._law_line_read => q__law_line_read | ._law_read => q__law_read | ._law_answer => q__law_answer | ._law_bent => q__law_bent | .NoText___init__ => q_NoText___init__ | .law => q_law),
    k_FIGURES := t_FIGURES } (R.clP K 0) := {
    F := (fun i => match i with | .number_read => F_number_read | .whole_read => F_whole_read | .part_read => F_part_read | .statement_read => F_statement_read | .reason_read => F_reason_read | .line_read => F_line_read | .read_lines => F_read_lines | ._law_mixed => F__law_mixed | ._law_pile => F__law_pile | ._law_take => F__law_take | ._law_whole => F__law_whole | ._law_flags => F__law_flags | ._law_error => F__law_error | ._law_drawn_number => F__law_drawn_number | ._law_drawn_line => F__law_drawn_line | ._law_line_text => F__law_line_text | ._law_lines_text => F__law_lines_text | ._law_number => F__law_number | ._law_part => F__law_part | ._law_why_read => F__law_why_read | ._law_line_read => F__law_line_read | ._law_read => F__law_read | ._law_answer => F__law_answer | ._law_bent => F__law_bent | .NoText___init__ => F_NoText___init__ | .law => F_law),
    g := (fun i hi => match i, hi with | .number_read, _ => He.glo_ok X G (c.fact 0 rfl) | .whole_read, _ => He.glo_ok X G (c.fact 1 rfl) | .part_read, _ => He.glo_ok X G (c.fact 2 rfl) | .statement_read, _ => He.glo_ok X G (c.fact 3 rfl) | .reason_read, _ => He.glo_ok X G (c.fact 4 rfl) | .line_read, _ => He.glo_ok X G (c.fact 5 rfl) | .read_lines, _ => He.glo_ok X G (c.fact 6 rfl) | ._law_mixed, _ => He.glo_ok X G (c.fact 7 rfl) | ._law_pile, _ => He.glo_ok X G (c.fact 8 rfl) | ._law_take, _ => He.glo_ok X G (c.fact 9 rfl) | ._law_whole, _ => He.glo_ok X G (c.fact 10 rfl) | ._law_flags, _ => He.glo_ok X G (c.fact 11 rfl) | ._law_error, _ => He.glo_ok X G (c.fact 12 rfl) | ._law_drawn_number, _ => He.glo_ok X G (c.fact 13 rfl) | ._law_drawn_line, _ => He.glo_ok X G (c.fact 14 rfl) | ._law_line_text, _ => He.glo_ok X G (c.fact 15 rfl) | ._law_lines_text, _ => He.glo_ok X G (c.fact 16 rfl) | ._law_number, _ => He.glo_ok X G (c.fact 17 rfl) | ._law_part, _ => He.glo_ok X G (c.fact 18 rfl) | ._law_why_read, _ => He.glo_ok X G (c.fact 19 rfl) | ._law_line_read, _ => He.glo_ok X G (c.fact 20 rfl) | ._law_read, _ => He.glo_ok X G (c.fact 21 rfl) | ._law_answer, _ => He.glo_ok X G (c.fact 22 rfl) | ._law_bent, _ => He.glo_ok X G (c.fact 23 rfl) | .NoText___init__, hi => nomatch hi | .law, _ => He.glo_ok X G (c.fact 24 rfl)),
    b := (fun i => match i with | .number_read => FunD.bindsN F_number_read (fun _ _ _ _ _ _ us hl => match us, hl with | [_], _ => rfl) | .whole_read => FunD.bindsN F_whole_read (fun _ _ _ _ _ _ us hl => match us, hl with | [_], _ => rfl) | .part_read => FunD.bindsN F_part_read (fun _ _ _ _ _ _ us hl => match us, hl with | [_], _ => rfl) | .statement_read => FunD.bindsN F_statement_read (fun _ _ _ _ _ _ us hl => match us, hl with | [_], _ => rfl) | .reason_read => FunD.bindsN F_reason_read (fun _ _ _ _ _ _ us hl => match us, hl with | [_], _ => rfl) | .line_read => FunD.bindsN F_line_read (fun _ _ _ _ _ _ us hl => match us, hl with | [_, _], _ => rfl) | .read_lines => FunD.bindsN F_read_lines (fun _ _ _ _ _ _ us hl => match us, hl with | [_], _ => rfl) | ._law_mixed => FunD.bindsN F__law_mixed (fun _ _ _ _ _ _ us hl => match us, hl with | [_, _], _ => rfl) | ._law_pile => FunD.bindsN F__law_pile (fun _ _ _ _ _ _ us hl => match us, hl with | [_, _], _ => rfl) | ._law_take => FunD.bindsN F__law_take (fun _ _ _ _ _ _ us hl => match us, hl with | [_, _], _ => rfl) | ._law_whole => FunD.bindsN F__law_whole (fun _ _ _ _ _ _ us hl => match us, hl with | [_], _ => rfl) | ._law_flags => FunD.bindsN F__law_flags (fun _ _ _ _ _ _ us hl => match us, hl with | [_], _ => rfl) | ._law_error => FunD.bindsN F__law_error (fun _ _ _ _ _ _ us hl => match us, hl with | [_], _ => rfl) | ._law_drawn_number => FunD.bindsN F__law_drawn_number (fun _ _ _ _ _ _ us hl => match us, hl with | [_], _ => rfl) | ._law_drawn_line => FunD.bindsN F__law_drawn_line (fun _ _ _ _ _ _ us hl => match us, hl with | [_], _ => rfl) | ._law_line_text => FunD.bindsN F__law_line_text (fun _ _ _ _ _ _ us hl => match us, hl with | [_, _], _ => rfl) | ._law_lines_text => FunD.bindsN F__law_lines_text (fun _ _ _ _ _ _ us hl => match us, hl with | [_], _ => rfl) | ._law_number => FunD.bindsN F__law_number (fun _ _ _ _ _ _ us hl => match us, hl with | [_, _], _ => rfl) | ._law_part => FunD.bindsN F__law_part (fun _ _ _ _ _ _ us hl => match us, hl with | [_], _ => rfl) | ._law_why_read => FunD.bindsN F__law_why_read (fun _ _ _ _ _ _ us hl => match us, hl with | [_], _ => rfl) | ._law_line_read => FunD.bindsN F__law_line_read (fun _ _ _ _ _ _ us hl => match us, hl with | [_, _], _ => rfl) | ._law_read => FunD.bindsN F__law_read (fun _ _ _ _ _ _ us hl => match us, hl with | [_], _ => rfl) | ._law_answer => FunD.bindsN F__law_answer (fun _ _ _ _ _ _ us hl => match us, hl with | [_], _ => rfl) | ._law_bent => FunD.bindsN F__law_bent (fun _ _ _ _ _ _ us hl => match us, hl with | [_, _], _ => rfl) | .NoText___init__ => FunD.bindsN F_NoText___init__ (fun _ _ _ _ _ _ us hl => match us, hl with | [_, _], _ => rfl) | .law => FunD.bindsN F_law (fun _ _ _ _ _ _ us hl => match us, hl with | [_], _ => rfl)),
    gd_SIGNS := (by rw [R.clP_ne (by decide +kernel)]; exact He.glo_ok X G (c.fact 41 rfl)),
    kd_SIGNS := (by rw [R.clP_ne (by decide +kernel)]; exact R.dObs_ok (R.dx_at cd 0) (by decide)),
    gd_COUNTS := (by rw [R.clP_ne (by decide +kernel)]; exact He.glo_ok X G (c.fact 42 rfl)),
    kd_COUNTS := (by rw [R.clP_ne (by decide +kernel)]; exact R.dObs_ok (R.dx_at cd 1) (by decide)),
    gx_JobError := by rw [z_JobError]; exact He.glo_ok X G (c.fact 25 rfl),
    gx_NoJob := by rw [z_NoJob]; exact He.glo_ok X G (c.fact 26 rfl),
    gx_NoTask := by rw [z_NoTask]; exact He.glo_ok X G (c.fact 27 rfl),
    gx_NoHour := by rw [z_NoHour]; exact He.glo_ok X G (c.fact 28 rfl),
    gx_NoHours := by rw [z_NoHours]; exact He.glo_ok X G (c.fact 29 rfl),
    gx_NoOrder := by rw [z_NoOrder]; exact He.glo_ok X G (c.fact 30 rfl),
    gx_NoStatement := by rw [z_NoStatement]; exact He.glo_ok X G (c.fact 31 rfl),
    gx_NotNarrow := by rw [z_NotNarrow]; exact He.glo_ok X G (c.fact 32 rfl),
    gx_NoPlan := by rw [z_NoPlan]; exact He.glo_ok X G (c.fact 33 rfl),
    gx_Unlike := by rw [z_Unlike]; exact He.glo_ok X G (c.fact 34 rfl),
    gx_NoRooms := by rw [z_NoRooms]; exact He.glo_ok X G (c.fact 35 rfl),
    gx_NoDeeds := by rw [z_NoDeeds]; exact He.glo_ok X G (c.fact 36 rfl),
    gx_BadNeed := by rw [z_BadNeed]; exact He.glo_ok X G (c.fact 37 rfl),
    gx_BadDeed := by rw [z_BadDeed]; exact He.glo_ok X G (c.fact 38 rfl),
    gx_NoText := by rw [z_NoText]; exact He.glo_ok X G (c.fact 39 rfl),
    xo_NoText := by rw [z_NoText]; exact R.fx_exi (R.Fx.at cx 1 rfl),
    xn_NoText := by rw [z_NoText]; exact R.fx_exn (R.Fx.at cx 2 rfl),
    xt_JobError := ⟨⟨by show PySem.W.exmOne K (.ref (R.clP K 0 "NoText")) (.ref (R.clP K 0 "JobError")) = some true; rw [z_NoText, z_JobError]; exact He.exm_ok (c.fact 40 rfl), xq_NoText⟩, trivial⟩,
    xk_NoHour := ⟨by show PySem.W.kitOne K (.ref (R.clP K 0 "NoText")) (.ref (R.clP K 0 "NoHour")) = some false; rw [z_NoText, z_NoHour]; exact of_decide_eq_true (R.Fx.at cx 3 rfl), trivial⟩,
    xk_NoTask := ⟨by show PySem.W.kitOne K (.ref (R.clP K 0 "NoText")) (.ref (R.clP K 0 "NoTask")) = some false; rw [z_NoText, z_NoTask]; exact of_decide_eq_true (R.Fx.at cx 4 rfl), trivial⟩,
    xk_NoJob := ⟨by show PySem.W.kitOne K (.ref (R.clP K 0 "NoText")) (.ref (R.clP K 0 "NoJob")) = some false; rw [z_NoText, z_NoJob]; exact of_decide_eq_true (R.Fx.at cx 5 rfl), trivial⟩,
    xk_NotNarrow := ⟨by show PySem.W.kitOne K (.ref (R.clP K 0 "NoText")) (.ref (R.clP K 0 "NotNarrow")) = some false; rw [z_NoText, z_NotNarrow]; exact of_decide_eq_true (R.Fx.at cx 6 rfl), trivial⟩,
    xk_NoStatement := ⟨by show PySem.W.kitOne K (.ref (R.clP K 0 "NoText")) (.ref (R.clP K 0 "NoStatement")) = some false; rw [z_NoText, z_NoStatement]; exact of_decide_eq_true (R.Fx.at cx 7 rfl), trivial⟩,
    xk_NoHours := ⟨by show PySem.W.kitOne K (.ref (R.clP K 0 "NoText")) (.ref (R.clP K 0 "NoHours")) = some false; rw [z_NoText, z_NoHours]; exact of_decide_eq_true (R.Fx.at cx 8 rfl), trivial⟩,
    xk_BadNeed := ⟨by show PySem.W.kitOne K (.ref (R.clP K 0 "NoText")) (.ref (R.clP K 0 "BadNeed")) = some false; rw [z_NoText, z_BadNeed]; exact of_decide_eq_true (R.Fx.at cx 9 rfl), trivial⟩,
    xk_NoRooms := ⟨by show PySem.W.kitOne K (.ref (R.clP K 0 "NoText")) (.ref (R.clP K 0 "NoRooms")) = some false; rw [z_NoText, z_NoRooms]; exact of_decide_eq_true (R.Fx.at cx 10 rfl), trivial⟩,
    xk_NoPlan := ⟨by show PySem.W.kitOne K (.ref (R.clP K 0 "NoText")) (.ref (R.clP K 0 "NoPlan")) = some false; rw [z_NoText, z_NoPlan]; exact of_decide_eq_true (R.Fx.at cx 11 rfl), trivial⟩,
    xk_NoDeeds := ⟨by show PySem.W.kitOne K (.ref (R.clP K 0 "NoText")) (.ref (R.clP K 0 "NoDeeds")) = some false; rw [z_NoText, z_NoDeeds]; exact of_decide_eq_true (R.Fx.at cx 12 rfl), trivial⟩,
    xk_Unlike := ⟨by show PySem.W.kitOne K (.ref (R.clP K 0 "NoText")) (.ref (R.clP K 0 "Unlike")) = some false; rw [z_NoText, z_Unlike]; exact of_decide_eq_true (R.Fx.at cx 13 rfl), trivial⟩,
    xk_NoText := ⟨by show PySem.W.kitOne K (.ref (R.clP K 0 "NoText")) (.ref (R.clP K 0 "NoText")) = some true; rw [z_NoText]; exact of_decide_eq_true (R.Fx.at cx 14 rfl), trivial⟩,
    xk_NoOrder := ⟨by show PySem.W.kitOne K (.ref (R.clP K 0 "NoText")) (.ref (R.clP K 0 "NoOrder")) = some false; rw [z_NoText, z_NoOrder]; exact of_decide_eq_true (R.Fx.at cx 15 rfl), trivial⟩,
    xk_BadDeed := ⟨by show PySem.W.kitOne K (.ref (R.clP K 0 "NoText")) (.ref (R.clP K 0 "BadDeed")) = some false; rw [z_NoText, z_BadDeed]; exact of_decide_eq_true (R.Fx.at cx 16 rfl), trivial⟩,
    xk_ValueError := ⟨by show PySem.W.kitOne K (.ref (R.clP K 0 "NoText")) (.type "ValueError") = some true; rw [z_NoText]; exact of_decide_eq_true (R.Fx.at cx 17 rfl), trivial⟩,
    xk_JobError := ⟨by show PySem.W.kitOne K (.ref (R.clP K 0 "NoText")) (.ref (R.clP K 0 "JobError")) = some true; rw [z_NoText, z_JobError]; exact of_decide_eq_true (R.Fx.at cx 18 rfl), trivial⟩,
    c_FIGURES := c_FIGURES,
    m_ValueError := He.free_ok X G (c.fact 43 rfl),
    m_abs := He.free_ok X G (c.fact 44 rfl),
    m_all := He.free_ok X G (c.fact 45 rfl),
    m_bool := He.free_ok X G (c.fact 46 rfl),
    m_enumerate := He.free_ok X G (c.fact 47 rfl),
    m_int := He.free_ok X G (c.fact 48 rfl),
    m_isinstance := He.free_ok X G (c.fact 49 rfl),
    m_len := He.free_ok X G (c.fact 50 rfl),
    m_max := He.free_ok X G (c.fact 51 rfl),
    m_min := He.free_ok X G (c.fact 52 rfl),
    m_range := He.free_ok X G (c.fact 53 rfl),
    m_repr := He.free_ok X G (c.fact 54 rfl),
    m_str := He.free_ok X G (c.fact 55 rfl),
    m_tuple := He.free_ok X G (c.fact 56 rfl) }
  have e := hfa.symm.trans (He.glo_ok X G (c.fact 24 (f := .glo "law") rfl))
  cases e
  have b := FunD.bindsA (ps := ["_law_script"]) F_law fun _ _ _ _ _ _ us hl => match us, hl with | [_], _ => rfl
  exact ⟨q_law, fun s v => b s [v] rfl, fun base _ _ => ok_all T 40 .law⟩
end Hd
open PySem PySem.W PySem.Calls PyProof.Rows
theorem Hd.main_of (plain : ∀ ns : List Int, ns.length ≤ 63 → ∃ os, R.run 100000 40 .law [.scr ns] = .ret (.dat (.bool true)) os) : PySem.Challenge.rw_duepairs_k63_texts_of_no_lines.Holds := by
  w_on; o_law
  refine HandSHeadRun.head_any (r := OpenLaw.row PySem.Challenge.rw_duepairs_k63_texts_of_no_lines) (q := view (OpenLaw.row PySem.Challenge.rw_duepairs_k63_texts_of_no_lines).prog [45]) (H := Hd.hk) (ob := Hd.ob) (M := 6000) (loose := Hd.loose) (d := HandSHeadRun.topDef (OpenLaw.row PySem.Challenge.rw_duepairs_k63_texts_of_no_lines).prog 45) (kwd := []) Hd.ob_eq
    (by kernel_rfl) (fun s => by kernel_rfl) Hd.run (by kernel_rfl) (by kernel_rfl) (by kernel_rfl) (by rfl) (by first | assumption | decide +kernel) (by decide +kernel) ⟨rfl, rfl, rfl, rfl, rfl, by decide +kernel⟩ ?hw ?hc
  case hw => w_witness2
  case hc =>
    refine R.walk_ofG (l := PySem.Challenge.rw_duepairs_k63_texts_of_no_lines) (n := 63) (k := 80) (v0 := "_law_script") rfl (by decide) (by kernel_rfl) ⟨rfl, by decide, by decide⟩ ?F
    intro w mg fa h Y G hmg0
    obtain ⟨K, KX, c, cx, cd⟩ := Y
    have hmg : mg ("law" : PySem.Str) = some (.ref fa) := by
      have e : (HandSHeadRun.topDef (OpenLaw.row PySem.Challenge.rw_duepairs_k63_texts_of_no_lines).prog 45).name = ("law" : PySem.Str) := by kernel_rfl
      rw [← e]
      exact hmg0
    obtain ⟨fd, hb, hF⟩ := Hd.facts (P := (PySem.Challenge.rw_duepairs_k63_texts_of_no_lines).prog) (w := w) KX G hmg c cx cd
    exact ⟨K, fd, _, KX, hb, fun H a ns hl hS => by obtain ⟨os, ho⟩ := plain ns hl; exact R.law_sp0 hS ho, hF⟩

end

namespace R
open PySem PySem.Spec PyProof.Rows L2
open Evl (Ex)
local macro_rules | `(tactic| walk_at "st") => `(tactic| simp -dsimp -implicitDefEqProofs only [↓wr_fin, ↓we_appT, wo_appTP, ↓we_callY, wo_lentO, ↓ws_vif, ↓ws_ifW, ↓ws_forT, ↓we_mthS, ↓we_strI, strO_s, ↓ws_augI, plO_pl, agk, lstO_s, lst2_s, ↓we_catT, ↓we_cutT1, roA_nil, roA_c, ro1_t, ro1_u, ro1_f, ↓we_callK, kperm_021, ↓we_isNT, nonT_dat, nonT_own, nonT_tup, ↓we_attr, ↓ws_stoA, ↓we_meth, ↓we_new, ws_stoN, vOf_cT, isUn_cT, mkNew_cT, wn_ret, sortP_eq, att_given, att_lines, att_frees, att_dues, att_free_lines, att_due_lines, att_none, att_behind, get_lines, get_frees, get_dues, get_free_lines, get_due_lines, get_behind, put_lines, put_frees, put_dues, put_free_lines, put_due_lines, meth_put, meth_begin, meth_later, meth_rising, meth_crowd, meth_full, meth_least_due, meth_sooner, ↓ws_try, ↓ws_tryN, ↓ws_swp, ↓we_frz, fstO_t, sndO_t, bool_int, bool_bool, ↓we_trng1, isN_exc, isNN_exc, ↓ws_seq, ↓ws_nx, ↓ws_rt, ↓ws_bk, ↓ws_ct, ↓ws_skip, ↓ws_brk, ↓ws_cnt, ↓ws_raise, ↓ws_raiseF, xf_hit, ↓ws_viewS, tuO_t, tkO_own, tkO_dat, ↓wo_backJ, ↓wp_take0, ↓wp_takeC, noUn_nil, noUn_c, mulS_0, mulS_1, ↓ws_asg, ↓ws_asgD, ↓ws_par, ↓ws_sto, ↓ws_dput, ↓ws_asgG, ↓we_orI, orIW_int, orIW_none, ↓we_callT, unpO_dat, unpO_tup, unpO_lst, ↓wo_btN, ↓wo_btC, ↓we_dnew, ↓we_dnewT, ↓we_ddispT, ↓wo_ditR, ditO_s, ↓ws_dputT, ↓wo_dputTO, ↓we_dinT, ↓we_dgetT, ↓ws_forK, ↓we_lcK, ditS_s, vOf_dit, isUn_dit, unO_dit, mkNew_dit, dputTk, dinTk, dgetTk, keyT_ints, keyT_nil, rev_eq, ↓we_ddisp1, ↓we_rng3, ↓we_sortL, ↓ws_expr, ↓ws_ret, ↓ws_retN, ↓ws_if, ↓ws_for, ↓ws_aug, ↓we_var, ↓we_cst, ↓we_asD, ↓we_asT, ↓we_asB, ↓we_op2, ↓we_op2D, ↓we_op1, ↓we_op1D, ↓we_notV, ↓we_andV, ↓we_orV, ↓we_notT, ↓we_andT, ↓we_orT, ↓we_yesT, ↓we_ife, ↓we_argsD0, ↓we_argsDc, ↓we_argsT0, ↓we_argsTc, ↓we_tup, ↓we_lst, ↓we_ix, ↓we_opt0, ↓we_opt1, ↓we_slc, ↓we_len, ↓we_tuple, ↓we_mth, ↓we_mth1, ↓we_mv, ↓we_argsA0, ↓we_argsAd, ↓we_argsAm, ↓we_argsAb, ↓we_argsAx, wo_argX_dat, wo_argX_pl, isTupAt_z, isTupAt_s, tupAt_t, someB_s, tupG_t, mus_bt, brs_bt, wo_esOf_bt, ↓we_call, ↓we_seqI, ↓we_rng1, ↓we_rng2, ↓we_enum, ↓we_zip, ↓we_lcD, ↓we_dcV, ↓we_din, ↓we_dget, ↓we_ok, ↓wo_setN, ↓wo_bindN, ↓wo_bindT, ↓wo_bindL, ↓wo_bind0, ↓wo_bindC, ↓wo_stoO, ↓wo_dputO, ↓wp_mvO, ↓wo_rdS, ↓wo_rdD, ↓wp_frzN, ↓wp_frzP, ↓wp_toTP, ↓wo_ixA, ↓wo_tupOP, ↓wp_mtO, ↓wo_esOf_dat, ↓wo_esOf_mu, ↓wo_esOf_br, ↓wo_outs0, ↓wo_outsC, ↓wo_dicR, ↓wo_if, ↓wo_map, ↓wo_bind, ↓wo_some, ↓wo_none, ↓wr_ret, ↓wr_exc, ↓wc_t, ↓wc_f, ↓wc_not, wc_t, wc_f, wc_not, wc_b, decide_eq_true_eq, decide_eq_false_iff_not, wo_some, wo_none, wr_ret, wr_exc, we_ok, wo_if, wo_map, wo_bind, wp_mvO, wo_ixA, wo_tupOP, wp_mtO, wo_stoO, wp_frzN, wp_frzP, wp_toTP, wp_some, ↓wp_some, wp_none, wp_if, kv, kw, op2k, op2dk, ixk, slk, stok, dputk, dink, dgetk,
  getR_dat, getR_new, getR_pl, getPl_z, getPl_s, get_nil, put_nil, isO_z, isO_s, putPl_z, putPl_s, hasO_z, hasS_zo, hasS_zr, hasS_s, hasO_s, isUn_dat, isUn_own, isUn_scr, isUn_tup, isUn_dic, isL_eq, isLT_own, isLT_dat, wipeOk_nil, wipeOk_c, wipe1_un, wipe1_dat, wipeE_nil, wipeE_c, setO_s, unwipe_nil, unwipe_c, puts_nil, puts_c, mus_nil, mus_dat, mus_mu, mus_br, brs_nil, brs_dat, brs_mu, brs_br, lfT_un, lfT_dat, lfT_own, lfTs_nil, lfTs_c, lf_bool, lf_int, lf_none, lf_str, lenOk_iff, inR_iff, esOf_nil,
  vOf_dat, vOf_own, vOf_scr, vOf_dic, vOf_tup, vOf_lst, sl_o, sl_r, isOx_o, shal_dat, shal_own, data_dat, data_own, frz_dat, toT_dat, toT_new, bOf_bool, iOf_int, hold_dat, hold_new, hold_pl0, hold_k, holdE_z, holdE_zr, holdE_s, unhold_k, unholdE_z, unholdE_zr, unholdE_s, unhold_dat, unhold_new, unhold_pl0, rs_dat, rs_lst, mkTup_eq, mkLst_eq, mkTupO_s, mkLstO_s, consO_s, datsOf_nil, datsOf_c, datsOf_own, datsOf_lst, datsOf_tup, consO_n, mkLstO_n, mkTupO_n, ixT_lst, ixT_tup, ixT_dat, ixT_own, ixT_scr, ixF_list, ixF_tup, lenT_own, lenT_tp, lenT_lst, cast2, cast3, cast4, holdL_nil, holdL_c, tgsns_nil, tgsns_c, relL_nil, relL_c, relE_zo, relE_zr, relE_s, lenT_scr, lenT_list, lenT_tup, tupO_dat, tupO_own, ownO_s, mvO_dat, mvO_new, unO_own, unO_dic, unO_tup, ex_dat, mkNew_dat, mkNew_own, mkNew_tup, mkNew_lst, consT_s, sOf_l, sOf_t, lOf_l, dOf_s, keyOf_int, setAt_own, mt_append_eq,
  isi_int, isi_bool, isi_tup, isi_list, isi_str, add_int, addI_int, sub_int, mod_int, fdiv_int, lt_int, le_int, gt_int, ge_int, eq_int, ne_int, eq_str, ne_str, isN_eq, isNN_eq, isNone_none, isNone_int, isNone_tup, isNone_list, neg_int, int_int, int_bool, list_list, list_tup, tup_list, tup_tup, max2_int, min2_int, sl_list, sl_tup, all_map, any_map, atI_0, atI_1, atI_2, atI_3,
  tyInt_none, tyInt_bool, tyInt_int, tyInt_str, tyInt_list, tyInt_tuple, tyInt_dict, tyBool_none, tyBool_bool, tyBool_int, tyBool_str, tyBool_list, tyBool_tuple, tyBool_dict, tyTup_none, tyTup_bool, tyTup_int, tyTup_str, tyTup_list, tyTup_tuple, tyTup_dict, tyList_none, tyList_bool, tyList_int, tyList_str, tyList_list, tyList_tuple, tyList_dict, tyStr_none, tyStr_bool, tyStr_int, tyStr_str, tyStr_list, tyStr_tuple, tyStr_dict, if_true_b, if_false_b,
  List.getElem?_cons_zero, List.getElem?_cons_succ, List.set_cons_zero, List.set_cons_succ, List.length_cons, List.length_nil, List.nil_append, List.cons_append, List.append_nil, List.nodup_nil, List.nodup_cons, List.mem_cons, List.not_mem_nil, List.isEmpty_nil, List.contains_nil, List.contains_cons, Nat.reduceBEq, Bool.true_or, Bool.or_true, Bool.true_and, Bool.and_true, Bool.false_and, Bool.and_false, Bool.not_true, Bool.not_false, Bool.false_or, Bool.or_false, or_false, false_or, or_true, true_or, not_true_eq_false, not_false_eq_true, and_true, true_and, false_and, and_false, and_self, true_implies, implies_true, false_implies, forall_const, decide_true, decide_false, eq_self, if_true, if_false, reduceCtorEq, Nat.reduceAdd, Nat.reduceLeDiff, Nat.reduceEqDiff, Int.reduceLT, Int.reduceLE, Int.reduceEq, Int.reduceNeg, Int.reduceAdd, Int.reduceSub, Nat.zero_add, castI, castZ, castO])
local macro_rules | `(tactic| walk_at "bd") => `(tactic| simp -dsimp -implicitDefEqProofs only [↓wr_fin, ↓we_appT, wo_appTP, ↓we_callY, wo_lentO, ↓ws_vif, ↓ws_ifW, ↓ws_forT, ↓we_mthS, ↓we_strI, strO_s, ↓ws_augI, plO_pl, agk, lstO_s, lst2_s, ↓we_catT, ↓we_cutT1, roA_nil, roA_c, ro1_t, ro1_u, ro1_f, ↓we_callK, kperm_021, ↓we_isNT, nonT_dat, nonT_own, nonT_tup, ↓we_attr, ↓ws_stoA, ↓we_meth, ↓we_new, ws_stoN, vOf_cT, isUn_cT, mkNew_cT, wn_ret, sortP_eq, att_given, att_lines, att_frees, att_dues, att_free_lines, att_due_lines, att_none, att_behind, get_lines, get_frees, get_dues, get_free_lines, get_due_lines, get_behind, put_lines, put_frees, put_dues, put_free_lines, put_due_lines, meth_put, meth_begin, meth_later, meth_rising, meth_crowd, meth_full, meth_least_due, meth_sooner, ↓ws_try, ↓ws_tryN, ↓ws_swp, ↓we_frz, fstO_t, sndO_t, bool_int, bool_bool, ↓we_trng1, isN_exc, isNN_exc, ↓ws_nx, ↓ws_rt, ↓ws_bk, ↓ws_ct, ↓ws_skip, ↓ws_brk, ↓ws_cnt, ↓ws_raise, ↓ws_raiseF, xf_hit, ↓ws_viewS, tuO_t, tkO_own, tkO_dat, ↓wo_backJ, ↓wp_take0, ↓wp_takeC, noUn_nil, noUn_c, mulS_0, mulS_1, ↓ws_asg, ↓ws_asgD, ↓ws_par, ↓ws_sto, ↓ws_dput, ↓ws_asgG, ↓we_orI, orIW_int, orIW_none, ↓we_callT, unpO_dat, unpO_tup, unpO_lst, ↓wo_btN, ↓wo_btC, ↓we_dnew, ↓we_dnewT, ↓we_ddispT, ↓wo_ditR, ditO_s, ↓ws_dputT, ↓wo_dputTO, ↓we_dinT, ↓we_dgetT, ↓ws_forK, ↓we_lcK, ditS_s, vOf_dit, isUn_dit, unO_dit, mkNew_dit, dputTk, dinTk, dgetTk, keyT_ints, keyT_nil, rev_eq, ↓we_ddisp1, ↓we_rng3, ↓we_sortL, ↓ws_expr, ↓ws_ret, ↓ws_retN, ↓ws_if, ↓ws_for, ↓ws_aug, ↓we_var, ↓we_cst, ↓we_asD, ↓we_asT, ↓we_asB, ↓we_op2, ↓we_op2D, ↓we_op1, ↓we_op1D, ↓we_notV, ↓we_andV, ↓we_orV, ↓we_notT, ↓we_andT, ↓we_orT, ↓we_yesT, ↓we_ife, ↓we_argsD0, ↓we_argsDc, ↓we_argsT0, ↓we_argsTc, ↓we_tup, ↓we_lst, ↓we_ix, ↓we_opt0, ↓we_opt1, ↓we_slc, ↓we_len, ↓we_tuple, ↓we_mth, ↓we_mth1, ↓we_mv, ↓we_argsA0, ↓we_argsAd, ↓we_argsAm, ↓we_argsAb, ↓we_argsAx, wo_argX_dat, wo_argX_pl, isTupAt_z, isTupAt_s, tupAt_t, someB_s, tupG_t, mus_bt, brs_bt, wo_esOf_bt, ↓we_call, ↓we_seqI, ↓we_rng1, ↓we_rng2, ↓we_enum, ↓we_zip, ↓we_lcD, ↓we_dcV, ↓we_din, ↓we_dget, ↓we_ok, ↓wo_setN, ↓wo_bindN, ↓wo_bindT, ↓wo_bindL, ↓wo_bind0, ↓wo_bindC, ↓wo_stoO, ↓wo_dputO, ↓wp_mvO, ↓wo_rdS, ↓wo_rdD, ↓wp_frzN, ↓wp_frzP, ↓wp_toTP, ↓wo_ixA, ↓wo_tupOP, ↓wp_mtO, ↓wo_esOf_dat, ↓wo_esOf_mu, ↓wo_esOf_br, ↓wo_outs0, ↓wo_outsC, ↓wo_dicR, ↓wo_if, ↓wo_map, ↓wo_bind, ↓wo_some, ↓wo_none, ↓wr_ret, ↓wr_exc, ↓wc_t, ↓wc_f, ↓wc_not, wc_t, wc_f, wc_not, wc_b, decide_eq_true_eq, decide_eq_false_iff_not, wo_some, wo_none, wr_ret, wr_exc, we_ok, wo_if, wo_map, wo_bind, wp_mvO, wo_ixA, wo_tupOP, wp_mtO, wo_stoO, wp_frzN, wp_frzP, wp_toTP, wp_some, ↓wp_some, wp_none, wp_if, kv, kw, op2k, op2dk, ixk, slk, stok, dputk, dink, dgetk,
  getR_dat, getR_new, getR_pl, getPl_z, getPl_s, get_nil, put_nil, isO_z, isO_s, putPl_z, putPl_s, hasO_z, hasS_zo, hasS_zr, hasS_s, hasO_s, isUn_dat, isUn_own, isUn_scr, isUn_tup, isUn_dic, isL_eq, isLT_own, isLT_dat, wipeOk_nil, wipeOk_c, wipe1_un, wipe1_dat, wipeE_nil, wipeE_c, setO_s, unwipe_nil, unwipe_c, puts_nil, puts_c, mus_nil, mus_dat, mus_mu, mus_br, brs_nil, brs_dat, brs_mu, brs_br, lfT_un, lfT_dat, lfT_own, lfTs_nil, lfTs_c, lf_bool, lf_int, lf_none, lf_str, lenOk_iff, inR_iff, esOf_nil,
  vOf_dat, vOf_own, vOf_scr, vOf_dic, vOf_tup, vOf_lst, sl_o, sl_r, isOx_o, shal_dat, shal_own, data_dat, data_own, frz_dat, toT_dat, toT_new, bOf_bool, iOf_int, hold_dat, hold_new, hold_pl0, hold_k, holdE_z, holdE_zr, holdE_s, unhold_k, unholdE_z, unholdE_zr, unholdE_s, unhold_dat, unhold_new, unhold_pl0, rs_dat, rs_lst, mkTup_eq, mkLst_eq, mkTupO_s, mkLstO_s, consO_s, datsOf_nil, datsOf_c, datsOf_own, datsOf_lst, datsOf_tup, consO_n, mkLstO_n, mkTupO_n, ixT_lst, ixT_tup, ixT_dat, ixT_own, ixT_scr, ixF_list, ixF_tup, lenT_own, lenT_tp, lenT_lst, cast2, cast3, cast4, holdL_nil, holdL_c, tgsns_nil, tgsns_c, relL_nil, relL_c, relE_zo, relE_zr, relE_s, lenT_scr, lenT_list, lenT_tup, tupO_dat, tupO_own, ownO_s, mvO_dat, mvO_new, unO_own, unO_dic, unO_tup, ex_dat, mkNew_dat, mkNew_own, mkNew_tup, mkNew_lst, consT_s, sOf_l, sOf_t, lOf_l, dOf_s, keyOf_int, setAt_own, mt_append_eq,
  isi_int, isi_bool, isi_tup, isi_list, isi_str, add_int, addI_int, sub_int, mod_int, fdiv_int, lt_int, le_int, gt_int, ge_int, eq_int, ne_int, eq_str, ne_str, isN_eq, isNN_eq, isNone_none, isNone_int, isNone_tup, isNone_list, neg_int, int_int, int_bool, list_list, list_tup, tup_list, tup_tup, max2_int, min2_int, sl_list, sl_tup, all_map, any_map, atI_0, atI_1, atI_2, atI_3,
  tyInt_none, tyInt_bool, tyInt_int, tyInt_str, tyInt_list, tyInt_tuple, tyInt_dict, tyBool_none, tyBool_bool, tyBool_int, tyBool_str, tyBool_list, tyBool_tuple, tyBool_dict, tyTup_none, tyTup_bool, tyTup_int, tyTup_str, tyTup_list, tyTup_tuple, tyTup_dict, tyList_none, tyList_bool, tyList_int, tyList_str, tyList_list, tyList_tuple, tyList_dict, tyStr_none, tyStr_bool, tyStr_int, tyStr_str, tyStr_list, tyStr_tuple, tyStr_dict, if_true_b, if_false_b,
  List.getElem?_cons_zero, List.getElem?_cons_succ, List.set_cons_zero, List.set_cons_succ, List.length_cons, List.length_nil, List.nil_append, List.cons_append, List.append_nil, List.nodup_nil, List.nodup_cons, List.mem_cons, List.not_mem_nil, List.isEmpty_nil, List.contains_nil, List.contains_cons, Nat.reduceBEq, Bool.true_or, Bool.or_true, Bool.true_and, Bool.and_true, Bool.false_and, Bool.and_false, Bool.not_true, Bool.not_false, Bool.false_or, Bool.or_false, or_false, false_or, or_true, true_or, not_true_eq_false, not_false_eq_true, and_true, true_and, false_and, and_false, and_self, true_implies, implies_true, false_implies, forall_const, decide_true, decide_false, eq_self, if_true, if_false, reduceCtorEq, Nat.reduceAdd, Nat.reduceLeDiff, Nat.reduceEqDiff, Int.reduceLT, Int.reduceLE, Int.reduceEq, Int.reduceNeg, Int.reduceAdd, Int.reduceSub, Nat.zero_add, castI, castZ, castO])
local macro_rules | `(tactic| walk_at "go") => `(tactic| repeat (first | walk_at "st" | walk_at "sr"))
variable {n : Nat}

section
def pileT (p : Int) : Tr := .own [.int p]
theorem big1 {i : Int} (h : 0 ≤ i) (h2 : i < 2 ^ 64) : bigB i = true := bigB_of (by omega)
theorem r_mixed {c k : Int} (h0 : 0 ≤ k) (h1 : k < 1000000) : ∃ d : Int, (0 ≤ d ∧ d < 2147483579) ∧ run 100000 (n + 1) ._law_mixed [.dat (.int c), .dat (.int k)] = .ret (.dat (.int d)) [] := by
  rw [en__law_mixed]
  let m1 : Int := (c % 2147483647 * 48271 + k * 69621 + 1048583) % 2147483629
  let m2 : Int := (m1 * m1) % 2147483587
  refine ⟨(m2 * (m2 + 2)) % 2147483579, ⟨Int.emod_nonneg _ (by decide), Int.emod_lt_of_pos _ (by decide)⟩, ?_⟩
  have hm1 : 0 ≤ m1 ∧ m1 < 2147483629 := ⟨Int.emod_nonneg _ (by decide), Int.emod_lt_of_pos _ (by decide)⟩
  have hm2 : 0 ≤ m2 ∧ m2 < 2147483587 := ⟨Int.emod_nonneg _ (by decide), Int.emod_lt_of_pos _ (by decide)⟩
  have b1 : (bigB (c % 2147483647) && bigB 48271) = true := by rw [big1 (Int.emod_nonneg _ (by decide)) (Int.lt_trans (Int.emod_lt_of_pos _ (by decide)) (by decide)), big1 (by decide) (by decide)]; rfl
  have b2 : (bigB k && bigB 69621) = true := by rw [big1 h0 (by omega), big1 (by decide) (by decide)]; rfl
  have b3 : (bigB m1 && bigB m1) = true := by rw [big1 hm1.1 (by omega)]; rfl
  have b4 : (bigB m2 && bigB (m2 + 2)) = true := by rw [big1 hm2.1 (by omega), big1 (by omega) (by omega)]; rfl
  apply ret_of
  unfold b__law_mixed
  walk_at "st"
  rw [mul_int, if_pos b1]
  walk_at "st"
  rw [mul_int, if_pos b2]
  walk_at "st"
  change WO (mulF (.int m1) (.int m1)) _
  rw [mul_int, if_pos b3]
  walk_at "st"
  change WO (mulF (.int m2) (.int (m2 + 2))) _
  rw [mul_int, if_pos b4]
  walk_at "st"
theorem r_take {p s : Int} (h0 : 0 < s) (h1 : s < 1073741824) : run 100000 (n + 1) ._law_take [pileT p, .dat (.int s)] = .ret (.dat (.int (p % s))) [pileT (p / s)] := by
  rw [en__law_take]
  apply ret_of
  unfold b__law_take pileT
  walk_at "st"
  refine ⟨h0, ⟨h0, h1⟩, ?_⟩
  rw [ixN_nat (by omega) (by decide)]
  walk_at "st"
  rfl
theorem r_pile {ns : List Int} {k : Nat} (hk : k < 1000) : ∃ p : Int, run 100000 (n + 2) ._law_pile [.scr ns, .dat (.int k)] = .ret (pileT p) [.scr ns] := by
  rw [en__law_pile]
  suffices h : WR (finR [0] (b__law_pile 100000 (run 100000 (n + 1)) [.o (.scr ns), .o (.dat (.int k)), .o .un, .o .un, .o .un])) (fun t os => ∃ p, t = pileT p ∧ os = [.scr ns]) fun _ _ => False by
    obtain ⟨t, os, e, p, rfl, rfl⟩ := wr_iff h
    exact ⟨p, e⟩
  unfold b__law_pile
  rw [wr_fin]
  refine ws_cut (fun e1 => e1 = [.o (.scr ns), .o (.dat (.int k)), .o (.dat (.int 0)), .o .un, .o .un]) (by walk_at "st") ?_
  rintro _ rfl
  refine ws_cut (fun e1 => ∃ c, e1 = [.o (.scr ns), .o (.dat (.int k)), .o (.dat (.int c)), .o .un, .o .un]) ?_ ?_
  · walk_at "st"
    refine ⟨fun h => ?_, fun h => ⟨_, rfl⟩⟩
    rw [atI_nat (by omega), Int.toNat_natCast, List.getElem?_eq_getElem (by omega)]
    walk_at "st"
    exact ⟨_, rfl⟩
  rintro _ ⟨c, rfl⟩
  have p18 : powF (.int 10) (.int 18) = some (.dat (.int 1000000000000000000)) := rfl
  have p60 : powF (.int 10) (.int 60) = some (.dat (.int (10 ^ 60))) := rfl
  walk_at "st"
  rw [p18]
  walk_at "st"
  refine ⟨fun h => ?_, fun h => ?_⟩
  · rw [p18]
    walk_at "st"
    rw [p60]
    walk_at "st"
    rw [p60]
    walk_at "st"
    rw [show mulF (.int (10 ^ 60)) (.int (10 ^ 60)) = some (.dat (.int (10 ^ 120))) from by rw [mul_int, if_pos (by decide +kernel)]; congr 3]
    walk_at "st"
    rw [p60]
    walk_at "st"
    rw [show mulF (.int (10 ^ 120)) (.int (10 ^ 60)) = some (.dat (.int (10 ^ 180))) from by rw [mul_int, if_pos (by decide +kernel)]; congr 3]
    walk_at "st"
    rw [p60]
    walk_at "st"
    rw [show mulF (.int (10 ^ 180)) (.int (10 ^ 60)) = some (.dat (.int (10 ^ 240))) from by rw [mul_int, if_pos (by decide +kernel)]; congr 3]
    walk_at "st"
    exact ⟨by decide, _, rfl⟩
  · refine ws_forF (fun i e' => ∃ f x4, e' = [.o (.scr ns), .o (.dat (.int k)), .o (.dat (.int c)), .o (.dat (.int f)), x4] ∧ isOx x4 = true ∧ 0 ≤ f ∧ f < 2 ^ (31 * i + 1)) ⟨0, _, rfl, rfl, by decide, by decide⟩ ?_ ?_
    · rintro i e' d hd ⟨f, x4, rfl, h4, f0, f1⟩
      obtain ⟨hi, rfl⟩ := rngL_at hd
      have hi : i < 24 := hi
      walk_at "st"
      refine ⟨h4, ?_⟩
      have bf : bigB f = true := decide_eq_true (by
        have z : (f.toNat : Int) < ((2 ^ (31 * i + 1) : Nat) : Int) := by
          rw [Int.toNat_of_nonneg f0, Int.natCast_pow]
          exact f1
        have z2 : (2 : Nat) ^ (31 * i + 1) ≤ 2 ^ 1000 := Nat.pow_le_pow_right (by decide) (by omega)
        exact Nat.lt_of_lt_of_le (by omega) z2)
      rw [mul_int, if_pos (by rw [bf, big1 (by decide) (by decide)]; rfl)]
      walk_at "st"
      rw [mul_int, if_pos (by rw [big1 (by decide) (by decide), big1 (by omega) (by omega)]; rfl)]
      walk_at "st"
      rw [mul_int, if_pos (by rw [big1 (by decide) (by decide), big1 (by omega) (by omega)]; rfl)]
      walk_at "st"
      rw [mul_int, if_pos (by rw [big1 (by omega) (by omega)]; rfl)]
      walk_at "st"
      have hii : (0 + (i : Int)) * (0 + (i : Int)) ≤ 24 * 24 := Int.mul_le_mul (by omega) (by omega) (by omega) (by omega)
      have hi0 : 0 ≤ (0 + (i : Int)) * (0 + (i : Int)) := Int.mul_nonneg (by omega) (by omega)
      obtain ⟨d, hd, e1⟩ := r_mixed (n := n) (c := c) (k := 7 * (k : Int) + 100 * (0 + (i : Int)) + (0 + (i : Int)) * (0 + (i : Int))) (by omega) (by omega)
      rw [e1]
      walk_at "st"
      refine ⟨_, _, rfl, rfl, by omega, ?_⟩
      have : f * 2147483579 + d < 2 ^ (31 * i + 1) * 2 ^ 31 := by
        have : (f + 1) * 2147483579 ≤ 2 ^ (31 * i + 1) * 2147483579 := Int.mul_le_mul_of_nonneg_right (by omega) (by decide)
        have hp : (0 : Int) < 2 ^ (31 * i + 1) := Int.pow_pos (by decide)
        omega
      rw [← Int.pow_add] at this
      rw [show 31 * (i + 1) + 1 = 31 * i + 1 + 31 by omega]
      exact this
    · rintro e' ⟨f, x4, rfl, h4, f0, f1⟩
      walk_at "st"
      exact ⟨_, rfl⟩
end

section
/-! ### k63: lists -/
def dueD : Option Int → PyData
  | none => .none
  | some i => .int i
theorem lay_all : ∀ {l : List PyData} {k : Nat}, (∀ d ∈ l, PyData.canLay0 d = true ∧ d.depth ≤ k) → PyData.canLayAll0 l = true ∧ PyData.depthAll l ≤ k
  | [], k, _ => ⟨rfl, Nat.zero_le _⟩
  | d :: l, k, h => by
    obtain ⟨h1, h2⟩ := lay_all (l := l) (k := k) fun x hx => h x (List.mem_cons_of_mem _ hx)
    obtain ⟨h3, h4⟩ := h d List.mem_cons_self
    refine ⟨by simp [PyData.canLayAll0, h1, h3], ?_⟩
    simp only [PyData.depthAll]
    omega
theorem shp_list {l : List PyData} (h : ∀ d ∈ l, PyData.canLay0 d = true ∧ d.depth ≤ 3) : SeqAt.shaped (.list l) = true := by
  obtain ⟨h1, h2⟩ := lay_all h
  unfold SeqAt.shaped
  rw [Bool.and_eq_true]
  refine ⟨by simp [PyData.canLay0, h1], decide_eq_true ?_⟩
  simp only [PyData.depth]
  omega
theorem eqv_nil {l : List PyData} : PyData.eqv (.list l) (.list []) = l.isEmpty := by
  cases l <;> simp [PyData.eqv, PyData.eqvAll]
theorem ne_nil {l : List PyData} (h : ∀ d ∈ l, PyData.canLay0 d = true ∧ d.depth ≤ 3) : neF (.list l) (.list []) = some (.bool (!l.isEmpty)) := by
  rw [ne_shaped rfl (shp_list h) shp_nil, eqv_nil]
theorem lay_int {i : Int} : PyData.canLay0 (.int i) = true ∧ (PyData.int i).depth ≤ 3 := ⟨rfl, by simp [PyData.depth]⟩
end

section
/-! ### k63: texts by their figures -/
def fig (c : Nat) : Bool := decide (48 ≤ c) && decide (c ≤ 57)
/-- at most m figures stand one behind the other, k of them ahead -/
def runs (m : Nat) : Nat → List Nat → Bool
  | _, [] => true
  | k, c :: r => if fig c then decide (k + 1 ≤ m) && runs m (k + 1) r else runs m 0 r
theorem runs_fig {m k c : Nat} {r : List Nat} (h : fig c = true) : runs m k (c :: r) = (decide (k + 1 ≤ m) && runs m (k + 1) r) := by
  show (if fig c then _ else _) = _
  rw [if_pos h]
theorem runs_not {m k c : Nat} {r : List Nat} (h : fig c = false) : runs m k (c :: r) = runs m 0 r := by
  show (if fig c then _ else _) = _
  rw [if_neg (by rw [h]; exact Bool.false_ne_true)]
theorem runs_mono {m m' : Nat} (hm : m ≤ m') : ∀ {l : List Nat} {k k' : Nat}, k' ≤ k → runs m k l = true → runs m' k' l = true
  | [], _, _, _, _ => rfl
  | c :: r, k, k', hk, h => by
    cases hf : fig c with
    | true =>
      rw [runs_fig hf, Bool.and_eq_true, decide_eq_true_eq] at h ⊢
      exact ⟨by omega, runs_mono hm (by omega) h.2⟩
    | false =>
      rw [runs_not hf] at h ⊢
      exact runs_mono hm (Nat.le_refl _) h
theorem runs_shift {p q k : Nat} (hk : k ≤ p) : ∀ {l : List Nat} {j : Nat}, runs q j l = true → runs (p + q) (k + j) l = true
  | [], _, _ => rfl
  | c :: r, j, h => by
    cases hf : fig c with
    | true =>
      rw [runs_fig hf, Bool.and_eq_true, decide_eq_true_eq] at h ⊢
      exact ⟨by omega, by rw [Nat.add_assoc]; exact runs_shift hk h.2⟩
    | false =>
      rw [runs_not hf] at h ⊢
      exact runs_mono (by omega) (Nat.le_refl _) h
theorem runs_app {p q : Nat} {b : List Nat} (hb : runs q 0 b = true) : ∀ {a : List Nat} {k : Nat}, k ≤ p → runs p k a = true → runs (p + q) k (a ++ b) = true
  | [], k, hk, _ => by have := runs_shift hk hb; rwa [Nat.add_zero] at this
  | c :: a, k, hk, h => by
    rw [List.cons_append]
    cases hf : fig c with
    | true =>
      rw [runs_fig hf, Bool.and_eq_true, decide_eq_true_eq] at h ⊢
      exact ⟨by omega, runs_app hb (by omega) h.2⟩
    | false =>
      rw [runs_not hf] at h ⊢
      exact runs_app hb (Nat.zero_le _) h
theorem runs_pre {m : Nat} {b : List Nat} : ∀ {a : List Nat} {k : Nat}, runs m k (a ++ b) = true → runs m k a = true
  | [], _, _ => rfl
  | c :: a, k, h => by
    rw [List.cons_append] at h
    cases hf : fig c with
    | true =>
      rw [runs_fig hf, Bool.and_eq_true, decide_eq_true_eq] at h ⊢
      exact ⟨h.1, runs_pre h.2⟩
    | false =>
      rw [runs_not hf] at h ⊢
      exact runs_pre h
theorem runs_suf {m : Nat} {b : List Nat} : ∀ {a : List Nat} {k : Nat}, runs m k (a ++ b) = true → runs m 0 b = true
  | [], _, h => runs_mono (Nat.le_refl _) (Nat.zero_le _) h
  | c :: a, k, h => by
    rw [List.cons_append] at h
    cases hf : fig c with
    | true =>
      rw [runs_fig hf, Bool.and_eq_true] at h
      exact runs_suf h.2
    | false =>
      rw [runs_not hf] at h
      exact runs_suf h
theorem runs_sep {m s : Nat} (hs : fig s = false) {b : List Nat} : ∀ {a : List Nat} {k : Nat}, runs m k (a ++ s :: b) = (runs m k a && runs m 0 b)
  | [], k => by rw [List.nil_append, runs_not hs]; rfl
  | c :: a, k => by
    rw [List.cons_append]
    cases hf : fig c with
    | true => rw [runs_fig hf, runs_fig hf, runs_sep hs, Bool.and_assoc]
    | false => rw [runs_not hf, runs_not hf, runs_sep hs]
theorem runs_len {m : Nat} : ∀ {l : List Nat} {k : Nat}, k ≤ m → runs m k l = true → l.all fig = true → k + l.length ≤ m
  | [], k, hk, _, _ => hk
  | c :: r, k, hk, h, ha => by
    rw [List.all_cons, Bool.and_eq_true] at ha
    rw [runs_fig ha.1, Bool.and_eq_true, decide_eq_true_eq] at h
    have := runs_len h.1 h.2 ha.2
    rw [List.length_cons]
    omega
theorem runs_drop {m : Nat} {l : List Nat} (h : runs m 0 l = true) (i : Nat) : runs m 0 (l.drop i) = true := runs_suf (a := l.take i) (k := 0) (by rw [List.take_append_drop]; exact h)
theorem runs_take {m : Nat} {l : List Nat} (h : runs m 0 l = true) (i : Nat) : runs m 0 (l.take i) = true := runs_pre (b := l.drop i) (by rw [List.take_append_drop]; exact h)
theorem runs_join {m s : Nat} (hs : fig s = false) : ∀ {ps : List (List Nat)}, runs m 0 (TL.joinL [s] ps) = ps.all fun p => runs m 0 p
  | [] => rfl
  | [p] => by show runs m 0 p = (runs m 0 p && true); rw [Bool.and_true]
  | p :: q :: ps => by
    show runs m 0 (p ++ s :: TL.joinL [s] (q :: ps)) = _
    rw [runs_sep hs, runs_join hs, List.all_cons (a := p)]
/-! cut at a sign -/
def splitN (s : Nat) : List Nat → List (List Nat)
  | [] => [[]]
  | c :: r => if c = s then [] :: splitN s r else (match splitN s r with
    | [] => [[c]]
    | p :: ps => (c :: p) :: ps)
theorem splitN_ne {s : Nat} : ∀ {l : List Nat}, splitN s l ≠ []
  | [] => List.cons_ne_nil _ _
  | c :: r => by
    unfold splitN
    split
    · exact List.cons_ne_nil _ _
    · split <;> exact List.cons_ne_nil _ _
theorem splitN_join {s : Nat} : ∀ {l : List Nat}, TL.joinL [s] (splitN s l) = l
  | [] => rfl
  | c :: r => by
    have ih := splitN_join (s := s) (l := r)
    unfold splitN
    split
    · rename_i hc
      subst hc
      cases h : splitN c r with
      | nil => exact absurd h splitN_ne
      | cons p ps => rw [h] at ih; show [] ++ ([c] ++ TL.joinL [c] (p :: ps)) = _; rw [ih]; rfl
    · cases h : splitN s r with
      | nil => exact absurd h splitN_ne
      | cons p ps =>
        rw [h] at ih
        cases ps with
        | nil => exact congrArg (c :: ·) ih
        | cons q ps => exact congrArg (c :: ·) ih
theorem splitN_free {s : Nat} : ∀ {l : List Nat}, ∀ p ∈ splitN s l, s ∉ p
  | [], p, h => by rw [show splitN s [] = [[]] from rfl, List.mem_singleton] at h; subst h; exact List.not_mem_nil
  | c :: r, p, h => by
    have ih := splitN_free (s := s) (l := r)
    unfold splitN at h
    split at h
    · rcases List.mem_cons.mp h with rfl | h
      · exact List.not_mem_nil
      · exact ih p h
    · rename_i hc
      cases g : splitN s r with
      | nil => exact absurd g splitN_ne
      | cons q ps =>
        rw [g] at h ih
        rcases List.mem_cons.mp h with rfl | h
        · exact fun z => (List.mem_cons.mp z).elim (fun e => hc e.symm) (ih q List.mem_cons_self)
        · exact ih p (List.mem_cons_of_mem _ h)
theorem splitN_len {s : Nat} : ∀ {l : List Nat}, (splitN s l).length = l.count s + 1
  | [] => rfl
  | c :: r => by
    have ih := splitN_len (s := s) (l := r)
    unfold splitN
    split
    · rename_i hc
      subst hc
      rw [List.length_cons, ih, List.count_cons_self]
    · rename_i hc
      cases g : splitN s r with
      | nil => exact absurd g splitN_ne
      | cons q ps =>
        rw [g] at ih
        rw [List.count_cons_of_ne hc]
        exact ih
def jl (ps : List (List Nat)) : Nat := (ps.map (·.length)).sum + ps.length
theorem joinL_jl {s : Nat} : ∀ {ps : List (List Nat)}, (TL.joinL [s] ps).length ≤ jl ps ∧ (ps ≠ [] → (TL.joinL [s] ps).length + 1 = jl ps)
  | [] => ⟨Nat.zero_le _, fun h => absurd rfl h⟩
  | [p] => by
    have e : jl [p] = p.length + 1 := by unfold jl; simp
    exact ⟨by show p.length ≤ _; omega, fun _ => by show p.length + 1 = _; omega⟩
  | p :: q :: ps => by
    obtain ⟨h1, h2⟩ := joinL_jl (s := s) (ps := q :: ps)
    have h2 := h2 (List.cons_ne_nil _ _)
    have e : jl (p :: q :: ps) = p.length + 1 + jl (q :: ps) := by unfold jl; simp only [List.map_cons, List.sum_cons, List.length_cons]; omega
    have e2 : (TL.joinL [s] (p :: q :: ps)).length = p.length + (1 + (TL.joinL [s] (q :: ps)).length) := by
      show (p ++ ([s] ++ TL.joinL [s] (q :: ps))).length = _
      rw [List.length_append, List.length_append, List.length_singleton]
    exact ⟨by omega, fun _ => by omega⟩
theorem jl_app {a b : List (List Nat)} : jl (a ++ b) = jl a + jl b := by unfold jl; rw [List.map_append, List.sum_append, List.length_append]; omega
theorem jl_cons {a : List Nat} {b : List (List Nat)} : jl (a :: b) = a.length + 1 + jl b := by unfold jl; simp only [List.map_cons, List.sum_cons, List.length_cons]; omega
theorem jl_take {a : List (List Nat)} (i : Nat) : jl (a.take i) ≤ jl a := by have := jl_app (a := a.take i) (b := a.drop i); rw [List.take_append_drop] at this; omega
theorem jl_drop {a : List (List Nat)} (i : Nat) : jl (a.drop i) ≤ jl a := by have := jl_app (a := a.take i) (b := a.drop i); rw [List.take_append_drop] at this; omega
theorem jl_mem {a : List (List Nat)} {p : List Nat} (h : p ∈ a) : p.length + 1 ≤ jl a := by
  obtain ⟨x, y, rfl⟩ := List.append_of_mem h
  rw [jl_app, jl_cons]
  omega
theorem jl_set : ∀ {a : List (List Nat)} {i : Nat} {p : List Nat}, jl (a.set i p) ≤ jl a + p.length + 1
  | [], i, p => by rw [List.set_nil]; omega
  | x :: a, 0, p => by rw [List.set_cons_zero, jl_cons, jl_cons]; omega
  | x :: a, i + 1, p => by have := jl_set (a := a) (i := i) (p := p); rw [List.set_cons_succ, jl_cons, jl_cons]; omega
/-- the pieces of a text -/
def pcs (s : Nat) (t : Str) : List Str := (splitN s (TL.tl t)).map fun p => ⟨p.toArray⟩
theorem pcs_tl {s : Nat} {t : Str} : (pcs s t).map TL.tl = splitN s (TL.tl t) := by unfold pcs; rw [List.map_map]; exact List.map_id' _
theorem pcs_ne {s : Nat} {t : Str} : pcs s t ≠ [] := fun h => splitN_ne (List.map_eq_nil_iff.mp h)
theorem pcs_mem {s : Nat} {t p : Str} (h : p ∈ pcs s t) : TL.tl p ∈ splitN s (TL.tl t) := by rw [← pcs_tl]; exact List.mem_map_of_mem h
theorem pcs_split {s : Nat} {y t : Str} (ey : TL.tl y = [s]) (hk : y.cps.all (· < 256) = true) : Txt.split t y = pcs s t := by
  have h := TL.split_join (S := []) ey hk (parts := pcs s t) pcs_ne fun p hp => splitN_free _ (pcs_mem hp)
  have e : Txt.join y (pcs s t) = t := TL.ext_tl (by rw [TL.join_eq, TL.tl_join, pcs_tl, ey]; exact splitN_join)
  rwa [e] at h
/-- what is known of a text: how long, how many figures one behind the other, how many ends of lines -/
structure Tb (L m c : Nat) (t : Str) : Prop where
  len : (TL.tl t).length ≤ L
  fg : runs m 0 (TL.tl t) = true
  nl : (TL.tl t).count 10 ≤ c
  asc : ∀ x ∈ TL.tl t, x < 128
/-- a word that can be read -/
structure Wd (w : Str) : Prop where
  len : (TL.tl w).length ≤ 500000
  fg : runs 100 0 (TL.tl w) = true
  asc : ∀ x ∈ TL.tl w, x < 128
theorem fig10 : fig 10 = false := rfl
theorem fig32 : fig 32 = false := rfl
theorem pcs_fg {s m : Nat} {t p : Str} (hs : fig s = false) (h : runs m 0 (TL.tl t) = true) (hp : p ∈ pcs s t) : runs m 0 (TL.tl p) = true := by
  have e : runs m 0 (TL.joinL [s] (splitN s (TL.tl t))) = true := by rw [splitN_join]; exact h
  rw [runs_join hs, List.all_eq_true] at e
  exact e _ (pcs_mem hp)
theorem pcs_jl {s : Nat} {t : Str} : jl ((pcs s t).map TL.tl) = (TL.tl t).length + 1 := by
  have h2 := (joinL_jl (s := s) (ps := splitN s (TL.tl t))).2 splitN_ne
  rw [splitN_join] at h2
  rw [pcs_tl]
  omega
theorem join_asc {S : List Nat} (hS : ∀ x ∈ S, x < 128) : ∀ {ps : List (List Nat)}, (∀ p ∈ ps, ∀ x ∈ p, x < 128) → ∀ x ∈ TL.joinL S ps, x < 128
  | [], _, _, hx => nomatch hx
  | [p], h, x, hx => h p List.mem_cons_self x hx
  | p :: q :: ps, h, x, hx => by
    have hx : x ∈ p ++ (S ++ TL.joinL S (q :: ps)) := hx
    rcases List.mem_append.mp hx with z | z
    · exact h p List.mem_cons_self x z
    · rcases List.mem_append.mp z with z | z
      · exact hS x z
      · exact join_asc hS (fun r hr => h r (List.mem_cons_of_mem _ hr)) x z
theorem pcs_sub {s : Nat} : ∀ {l : List Nat}, ∀ p ∈ splitN s l, ∀ x ∈ p, x ∈ l
  | [], p, h, x, hx => by rw [show splitN s [] = [[]] from rfl, List.mem_singleton] at h; subst h; exact hx
  | c :: r, p, h, x, hx => by
    have ih := pcs_sub (s := s) (l := r)
    unfold splitN at h
    split at h
    · rcases List.mem_cons.mp h with rfl | h
      · cases hx
      · exact List.mem_cons_of_mem _ (ih p h x hx)
    · cases g : splitN s r with
      | nil => exact absurd g splitN_ne
      | cons q ps =>
        rw [g] at h ih
        rcases List.mem_cons.mp h with rfl | h
        · exact (List.mem_cons.mp hx).elim (fun e => e ▸ List.mem_cons_self) fun z => List.mem_cons_of_mem _ (ih q List.mem_cons_self x z)
        · exact List.mem_cons_of_mem _ (ih p (List.mem_cons_of_mem _ h) x hx)
theorem pcs_asc {s : Nat} {t p : Str} (h : ∀ x ∈ TL.tl t, x < 128) (hp : p ∈ pcs s t) : ∀ x ∈ TL.tl p, x < 128 := fun x hx => h x (pcs_sub _ (pcs_mem hp) x hx)
theorem pcs_wd {s : Nat} (hs : fig s = false) {t p : Str} (h : Wd t) (hp : p ∈ pcs s t) : Wd p := ⟨by
  have h1 := jl_mem (pcs_mem hp)
  have h2 := (joinL_jl (s := s) (ps := splitN s (TL.tl t))).2 splitN_ne
  rw [splitN_join] at h2
  have := h.len
  omega, pcs_fg hs h.fg hp, pcs_asc h.asc hp⟩
/-- rows joined again -/
theorem tb_join {L m c : Nat} {ps : List Str} (h1 : jl (ps.map TL.tl) ≤ L) (h2 : ∀ p ∈ ps, runs m 0 (TL.tl p) = true ∧ 10 ∉ TL.tl p) (h4 : ∀ p ∈ ps, ∀ x ∈ TL.tl p, x < 128) (h3 : ps.length ≤ c + 1) : Tb L m c (Txt.join (Str.ofString "\n") ps) := by
  have e : TL.tl (Txt.join (Str.ofString "\n") ps) = TL.joinL [10] (ps.map TL.tl) := by rw [TL.join_eq, TL.tl_join]; rfl
  refine ⟨by rw [e]; have := (joinL_jl (s := 10) (ps := ps.map TL.tl)).1; omega, ?_, ?_, ?_⟩
  · rw [e, runs_join fig10, List.all_eq_true]
    intro p hp
    obtain ⟨q, hq, rfl⟩ := List.mem_map.mp hp
    exact (h2 q hq).1
  · rw [e]
    have key : ∀ qs : List (List Nat), (∀ q ∈ qs, 10 ∉ q) → (TL.joinL [10] qs).count 10 ≤ qs.length - 1 := by
      intro qs
      induction qs with
      | nil => intro _; exact Nat.zero_le _
      | cons q qs ih =>
        intro hq
        have h0 : q.count 10 = 0 := List.count_eq_zero.mpr (hq q List.mem_cons_self)
        cases qs with
        | nil => show q.count 10 ≤ _; omega
        | cons r qs =>
          have := ih fun x hx => hq x (List.mem_cons_of_mem _ hx)
          show (q ++ ([10] ++ TL.joinL [10] (r :: qs))).count 10 ≤ _
          rw [List.count_append, List.count_append, h0]
          rw [List.length_cons] at this
          have e1 : ([10] : List Nat).count 10 = 1 := rfl
          rw [List.length_cons, List.length_cons]
          omega
    have := key (ps.map TL.tl) fun q hq => by
      obtain ⟨p, hp, rfl⟩ := List.mem_map.mp hq
      exact (h2 p hp).2
    rw [List.length_map] at this
    omega
  · rw [e]
    exact join_asc (fun x hx => by rw [List.mem_singleton.mp hx]; decide) fun q hq => by
      obtain ⟨p, hp, rfl⟩ := List.mem_map.mp hq
      exact h4 p hp
/-! numbers by words -/
def numO (w : Str) : Option Int := if (TL.tl w).isEmpty || !(TL.tl w).all fig || (decide ((TL.tl w).head? = some 48) && decide (1 < (TL.tl w).length)) then none else some (NumText.digitsVal (TL.tl w) : Nat)
theorem val_acc : ∀ (l : List Nat) (a : Nat), l.foldl (fun acc c => acc * 10 + (c - 48)) a < (a + 1) * 10 ^ l.length ∨ ¬ l.all fig = true
  | [], a => .inl (by simp)
  | c :: r, a => by
    by_cases h : (c :: r).all fig = true
    · rw [List.all_cons, Bool.and_eq_true] at h
      obtain ⟨h1, h2⟩ := h
      have hc : 48 ≤ c ∧ c ≤ 57 := by simpa [fig] using h1
      rcases val_acc r (a * 10 + (c - 48)) with z | z
      · left
        rw [List.foldl_cons, List.length_cons, Nat.pow_succ]
        have : (a * 10 + (c - 48) + 1) * 10 ^ r.length ≤ (a + 1) * (10 ^ r.length * 10) := by
          rw [Nat.mul_comm (10 ^ r.length) 10, ← Nat.mul_assoc]
          exact Nat.mul_le_mul_right _ (by omega)
        omega
      · exact absurd h2 z
    · exact .inr h
theorem val_lt {l : List Nat} (h : l.all fig = true) : NumText.digitsVal l < 10 ^ l.length := by
  rcases val_acc l 0 with z | z
  · rw [Nat.zero_add, Nat.one_mul] at z; exact z
  · exact absurd h z
theorem int_word {w : Str} (h : (TL.tl w).all fig = true) (hne : TL.tl w ≠ []) (hl : (TL.tl w).length ≤ 4300) : PySem.intText? w = some ((NumText.digitsVal (TL.tl w) : Nat) : Int) := by
  have := SX.int_S (a := TL.tl w) h hne hl
  rwa [show SX.S (TL.tl w) = w from TL.mk_tl w] at this
theorem numO_some {w : Str} {i : Int} (h : numO w = some i) : TL.tl w ≠ [] ∧ (TL.tl w).all fig = true ∧ i = (NumText.digitsVal (TL.tl w) : Nat) := by
  unfold numO at h
  split at h
  · cases h
  · rename_i c
    simp only [Bool.or_eq_true, not_or, Bool.not_eq_true] at c
    refine ⟨fun z => by rw [z] at c; exact absurd c.1.1 (by simp), by simpa using c.1.2, (Option.some.inj h).symm⟩
theorem numO_lt {w : Str} {i : Int} {m : Nat} (h : numO w = some i) (hr : runs m 0 (TL.tl w) = true) : 0 ≤ i ∧ i < 10 ^ m := by
  obtain ⟨h1, h2, rfl⟩ := numO_some h
  have h3 := val_lt h2
  have h4 := runs_len (Nat.zero_le _) hr h2
  refine ⟨by omega, ?_⟩
  have : (10 : Nat) ^ (TL.tl w).length ≤ 10 ^ m := Nat.pow_le_pow_right (by decide) (by omega)
  have h5 : NumText.digitsVal (TL.tl w) < 10 ^ m := by omega
  exact_mod_cast h5
end

section
/-! ### k63: a word read -/
theorem fig_in {c : Nat} : inSF (.str ⟨#[c]⟩) (.str (Str.ofString "0123456789")) = some (.dat (.bool (fig c))) := by
  show some (Rz.dat (.bool (!(Builtin.Str.occurrences (Str.ofString "0123456789") ⟨#[c]⟩ 0 (Str.ofString "0123456789").length 1).isEmpty))) = _
  rw [StrLaws.found_one, show (Str.ofString "0123456789").cps.toList = [48, 49, 50, 51, 52, 53, 54, 55, 56, 57] by decide +kernel]
  have e : decide (c ∈ [48, 49, 50, 51, 52, 53, 54, 55, 56, 57]) = fig c := by
    unfold fig
    rw [← Bool.decide_and]
    refine decide_eq_decide.mpr ?_
    simp only [List.mem_cons, List.not_mem_nil, or_false]
    omega
  rw [e]
theorem fig_ni {c : Nat} : niSF (.str ⟨#[c]⟩) (.str (Str.ofString "0123456789")) = some (.dat (.bool (!fig c))) := by
  have h := fig_in (c := c)
  have h : some (Rz.dat (.bool (!(Builtin.Str.occurrences (Str.ofString "0123456789") ⟨#[c]⟩ 0 (Str.ofString "0123456789").length 1).isEmpty))) = some (Rz.dat (.bool (fig c))) := h
  show some (Rz.dat (.bool (!(!(Builtin.Str.occurrences (Str.ofString "0123456789") ⟨#[c]⟩ 0 (Str.ofString "0123456789").length 1).isEmpty)))) = _
  have h2 := PyData.bool.inj (Rz.dat.inj (Option.some.inj h))
  rw [h2]
theorem lenT_txt {w : Str} (h : w.length ≤ 1000000) : lenT (.dat (.str w)) = some (w.length : Int) := by
  show (if lenOk w.length then some (w.length : Int) else none) = _
  rw [if_pos (show lenOk w.length = true from decide_eq_true h)]
theorem str_nil {w : Str} : w = Str.ofString "" ↔ TL.tl w = [] := ⟨fun h => by rw [h]; rfl, fun h => TL.ext_tl h⟩
theorem str_zero {w : Str} : w = Str.ofString "0" ↔ TL.tl w = [48] := ⟨fun h => by rw [h]; decide +kernel, fun h => TL.ext_tl (by rw [h]; decide +kernel)⟩
theorem str_one {c : Nat} : (⟨#[c]⟩ : Str) = Str.ofString "0" ↔ c = 48 := by
  rw [str_zero]
  show [c] = [48] ↔ _
  simp
theorem numO_nil {w : Str} (h : TL.tl w = []) : numO w = none := by unfold numO; rw [h]; rfl
theorem numO_bad {w : Str} (h : (TL.tl w).all fig = false) : numO w = none := by
  unfold numO
  rw [h]
  simp
theorem numO_0 {w : Str} {r : List Nat} (h : TL.tl w = 48 :: r) (hr : r ≠ []) : numO w = none := by
  unfold numO
  rw [if_pos]
  rw [h]
  have : 0 < r.length := List.length_pos_iff.mpr hr
  simp [this]
theorem numO_ok {w : Str} (hne : TL.tl w ≠ []) (ha : (TL.tl w).all fig = true) (h0 : ∀ r, TL.tl w = 48 :: r → r = []) : numO w = some ((NumText.digitsVal (TL.tl w) : Nat) : Int) := by
  unfold numO
  rw [if_neg]
  rw [ha]
  simp only [Bool.not_true, Bool.or_false, Bool.or_eq_true, Bool.and_eq_true, decide_eq_true_eq, List.isEmpty_iff]
  rintro (h | ⟨h1, h2⟩)
  · exact hne h
  · cases hw : TL.tl w with
    | nil => exact hne hw
    | cons c r =>
      rw [hw] at h1 h2
      have : c = 48 := by simpa using h1
      subst this
      rw [h0 r hw] at h2
      simp at h2
theorem num_read {w : Str} (hw : Wd w) : run 100000 (n + 1) .number_read [.dat (.str w)] = .ret (.dat (dueD (numO w))) [] := by
  have hl := hw.len
  have hr := hw.fg
  have hL : w.length ≤ 1000000 := by rw [TL.len_tl]; omega
  rw [en_number_read]
  apply ret_of
  unfold b_number_read
  walk_at "st"
  refine ⟨fun z => ?_, fun hne => ?_⟩
  · rw [numO_nil (str_nil.mp z)]
    rfl
  have hne : TL.tl w ≠ [] := fun z => hne (str_nil.mpr z)
  refine we_lcMap (fun c => PyData.bool (fig c)) (by show (TL.tl w).length ≤ _; omega) (fun c hc => ?_) ?_
  · walk_at "st"
    rw [fig_in]
    walk_at "st"
  walk_at "st"
  rw [show (w.cps.toList.all fun x => fig x) = (TL.tl w).all fig from rfl]
  cases ha : (TL.tl w).all fig with
  | false =>
    walk_at "st"
    rw [numO_bad ha]
    rfl
  | true =>
    walk_at "st"
    have hlen := runs_len (Nat.zero_le _) hr ha
    obtain ⟨c, r, hc⟩ : ∃ c r, TL.tl w = c :: r := by
      cases h : TL.tl w with
      | nil => exact absurd h hne
      | cons c r => exact ⟨c, r, rfl⟩
    have hix : ixF (.str w) 0 = some (.str ⟨#[c]⟩) := ix_str hL (by rw [show w.cps.toList = c :: r from hc, atI_nat (by decide)]; rfl)
    have hint : intSF (.str w) = some (.dat (.int ((NumText.digitsVal (TL.tl w) : Nat) : Int))) := intS_str (int_word ha hne (by omega)) (by rw [TL.len_tl]; omega)
    rw [hix]
    walk_at "st"
    refine ⟨fun z => ?_, fun z => ?_⟩
    · have hz : c = 48 := str_one.mp z
      subst hz
      refine ⟨fun z2 => ?_, fun z2 => ?_⟩
      rotate_left
      · rw [numO_0 hc fun e => z2 (str_zero.mpr (by rw [hc, e]))]
        rfl
      · have e : r = [] := by
          have := str_zero.mp z2
          rw [hc] at this
          exact (List.cons.inj this).2
        rw [hint]
        walk_at "st"
        rw [numO_ok hne ha fun r' h' => by rw [hc] at h'; rw [← (List.cons.inj h').2]; exact e]
        rfl
    · rw [hint]
      walk_at "st"
      rw [numO_ok hne ha fun r' h' => by rw [hc] at h'; exact absurd (str_one.mpr (List.cons.inj h').1) z]
      rfl
theorem cut_from60 {l : List PyData} {k : Int} (h : 0 ≤ k) : cutD l (some k) none = l.drop k.toNat := by
  unfold cutD
  rw [HT.sIx_none]
  obtain ⟨m, rfl⟩ : ∃ m : Nat, k = m := ⟨k.toNat, by omega⟩
  rw [HT.sIx_nat, Int.toNat_natCast]
  by_cases c : m ≤ l.length
  · rw [show min m l.length = m by omega, List.take_of_length_le (by rw [List.length_drop]; omega)]
  · rw [show min m l.length = l.length by omega, Nat.sub_self, List.take_zero, List.drop_eq_nil_of_le (by omega)]
theorem cut60 {x : PyData} {l : List PyData} : cutD (x :: l) (some 1) none = l := cut_from60 (by decide)
theorem splitW {t : Str} (h : (TL.tl t).length ≤ 900000) : splitF (.str t) (.str (Str.ofString " ")) = some (.lst ((pcs 32 t).map .str)) := by
  rw [split_str (by decide +kernel) (by rw [TL.len_tl]; exact h)]
  rw [pcs_split (s := 32) (by decide +kernel) (by decide +kernel)]
theorem splitR {t : Str} (h : (TL.tl t).length ≤ 900000) : splitF (.str t) (.str (Str.ofString "\n")) = some (.lst ((pcs 10 t).map .str)) := by
  rw [split_str (by decide +kernel) (by rw [TL.len_tl]; exact h)]
  rw [pcs_split (s := 10) (by decide +kernel) (by decide +kernel)]
theorem pcs_many {s : Nat} {t : Str} : (pcs s t).length ≤ (TL.tl t).length + 1 := by
  unfold pcs
  rw [List.length_map, splitN_len]
  have := List.count_le_length (a := s) (l := TL.tl t)
  omega

/-! ### k63: a number with a sign -/
def lo1 (w : Str) : Str := cutS w none (some 1)
def hi1 (w : Str) : Str := cutS w (some 1) none
theorem lo1_tl {w : Str} : TL.tl (lo1 w) = (TL.tl w).take 1 := by
  unfold lo1 cutS
  rw [HT.sIx_none, show (some (1 : Int)) = some ((1 : Nat) : Int) from rfl, HT.sIx_nat, List.drop_zero, Nat.sub_zero]
  show (TL.tl w).take (min 1 w.length) = _
  rw [TL.len_tl, Nat.min_def]
  split
  · rfl
  · rw [List.take_of_length_le (Nat.le_refl _), List.take_of_length_le (by omega)]
theorem hi1_tl {w : Str} : TL.tl (hi1 w) = (TL.tl w).drop 1 := by
  unfold hi1 cutS
  rw [HT.sIx_none, show (some (1 : Int)) = some ((1 : Nat) : Int) from rfl, HT.sIx_nat]
  show ((TL.tl w).drop (min 1 w.length)).take (w.length - min 1 w.length) = _
  rw [List.take_of_length_le (by rw [List.length_drop, ← TL.len_tl]; omega), TL.len_tl, Nat.min_def]
  split
  · rfl
  · rw [List.drop_of_length_le (Nat.le_refl _), List.drop_of_length_le (by omega)]
theorem Wd.drop {w : Str} (h : Wd w) : Wd (hi1 w) := ⟨by rw [hi1_tl, List.length_drop]; have := h.len; omega, by rw [hi1_tl]; exact runs_drop h.fg 1, fun x hx => by rw [hi1_tl] at hx; exact h.asc x (List.drop_subset _ _ hx)⟩
def wholeO (w : Str) : Option Int := if lo1 w = Str.ofString "-" ∧ w ≠ Str.ofString "-0" then (match numO (hi1 w) with
  | some i => some (0 - i)
  | none => none) else numO w
theorem slS63 {t : Str} {lo hi : Option Int} (h : (TL.tl t).length ≤ 900000) : slF (.str t) lo hi = some (.dat (.str (cutS t lo hi))) := by
  show (if lenOk t.length then some (Rz.dat (.str (cutS t lo hi))) else none) = _
  rw [if_pos (show lenOk t.length = true from decide_eq_true (by rw [TL.len_tl]; omega))]
theorem wholeO_neg {w : Str} (h1 : lo1 w = Str.ofString "-") (h2 : ¬ w = Str.ofString "-0") : wholeO w = (numO (hi1 w)).map fun i => 0 - i := by
  unfold wholeO
  rw [if_pos ⟨h1, h2⟩]
  cases numO (hi1 w) <;> rfl
theorem wholeO_pos {w : Str} (h : lo1 w = Str.ofString "-" → w = Str.ofString "-0") : wholeO w = numO w := by
  unfold wholeO
  rw [if_neg fun c => c.2 (h c.1)]
theorem num_size {w : Str} {i : Int} (hw : Wd w) (h : numO w = some i) : 0 ≤ i ∧ i < 10 ^ 100 := numO_lt h hw.fg
theorem whole_read {w : Str} (hw : Wd w) : run 100000 (n + 2) .whole_read [.dat (.str w)] = .ret (.dat (dueD (wholeO w))) [] := by
  have hl := hw.len
  have e1 := num_read (n := n) hw
  have e2 := num_read (n := n) hw.drop
  have s1 : slF (.str w) none (some 1) = some (.dat (.str (lo1 w))) := slS63 (by omega)
  have s2 : slF (.str w) (some 1) none = some (.dat (.str (hi1 w))) := slS63 (by omega)
  have hz := fun i => num_size (i := i) hw.drop
  rw [en_whole_read]
  apply ret_of
  unfold b_whole_read
  rw [wr_fin]
  generalize run 100000 (n + 1) = Φ at *
  generalize hq : wholeO w = q
  walk_at "st"
  rw [s1]
  walk_at "st"
  refine ⟨fun c1 => ⟨fun c2 => ?_, fun c2 => ?_⟩, fun c1 => ?_⟩
  · rw [wholeO_pos fun _ => c2] at hq
    rw [e1, hq]
    walk_at "st"
  · rw [wholeO_neg c1 c2] at hq
    rw [s2]
    walk_at "st"
    rw [e2]
    generalize numO (hi1 w) = u at *
    cases u with
    | none =>
      rw [show dueD none = PyData.none from rfl]
      walk_at "st"
      rw [← hq]
      rfl
    | some i =>
      rw [show dueD (some i) = PyData.int i from rfl]
      walk_at "st"
      rw [← hq]
      rfl
  · rw [wholeO_pos fun c => absurd c c1] at hq
    rw [e1, hq]
    walk_at "st"
theorem dash_tl {w : Str} (h : lo1 w = Str.ofString "-") : TL.tl w = 45 :: TL.tl (hi1 w) := by
  have h1 : TL.tl (lo1 w) = [45] := by rw [h]; decide +kernel
  rw [lo1_tl] at h1
  rw [hi1_tl]
  cases hw : TL.tl w with
  | nil => rw [hw] at h1; cases h1
  | cons c r => rw [hw] at h1; rw [show c = 45 from by simpa using h1]; rfl
theorem dash_num {w : Str} (h : lo1 w = Str.ofString "-") : numO w = none := numO_bad (by
  rw [dash_tl h]
  rfl)
/-- the law's own number: figures f, read of the word w -/
theorem l_number63 {w : Str} {b : Bool} (hw : Wd w) : run 100000 (n + 1) ._law_number [.dat (.str w), .dat (.bool b)] = .ret (.dat (dueD (if b then wholeO w else numO w))) [] := by
  have hl := hw.len
  have s1 : slF (.str w) none (some 1) = some (.dat (.str (lo1 w))) := slS63 (by omega)
  have s2 : slF (.str w) (some 1) none = some (.dat (.str (hi1 w))) := slS63 (by omega)
  rw [en__law_number]
  apply ret_of
  unfold b__law_number
  rw [wr_fin]
  generalize run 100000 n = Φ at *
  generalize hq : (if b then wholeO w else numO w) = q
  refine ws_cut (fun e' => e' = [.o (.dat (.str w)), .o (.dat (.bool b)), .o (.dat (.str w)), .o .un]) ?_ ?_
  · walk_at "st"
  rintro _ rfl
  -- the figures
  refine ws_cut (fun e' => ∃ f, ((f = w ∧ q = numO w) ∨ (f = hi1 w ∧ b = true ∧ lo1 w = Str.ofString "-")) ∧ e' = [.o (.dat (.str w)), .o (.dat (.bool b)), .o (.dat (.str f)), .o .un]) ?_ ?_
  · cases b with
    | false =>
      walk_at "st"
      exact ⟨w, ⟨rfl, hq.symm⟩, rfl⟩
    | true =>
      walk_at "st"
      rw [s1]
      walk_at "st"
      refine ⟨fun c => ?_, fun c => ?_⟩
      · rw [s2]
        walk_at "st"
        exact ⟨_, .inr ⟨rfl, c⟩, rfl⟩
      · exact ⟨w, .inl ⟨rfl, by rw [← hq]; exact wholeO_pos fun z => absurd z c⟩, rfl⟩
  rintro _ ⟨f, hf, rfl⟩
  have hfw : Wd f := by
    rcases hf with ⟨rfl, _⟩ | ⟨rfl, _⟩
    · exact hw
    · exact hw.drop
  have hfl := hfw.len
  have hL : f.length ≤ 1000000 := by rw [TL.len_tl]; omega
  -- no number
  have hno : numO f = none → q = none := fun hn => by
    rcases hf with ⟨rfl, e⟩ | ⟨rfl, rfl, c⟩
    · rw [e, hn]
    · have hq : wholeO w = q := hq
      by_cases c2 : w = Str.ofString "-0"
      · rw [← hq, wholeO_pos fun _ => c2, dash_num c]
      · rw [← hq, wholeO_neg c c2, hn]; rfl
  refine ws_cut (fun e' => TL.tl f ≠ [] ∧ (TL.tl f).all fig = true ∧ e' = [.o (.dat (.str w)), .o (.dat (.bool b)), .o (.dat (.str f)), .o .un]) ?_ ?_
  · walk_at "st"
    refine ⟨fun z => ?_, fun z => ?_⟩
    · rw [hno (numO_nil (str_nil.mp z))]
      rfl
    have hne : TL.tl f ≠ [] := fun y => z (str_nil.mpr y)
    refine we_lcFil (fun c => !fig c) (fun c => PyData.str ⟨#[c]⟩) (by show (TL.tl f).length ≤ _; omega) (fun c hc => ?_) ?_
    · walk_at "st"
      rw [fig_ni]
      walk_at "st"
    walk_at "st"
    rw [ne_nil fun d hd => by
      obtain ⟨c, hc, rfl⟩ := List.mem_map.mp hd
      have := hfw.asc c (List.mem_filter.mp hc).1
      refine ⟨?_, by simp [PyData.depth]⟩
      show PyData.strOk ⟨#[c]⟩ = true
      unfold PyData.strOk
      simp
      omega]
    rw [show (List.map (fun c => PyData.str ⟨#[c]⟩) (List.filter (fun c => !fig c) f.cps.toList)).isEmpty = (TL.tl f).all fig by
      rw [List.isEmpty_map, Bool.eq_iff_iff, List.isEmpty_iff, List.filter_eq_nil_iff, List.all_eq_true]
      simp]
    cases ha : (TL.tl f).all fig with
    | false =>
      walk_at "st"
      rw [hno (numO_bad ha)]
      rfl
    | true =>
      walk_at "st"
      exact hne
  rintro _ ⟨hne, ha, rfl⟩
  have hlen := runs_len (Nat.zero_le _) hfw.fg ha
  obtain ⟨c, r, hc⟩ : ∃ c r, TL.tl f = c :: r := by
    cases h : TL.tl f with
    | nil => exact absurd h hne
    | cons c r => exact ⟨c, r, rfl⟩
  have hix : ixF (.str f) 0 = some (.str ⟨#[c]⟩) := ix_str hL (by rw [show f.cps.toList = c :: r from hc, atI_nat (by decide)]; rfl)
  have hint : intSF (.str f) = some (.dat (.int ((NumText.digitsVal (TL.tl f) : Nat) : Int))) := intS_str (int_word ha hne (by omega)) (by rw [TL.len_tl]; omega)
  have hb : 0 ≤ ((NumText.digitsVal (TL.tl f) : Nat) : Int) ∧ ((NumText.digitsVal (TL.tl f) : Nat) : Int) < 10 ^ 100 := by
    have h3 := val_lt ha
    have : (10 : Nat) ^ (TL.tl f).length ≤ 10 ^ 100 := Nat.pow_le_pow_right (by decide) (by omega)
    have h5 : NumText.digitsVal (TL.tl f) < 10 ^ 100 := by omega
    exact ⟨by omega, by exact_mod_cast h5⟩
  generalize hv : ((NumText.digitsVal (TL.tl f) : Nat) : Int) = v at *
  refine ws_cut (fun e' => (c = 48 → w = Str.ofString "0") ∧ e' = [.o (.dat (.str w)), .o (.dat (.bool b)), .o (.dat (.str f)), .o .un]) ?_ ?_
  · walk_at "st"
    rw [hix]
    walk_at "st"
    refine ⟨fun z => ⟨fun y _ => y, fun y => ?_⟩, fun z y => absurd (str_one.mpr y) z⟩
    have hc48 := str_one.mp z
    subst hc48
    have hr : r ≠ [] → q = none := fun hr => hno (numO_0 hc hr)
    by_cases hr0 : r = []
    · subst hr0
      rcases hf with ⟨rfl, e⟩ | ⟨rfl, rfl, c⟩
      · exact absurd (str_zero.mpr hc) y
      · have hq : wholeO w = q := hq
        have hw0 : w = Str.ofString "-0" := TL.ext_tl (by rw [dash_tl c, hc]; decide +kernel)
        rw [← hq, wholeO_pos fun _ => hw0, dash_num c]
        rfl
    · rw [hr hr0]
      rfl
  rintro _ ⟨h0, rfl⟩
  walk_at "st"
  refine ⟨fun z => ?_, fun z => ?_⟩
  · subst z
    have e : q = numO f := by
      rcases hf with ⟨_, e⟩ | ⟨e, rfl, c1⟩
      · exact e
      · have h1 := dash_tl c1
        rw [← e] at h1
        have := congrArg List.length h1
        simp at this
    rw [hint]
    walk_at "st"
    rw [e, numO_ok hne ha fun r' h' => by
      rw [hc] at h'
      have h48 := (List.cons.inj h').1
      have := str_zero.mp (h0 h48)
      rw [hc] at this
      rw [← (List.cons.inj h').2]
      exact (List.cons.inj this).2, hv]
    rfl
  · rcases hf with ⟨e, _⟩ | ⟨e, rfl, c1⟩
    · exact absurd e z
    · have hq : wholeO w = q := hq
      have h48 : c ≠ 48 := fun y => by
        have h1 := h0 y
        have h2 := dash_tl c1
        rw [h1] at h2
        have h3 : TL.tl (Str.ofString "0") = [48] := by decide +kernel
        rw [h3] at h2
        exact absurd (List.cons.inj h2).1 (by decide)
      have hw0 : ¬ w = Str.ofString "-0" := fun y => by
        have h2 := dash_tl c1
        rw [← e, hc, y] at h2
        have h3 : TL.tl (Str.ofString "-0") = [45, 48] := by decide +kernel
        rw [h3] at h2
        have h4 := (List.cons.inj h2).2
        exact h48 (List.cons.inj h4).1.symm
      rw [hint]
      walk_at "st"
      rw [← hq, wholeO_neg c1 hw0, ← e, numO_ok hne ha fun r' h' => by rw [hc] at h'; exact absurd (List.cons.inj h').1 h48, hv]
      rfl
end

section
/-! ### k63: a part of a reason -/
theorem cut_tl {w : Str} {lo hi : Option Int} : TL.tl (cutS w lo hi) = ((TL.tl w).drop (HT.sIx w.length 0 lo)).take (HT.sIx w.length w.length hi - HT.sIx w.length 0 lo) := rfl
theorem Wd.cut {w : Str} (h : Wd w) (lo hi : Option Int) : Wd (cutS w lo hi) := ⟨by rw [cut_tl, List.length_take, List.length_drop]; have := h.len; omega, by rw [cut_tl]; exact runs_take (runs_drop h.fg _) _, fun x hx => by rw [cut_tl] at hx; exact h.asc x (List.drop_subset _ _ (List.take_subset _ _ hx))⟩
theorem fig44 : fig 44 = false := rfl
theorem splitC {t : Str} (h : (TL.tl t).length ≤ 900000) : splitF (.str t) (.str (Str.ofString ",")) = some (.lst ((pcs 44 t).map .str)) := by
  rw [split_str (by decide +kernel) (by rw [TL.len_tl]; exact h)]
  rw [pcs_split (s := 44) (by decide +kernel) (by decide +kernel)]
def la1 (w : Str) : Str := cutS w (some (-1)) none
def mid (w : Str) : Str := cutS w (some 1) (some (-1))
def partO (w : Str) : Option (Int × Option Int) := if lo1 w = Str.ofString "(" ∧ la1 w = Str.ofString ")" then (match pcs 44 (mid w) with
  | [a, b] => (match numO a with
    | some i => if numO b = none ∧ b ≠ Str.ofString "" then none else some (i, numO b)
    | none => none)
  | _ => none) else none
def ptD : Int × Option Int → PyData := fun p => .tuple [.int p.1, dueD p.2]
def partOD : Option (Int × Option Int) → PyData
  | none => .none
  | some p => ptD p
theorem partO_no {w : Str} (h : ¬ (lo1 w = Str.ofString "(" ∧ la1 w = Str.ofString ")")) : partO w = none := if_neg h
theorem partO_len {w : Str} (h : (pcs 44 (mid w)).length ≠ 2) : partO w = none := by
  unfold partO
  split
  · match pcs 44 (mid w), h with
    | [], _ => rfl
    | [a], _ => rfl
    | [a, b], h => exact absurd rfl h
    | a :: b :: c :: r, _ => rfl
  · rfl
theorem partO_two {w a b : Str} (h1 : lo1 w = Str.ofString "(" ∧ la1 w = Str.ofString ")") (h2 : pcs 44 (mid w) = [a, b]) : partO w = match numO a with
    | some i => if numO b = none ∧ b ≠ Str.ofString "" then none else some (i, numO b)
    | none => none := by
  unfold partO
  rw [if_pos h1, h2]
theorem two63 {α : Type} {l : List α} (h : l.length = 2) : ∃ a b, l = [a, b] := by
  match l, h with
  | [a, b], _ => exact ⟨a, b, rfl⟩
theorem part_read {w : Str} (hw : Wd w) : run 100000 (n + 2) .part_read [.dat (.str w)] = .ret (.dat (partOD (partO w))) [] := by
  have hl := hw.len
  have hm : Wd (mid w) := hw.cut _ _
  have s1 : slF (.str w) none (some 1) = some (.dat (.str (lo1 w))) := slS63 (by omega)
  have s2 : slF (.str w) (some (-1)) none = some (.dat (.str (la1 w))) := slS63 (by omega)
  have s3 : slF (.str w) (some 1) (some (-1)) = some (.dat (.str (mid w))) := slS63 (by omega)
  have es := splitC (t := mid w) (by have := hm.len; omega)
  have en : ∀ v ∈ pcs 44 (mid w), run 100000 (n + 1) .number_read [.dat (.str v)] = .ret (.dat (dueD (numO v))) [] := fun v hv => num_read (pcs_wd fig44 hm hv)
  rw [en_part_read]
  apply ret_of
  unfold b_part_read
  rw [wr_fin]
  generalize run 100000 (n + 1) = Φ at *
  generalize hq : partO w = q
  refine ws_cut (fun e' => e' = [.o (.dat (.str w)), .o (.own ((pcs 44 (mid w)).map .str)), .o .un, .o .un]) ?_ ?_
  · walk_at "go"
    rw [s3]
    walk_at "go"
    rw [es]
    walk_at "go"
  rintro _ rfl
  refine ws_cut (fun e' => (lo1 w = Str.ofString "(" ∧ la1 w = Str.ofString ")") ∧ (pcs 44 (mid w)).length = 2 ∧ e' = [.o (.dat (.str w)), .o (.own ((pcs 44 (mid w)).map .str)), .o .un, .o .un]) ?_ ?_
  · walk_at "go"
    rw [s1]
    walk_at "go"
    refine ⟨fun c1 => ?_, fun c1 => ?_⟩
    · rw [s2]
      walk_at "go"
      refine ⟨fun c2 => ⟨fun c3 => ?_, fun c3 => ?_⟩, fun c2 => ?_⟩
      · rw [List.length_map] at c3
        exact ⟨⟨c1, c2⟩, by omega⟩
      · rw [← hq, partO_len fun z => c3 (by rw [List.length_map, z]; rfl)]
        rfl
      · rw [← hq, partO_no fun z => c2 z.2]
        rfl
    · rw [← hq, partO_no fun z => c1 z.1]
      rfl
  rintro _ ⟨h1, h2, rfl⟩
  obtain ⟨a, b, hab⟩ := two63 h2
  have hp := partO_two h1 hab
  have ea := en a (by rw [hab]; exact List.mem_cons_self)
  have eb := en b (by rw [hab]; exact List.mem_cons_of_mem _ List.mem_cons_self)
  rw [hq] at hp
  rw [hab, show List.map PyData.str [a, b] = [.str a, .str b] from rfl]
  clear hab en es hq
  generalize numO a = u at *
  generalize numO b = v at *
  walk_at "go"
  rw [ea]
  walk_at "go"
  rw [eb]
  cases u with
  | none =>
    walk_at "go"
    rw [hp]
    rw [show dueD none = PyData.none from rfl]
    walk_at "go"
    rfl
  | some i =>
    rw [show dueD (some i) = PyData.int i from rfl]
    cases v with
    | none =>
      rw [show dueD none = PyData.none from rfl]
      walk_at "go"
      refine ⟨fun c => ?_, fun c => ?_⟩
      · have e : q = some (i, none) := by rw [hp]; exact if_neg fun z => z.2 c
        rw [e]
        rfl
      · have e : q = none := by rw [hp]; exact if_pos ⟨rfl, c⟩
        rw [e]
        rfl
    | some k =>
      rw [show dueD (some k) = PyData.int k from rfl]
      walk_at "go"
      rw [hp]
      rfl
theorem short63 {w : Str} (h : (w.length : Int) < 2) : ¬ (lo1 w = Str.ofString "(" ∧ la1 w = Str.ofString ")") := fun ⟨h1, h2⟩ => by
  have t1 : (TL.tl w).take 1 = [40] := by rw [← lo1_tl, h1]; decide +kernel
  cases hw : TL.tl w with
  | nil => rw [hw] at t1; cases t1
  | cons c r =>
    have hl : (TL.tl w).length < 2 := by rw [← TL.len_tl]; omega
    rw [hw] at t1 hl
    have hr : r = [] := List.eq_nil_of_length_eq_zero (by rw [List.length_cons] at hl; omega)
    subst hr
    have t2 : TL.tl (la1 w) = [41] := by rw [h2]; decide +kernel
    have t3 : TL.tl (la1 w) = [c] := by
      unfold la1
      rw [cut_tl, hw]
      have : w.length = 1 := by rw [TL.len_tl, hw]; rfl
      rw [this]
      rfl
    rw [t3] at t2
    have e1 : c = 41 := by simpa using t2
    have e2 : c = 40 := by simpa using t1
    omega
theorem l_part {w : Str} (hw : Wd w) : run 100000 (n + 2) ._law_part [.dat (.str w)] = .ret (.dat (partOD (partO w))) [] := by
  have hl := hw.len
  have hm : Wd (mid w) := hw.cut _ _
  have s1 : slF (.str w) none (some 1) = some (.dat (.str (lo1 w))) := slS63 (by omega)
  have s2 : slF (.str w) (some (-1)) none = some (.dat (.str (la1 w))) := slS63 (by omega)
  have s3 : slF (.str w) (some 1) (some (-1)) = some (.dat (.str (mid w))) := slS63 (by omega)
  have es := splitC (t := mid w) (by have := hm.len; omega)
  have en : ∀ v ∈ pcs 44 (mid w), run 100000 (n + 1) ._law_number [.dat (.str v), .dat (.bool false)] = .ret (.dat (dueD (numO v))) [] := fun v hv => l_number63 (b := false) (pcs_wd fig44 hm hv)
  rw [en__law_part]
  apply ret_of
  unfold b__law_part
  rw [wr_fin]
  generalize run 100000 (n + 1) = Φ at *
  generalize hq : partO w = q
  refine ws_cut (fun e' => e' = [.o (.dat (.str w)), .o (.own ((pcs 44 (mid w)).map .str)), .o .un, .o .un]) ?_ ?_
  · walk_at "go"
    rw [s3]
    walk_at "go"
    rw [es]
    walk_at "go"
  rintro _ rfl
  refine ws_cut (fun e' => (lo1 w = Str.ofString "(" ∧ la1 w = Str.ofString ")") ∧ (pcs 44 (mid w)).length = 2 ∧ e' = [.o (.dat (.str w)), .o (.own ((pcs 44 (mid w)).map .str)), .o .un, .o .un]) ?_ ?_
  · walk_at "go"
    rw [s1]
    walk_at "go"
    refine ⟨fun c1 => ?_, fun c1 => ?_⟩
    · rw [s2]
      walk_at "go"
      refine ⟨fun c2 => ?_, fun c2 => ?_⟩
      · rw [lenT_txt (by rw [TL.len_tl]; omega)]
        walk_at "go"
        refine ⟨fun c4 => ?_, fun c4 => ⟨fun c3 => ?_, fun c3 => ?_⟩⟩
        · exact absurd ⟨c1, c2⟩ (short63 c4)
        · rw [List.length_map] at c3
          exact ⟨⟨c1, c2⟩, by omega⟩
        · rw [← hq, partO_len fun z => c3 (by rw [List.length_map, z]; rfl)]
          rfl
      · rw [← hq, partO_no fun z => c2 z.2]
        rfl
    · rw [← hq, partO_no fun z => c1 z.1]
      rfl
  rintro _ ⟨h1, h2, rfl⟩
  obtain ⟨a, b, hab⟩ := two63 h2
  have hp := partO_two h1 hab
  have ea := en a (by rw [hab]; exact List.mem_cons_self)
  have eb := en b (by rw [hab]; exact List.mem_cons_of_mem _ List.mem_cons_self)
  rw [hq] at hp
  rw [hab, show List.map PyData.str [a, b] = [.str a, .str b] from rfl]
  clear hab en es hq
  generalize numO a = u at *
  generalize numO b = v at *
  walk_at "go"
  rw [ea]
  walk_at "go"
  rw [eb]
  cases u with
  | none =>
    walk_at "go"
    rw [hp]
    rw [show dueD none = PyData.none from rfl]
    walk_at "go"
    rfl
  | some i =>
    rw [show dueD (some i) = PyData.int i from rfl]
    cases v with
    | none =>
      rw [show dueD none = PyData.none from rfl]
      walk_at "go"
      refine ⟨fun c => ?_, fun c => ?_⟩
      · have e : q = some (i, none) := by rw [hp]; exact if_neg fun z => z.2 c
        rw [e]
        rfl
      · have e : q = none := by rw [hp]; exact if_pos ⟨rfl, c⟩
        rw [e]
        rfl
    | some k =>
      rw [show dueD (some k) = PyData.int k from rfl]
      walk_at "go"
      rw [hp]
      rfl
end

section
/-! ### k63: a statement -/
structure Ws (l : List Str) : Prop where
  w : ∀ v ∈ l, Wd v
  len : l.length ≤ 900000
theorem Ws.drop {l : List Str} (h : Ws l) (i : Nat) : Ws (l.drop i) := ⟨fun v hv => h.w v (List.drop_subset _ _ hv), by rw [List.length_drop]; have := h.len; omega⟩
theorem Ws.take {l : List Str} (h : Ws l) (i : Nat) : Ws (l.take i) := ⟨fun v hv => h.w v (List.take_subset _ _ hv), by rw [List.length_take]; have := h.len; omega⟩
theorem Ws.tail {v : Str} {l : List Str} (h : Ws (v :: l)) : Ws l := h.drop 1
theorem Ws.head {v : Str} {l : List Str} (h : Ws (v :: l)) : Wd v := h.w v List.mem_cons_self
theorem lay_str {v : Str} (h : Wd v) : PyData.canLay0 (.str v) = true ∧ (PyData.str v).depth ≤ 3 := ⟨by
  show PyData.strOk v = true
  unfold PyData.strOk
  rw [Array.all_eq_true]
  intro i hi
  have := h.asc v.cps[i] (by show _ ∈ v.cps.toList; exact Array.getElem_mem_toList hi)
  exact decide_eq_true (by omega), by simp [PyData.depth]⟩
theorem eqvAll_strs : ∀ {l m : List Str}, PyData.eqvAll (l.map .str) (m.map .str) = decide (l = m)
  | [], [] => rfl
  | [], _ :: _ => rfl
  | _ :: _, [] => rfl
  | a :: l, b :: m => by
    rw [List.map_cons, List.map_cons]
    show (PyData.eqv (.str a) (.str b) && PyData.eqvAll (l.map .str) (m.map .str)) = _
    rw [eqvAll_strs]
    have : PyData.eqv (.str a) (.str b) = decide (a = b) := by
      rw [Bool.eq_iff_iff, decide_eq_true_eq]
      simp [PyData.eqv]
    rw [this, ← Bool.decide_and]
    exact decide_eq_decide.mpr (by rw [List.cons.injEq])
theorem eq_strs {l m : List Str} (hl : Ws l) (hm : ∀ v ∈ m, PyData.canLay0 (.str v) = true) : eqF (.list (l.map .str)) (.list (m.map .str)) = some (.bool (decide (l = m))) := by
  rw [eq_shaped rfl (shp_list fun d hd => by obtain ⟨v, hv, rfl⟩ := List.mem_map.mp hd; exact lay_str (hl.w v hv)) (shp_list fun d hd => by obtain ⟨v, hv, rfl⟩ := List.mem_map.mp hd; exact ⟨hm v hv, by simp [PyData.depth]⟩)]
  show some (PyData.bool (PyData.eqvAll (l.map .str) (m.map .str))) = _
  rw [eqvAll_strs]
theorem cutD_1 {l : List Str} : cutD (l.map PyData.str) none (some 1) = (l.take 1).map .str := by
  unfold cutD
  rw [HT.sIx_none, show (some (1 : Int)) = some ((1 : Nat) : Int) from rfl, HT.sIx_nat, List.drop_zero, Nat.sub_zero, List.map_take, Nat.min_def]
  split
  · rfl
  · rw [List.take_of_length_le (Nat.le_refl _), List.take_of_length_le (by omega)]
def stO : List Str → Option (PyData × Nat)
  | [] => none
  | k :: r => if k = Str.ofString "none" then some (.tuple [.str k], 1) else (match r with
    | a :: s :: b :: _ => if (k = Str.ofString "free" ∧ s = Str.ofString ">=") ∨ (k = Str.ofString "due" ∧ s = Str.ofString "<=") then (match numO a, wholeO b with
      | some t, some h => some (.tuple [.str k, .int t, .int h], 4)
      | _, _ => none) else none
    | _ => none)
def stD : Option (PyData × Nat) → PyData
  | none => .none
  | some p => .tuple [p.1, .int (p.2 : Int)]
theorem sg_free : tab_SIGNS.lookup (Str.ofString "free") = some (.str (Str.ofString ">=")) := rfl
theorem sg_due : tab_SIGNS.lookup (Str.ofString "due") = some (.str (Str.ofString "<=")) := rfl
theorem sg_no {k : Str} (h1 : k ≠ Str.ofString "free") (h2 : k ≠ Str.ofString "due") : tab_SIGNS.lookup k = none := by
  have e1 : (k == Str.ofString "free") = false := by simpa using h1
  have e2 : (k == Str.ofString "due") = false := by simpa using h2
  show List.lookup k [(Str.ofString "free", PyData.str (Str.ofString ">=")), (Str.ofString "due", .str (Str.ofString "<="))] = none
  rw [List.lookup_cons, e1, List.lookup_cons, e2]
  rfl
theorem kni_eq {tab : Tab} {k : Str} : kinF true tab (.str k) = some (.dat (.bool (!(tab.lookup k).isSome))) := rfl
theorem kni_none {tab : Tab} {k : Str} (h : tab.lookup k = none) : kinF true tab (.str k) = some (.dat (.bool true)) := by rw [kni_eq, h]; rfl
theorem kni_some {tab : Tab} {k : Str} {x : PyData} (h : tab.lookup k = some x) : kinF true tab (.str k) = some (.dat (.bool false)) := by rw [kni_eq, h]; rfl
theorem kget_eq {tab : Tab} {k : Str} {x : PyData} (h : tab.lookup k = some x) : kgetF tab (.str k) = some (.dat x) := by
  show (match tab.lookup k with | some x => some (Rz.dat x) | none => none) = _
  rw [h]
theorem stO_eq {k : Str} {r : List Str} (h1 : k ≠ Str.ofString "none") : stO (k :: r) = (match r with
    | a :: s :: b :: _ => if (k = Str.ofString "free" ∧ s = Str.ofString ">=") ∨ (k = Str.ofString "due" ∧ s = Str.ofString "<=") then (match numO a, wholeO b with
      | some t, some h => some (.tuple [.str k, .int t, .int h], 4)
      | _, _ => none) else none
    | _ => none) := if_neg h1
theorem stO_short {k : Str} {r : List Str} (h1 : k ≠ Str.ofString "none") (h2 : r.length < 3) : stO (k :: r) = none := by
  rw [stO_eq h1]
  match r, h2 with
  | [], _ => rfl
  | [_], _ => rfl
  | [_, _], _ => rfl
  | a :: b :: c :: _, h => rw [List.length_cons, List.length_cons, List.length_cons] at h; omega
theorem four63 {α : Type} {l : List α} (h : ¬ l.length < 4) : ∃ k a s b r, l = k :: a :: s :: b :: r := by
  match l, h with
  | k :: a :: s :: b :: r, _ => exact ⟨k, a, s, b, r, rfl⟩
  | [], h => exact absurd (by decide : 0 < 4) h
  | [_], h => exact absurd (by decide : 1 < 4) h
  | [_, _], h => exact absurd (by decide : 2 < 4) h
  | [_, _, _], h => exact absurd (by decide : 3 < 4) h
def stC (k s : Str) : Prop := (k = Str.ofString "free" ∧ s = Str.ofString ">=") ∨ (k = Str.ofString "due" ∧ s = Str.ofString "<=")
theorem free_due : Str.ofString "free" ≠ Str.ofString "due" := by decide +kernel
theorem sg_any (k : Str) : (tab_SIGNS.lookup k = none ∧ ∀ s, ¬ stC k s) ∨ ∃ sg, tab_SIGNS.lookup k = some (.str sg) ∧ ∀ s, stC k s ↔ s = sg := by
  by_cases h1 : k = Str.ofString "free"
  · subst h1
    exact .inr ⟨_, sg_free, fun s => ⟨fun c => c.elim (fun z => z.2) fun z => absurd z.1 free_due, fun z => .inl ⟨rfl, z⟩⟩⟩
  by_cases h2 : k = Str.ofString "due"
  · subst h2
    exact .inr ⟨_, sg_due, fun s => ⟨fun c => c.elim (fun z => absurd z.1.symm free_due) fun z => z.2, fun z => .inr ⟨rfl, z⟩⟩⟩
  exact .inl ⟨sg_no h1 h2, fun s c => c.elim (fun z => h1 z.1) fun z => h2 z.1⟩
def stP (k : Str) : Option Int → Option Int → Option (PyData × Nat)
  | some t, some h => some (.tuple [.str k, .int t, .int h], 4)
  | _, _ => none
theorem stO_long {k a s b : Str} {r : List Str} (h1 : k ≠ Str.ofString "none") (h2 : stC k s) : stO (k :: a :: s :: b :: r) = stP k (numO a) (wholeO b) := by
  rw [stO_eq h1]
  refine (if_pos (show (_ ∧ _) ∨ (_ ∧ _) from h2)).trans ?_
  cases numO a <;> cases wholeO b <;> rfl
theorem stO_not {k a s b : Str} {r : List Str} (h1 : k ≠ Str.ofString "none") (h2 : ¬ stC k s) : stO (k :: a :: s :: b :: r) = none := by
  rw [stO_eq h1]
  exact if_neg h2
theorem statement_read {l : List Str} (hl : Ws l) : run 100000 (n + 3) .statement_read [.dat (.list (l.map .str))] = .ret (.dat (stD (stO l))) [] := by
  have en : ∀ v ∈ l, run 100000 (n + 2) .number_read [.dat (.str v)] = .ret (.dat (dueD (numO v))) [] := fun v hv => num_read (n := n + 1) (hl.w v hv)
  have ew : ∀ v ∈ l, run 100000 (n + 2) .whole_read [.dat (.str v)] = .ret (.dat (dueD (wholeO v))) [] := fun v hv => whole_read (n := n) (hl.w v hv)
  have e1 := eq_strs (m := [Str.ofString "none"]) (hl.take 1) (fun v hv => by rw [List.mem_singleton.mp hv]; decide +kernel)
  rw [en_statement_read]
  apply ret_of
  unfold b_statement_read
  rw [wr_fin]
  generalize run 100000 (n + 2) = Φ at *
  generalize hq : stO l = q
  refine ws_cut (fun e' => l.head? ≠ some (Str.ofString "none") ∧ e' = [.o (.dat (.list (l.map .str))), .o .un, .o .un]) ?_ ?_
  · walk_at "go"
    rw [cutD_1, show [PyData.str (Str.ofString "none")] = [Str.ofString "none"].map .str from rfl, e1]
    walk_at "go"
    refine ⟨fun c => ?_, fun c => ?_⟩
    · cases l with
      | nil => cases c
      | cons k r =>
        have hk : k = Str.ofString "none" := by simpa using c
        have e : stO (k :: r) = some (.tuple [.str k], 1) := if_pos hk
        rw [e] at hq
        rw [← hq, hk]
        rfl
    · intro z
      cases l with
      | nil => cases z
      | cons k r =>
        have hk : k = Str.ofString "none" := by simpa using z
        exact c (by rw [hk]; rfl)
  rintro _ ⟨h1, rfl⟩
  by_cases hl4 : l.length < 4
  · have hs : q = none := by
      rw [← hq]
      cases l with
      | nil => rfl
      | cons k r => exact stO_short (fun z => h1 (by rw [z]; rfl)) (by rw [List.length_cons] at hl4; omega)
    subst hs
    walk_at "go"
    refine ⟨fun _ => rfl, fun z => absurd ?_ z⟩
    rw [List.length_map]
    omega
  obtain ⟨k, a, s, b, r, rfl⟩ := four63 hl4
  have hk1 : k ≠ Str.ofString "none" := fun z => h1 (by rw [z]; rfl)
  have ea := en a (List.mem_cons_of_mem _ List.mem_cons_self)
  have eb := ew b (List.mem_cons_of_mem _ (List.mem_cons_of_mem _ (List.mem_cons_of_mem _ List.mem_cons_self)))
  refine ws_cut (fun e' => stC k s ∧ e' = [.o (.dat (.list ((k :: a :: s :: b :: r).map .str))), .o .un, .o .un]) ?_ ?_
  · rw [show List.map PyData.str (k :: a :: s :: b :: r) = .str k :: .str a :: .str s :: .str b :: r.map .str from rfl]
    walk_at "go"
    refine ⟨fun z => by rw [List.length_map] at z; omega, fun _ => ?_⟩
    rcases sg_any k with ⟨e, hn⟩ | ⟨sg, e, hs⟩
    · rw [kni_none e]
      walk_at "go"
      rw [← hq, stO_not hk1 (hn s)]
      rfl
    · rw [kni_some e]
      walk_at "go"
      rw [kget_eq e]
      walk_at "go"
      refine ⟨fun c => ?_, fun c => ?_⟩
      · exact (hs s).mpr c
      · rw [← hq, stO_not hk1 fun z => c ((hs s).mp z)]
        rfl
  rintro _ ⟨hc, rfl⟩
  rw [stO_long hk1 hc] at hq
  rw [show List.map PyData.str (k :: a :: s :: b :: r) = .str k :: .str a :: .str s :: .str b :: r.map .str from rfl]
  clear en ew e1
  generalize numO a = u at *
  generalize wholeO b = v at *
  walk_at "go"
  rw [ea]
  cases u with
  | none =>
    rw [show dueD none = PyData.none from rfl]
    walk_at "go"
    rw [eb]
    walk_at "go"
    rw [← hq]
    rfl
  | some t =>
    rw [show dueD (some t) = PyData.int t from rfl]
    walk_at "go"
    rw [eb]
    cases v with
    | none =>
      rw [show dueD none = PyData.none from rfl]
      walk_at "go"
      rw [← hq]
      rfl
    | some h =>
      rw [show dueD (some h) = PyData.int h from rfl]
      walk_at "go"
      rw [← hq]
      rfl
end

section
/-! ### k63: a reason -/
section
variable {α : Type}
def allO (f : Str → Option α) : List Str → Option (List α)
  | [] => some []
  | w :: ws => match f w, allO f ws with
    | some i, some is => some (i :: is)
    | _, _ => none
theorem allO_some {f : Str → Option α} : ∀ {ws : List Str} {is : List α}, allO f ws = some is → ws.map f = is.map some
  | [], is, h => by cases h; rfl
  | w :: ws, is, h => by
    unfold allO at h
    cases g : f w with
    | none => rw [g] at h; cases h
    | some i =>
      cases g2 : allO f ws with
      | none => rw [g, g2] at h; cases h
      | some js =>
        rw [g, g2] at h
        cases h
        rw [List.map_cons, List.map_cons, allO_some g2, g]
theorem allO_len {f : Str → Option α} {ws : List Str} {is : List α} (h : allO f ws = some is) : is.length = ws.length := by
  have := congrArg List.length (allO_some h)
  rw [List.length_map, List.length_map] at this
  exact this.symm
theorem allO_mem {f : Str → Option α} {ws : List Str} {is : List α} (h : allO f ws = some is) {i : α} (hi : i ∈ is) : ∃ w ∈ ws, f w = some i := by
  have h1 : some i ∈ ws.map f := by rw [allO_some h]; exact List.mem_map_of_mem hi
  obtain ⟨w, hw, e⟩ := List.mem_map.mp h1
  exact ⟨w, hw, e⟩
theorem allO_any {f : Str → Option α} : ∀ {ws : List Str}, (ws.any fun w => (f w).isNone) = (allO f ws).isNone
  | [] => rfl
  | w :: ws => by
    rw [List.any_cons, allO_any]
    cases g : f w with
    | none => rw [show allO f (w :: ws) = none by unfold allO; rw [g]]; rfl
    | some i =>
      cases g2 : allO f ws with
      | none => rw [show allO f (w :: ws) = none by unfold allO; rw [g, g2]]; rfl
      | some js => rw [show allO f (w :: ws) = some (i :: js) by unfold allO; rw [g, g2]]; rfl
theorem allO_map {f : Str → Option α} {D : Option α → PyData} {ws : List Str} {is : List α} (h : allO f ws = some is) : (ws.map fun w => D (f w)) = is.map fun i => D (some i) := by
  have := congrArg (List.map D) (allO_some h)
  rw [List.map_map, List.map_map] at this
  exact this
end
theorem none_in_list {l : List PyData} (h : ∀ d ∈ l, PyData.canLay0 d = true ∧ d.depth ≤ 3) : inF .none (.list l) = some (.bool (l.any fun z => PyData.eqv z .none)) := by
  have hs := shp_list h
  show (match (if SeqAt.shaped .none && SeqAt.shaped (.list l) then some (l.any fun z => PyData.eqv z .none) else none) with | some b => some (PyData.bool b) | none => none) = _
  rw [hs]
  rfl
theorem dueD_lay (o : Option Int) : PyData.canLay0 (dueD o) = true ∧ (dueD o).depth ≤ 3 := by
  cases o with
  | none => exact ⟨rfl, by simp [dueD, PyData.depth]⟩
  | some i => exact lay_int
theorem dueD_no (o : Option Int) : PyData.eqv (dueD o) .none = o.isNone := by cases o <;> simp [dueD, PyData.eqv]
theorem partOD_lay (o : Option (Int × Option Int)) : PyData.canLay0 (partOD o) = true ∧ (partOD o).depth ≤ 3 := by
  cases o with
  | none => exact ⟨rfl, by simp [partOD, PyData.depth]⟩
  | some p =>
    obtain ⟨a, b⟩ := p
    cases b with
    | none => exact ⟨rfl, by simp [partOD, ptD, dueD, PyData.depth, PyData.depthAll]⟩
    | some i => exact ⟨rfl, by simp [partOD, ptD, dueD, PyData.depth, PyData.depthAll]⟩
theorem partOD_no (o : Option (Int × Option Int)) : PyData.eqv (partOD o) .none = o.isNone := by cases o <;> simp [partOD, ptD, PyData.eqv]
theorem none_dues {ws : List Str} {f : Str → Option Int} : inF .none (.list (ws.map fun w => dueD (f w))) = some (.bool (allO f ws).isNone) := by
  rw [none_in_list fun d hd => by obtain ⟨w, _, rfl⟩ := List.mem_map.mp hd; exact dueD_lay _, List.any_map]
  rw [show ((fun z => PyData.eqv z .none) ∘ fun w => dueD (f w)) = fun w => (f w).isNone from funext fun w => dueD_no _, allO_any]
theorem none_parts {ws : List Str} : inF .none (.list (ws.map fun w => partOD (partO w))) = some (.bool (allO partO ws).isNone) := by
  rw [none_in_list fun d hd => by obtain ⟨w, _, rfl⟩ := List.mem_map.mp hd; exact partOD_lay _, List.any_map]
  rw [show ((fun z => PyData.eqv z .none) ∘ fun w => partOD (partO w)) = fun w => (partO w).isNone from funext fun w => partOD_no _, allO_any]
theorem none_both {as bs : List Str} : inF .none (.list ((as.map fun w => dueD (wholeO w)) ++ bs.map fun w => partOD (partO w))) = some (.bool ((allO wholeO as).isNone || (allO partO bs).isNone)) := by
  rw [none_in_list fun d hd => (List.mem_append.mp hd).elim (fun hd => by obtain ⟨w, _, rfl⟩ := List.mem_map.mp hd; exact dueD_lay _) fun hd => by obtain ⟨w, _, rfl⟩ := List.mem_map.mp hd; exact partOD_lay _, List.any_append, List.any_map, List.any_map]
  rw [show ((fun z => PyData.eqv z .none) ∘ fun w => dueD (wholeO w)) = fun w => (wholeO w).isNone from funext fun w => dueD_no _, allO_any]
  rw [show ((fun z => PyData.eqv z .none) ∘ fun w => partOD (partO w)) = fun w => (partO w).isNone from funext fun w => partOD_no _, allO_any]
theorem add60 {l m : List PyData} (h : l.length + m.length ≤ 1000000) : addF (.list l) (.list m) = some (.lst (l ++ m)) := by
  rw [add_list]
  exact if_pos (decide_eq_true h)
theorem addT60 {l m : List PyData} (h : l.length + m.length ≤ 1000000) : addF (.tuple l) (.tuple m) = some (.dat (.tuple (l ++ m))) := by
  show (if lenOk (l.length + m.length) then some (Rz.dat (.tuple (l ++ m))) else none) = _
  exact if_pos (decide_eq_true h)
theorem cut_1c {x : PyData} {l : List PyData} {c : Nat} : cutD (x :: l) (some 1) (some (1 + (c : Int))) = l.take c := by
  unfold cutD
  rw [show (some (1 : Int)) = some ((1 : Nat) : Int) from rfl, show (some (1 + (c : Int))) = some ((1 + c : Nat) : Int) by rw [Int.natCast_add]; rfl, HT.sIx_nat, HT.sIx_nat, List.length_cons]
  rw [show min 1 (l.length + 1) = 1 by omega, List.drop_succ_cons, List.drop_zero]
  by_cases h : c ≤ l.length
  · rw [show min (1 + c) (l.length + 1) - 1 = c by omega]
  · rw [show min (1 + c) (l.length + 1) - 1 = l.length by omega, List.take_of_length_le (Nat.le_refl _), List.take_of_length_le (by omega)]
theorem cut_c {x : PyData} {l : List PyData} {c : Nat} : cutD (x :: l) (some (1 + (c : Int))) none = l.drop c := by
  rw [cut_from60 (by omega), show (1 + (c : Int)).toNat = c + 1 by omega, List.drop_succ_cons]
def kdO (k : Str) : Option (Nat × Bool × Bool) := if k = Str.ofString "given" then some (0, false, false) else if k = Str.ofString "later" ∨ k = Str.ofString "weaker" then some (1, true, false) else if k = Str.ofString "sooner" then some (1, false, true) else if k = Str.ofString "full" then some (2, false, true) else none
def reF (k : Str) (lw sf : Bool) (is : List Int) (qs : List (Int × Option Int)) : Option PyData := if (lw && is.any fun i => decide (i < 0)) || (!sf && !qs.isEmpty) then none else some (.tuple (.str k :: is.map .int ++ if sf then [.tuple (qs.map ptD)] else []))
def reB (k : Str) (lw sf : Bool) : Option (List Int) → Option (List (Int × Option Int)) → Option PyData
  | some is, some qs => reF k lw sf is qs
  | _, _ => none
def reA (k : Str) (r : List Str) : Option (Nat × Bool × Bool) → Option PyData
  | none => none
  | some (c, lw, sf) => if r.length < c then none else reB k lw sf (allO wholeO (r.take c)) (allO partO (r.drop c))
def reO : List Str → Option PyData
  | [] => none
  | k :: r => reA k r (kdO k)
def reD : Option PyData → PyData
  | none => .none
  | some d => d
structure Kd (k : Str) (c : Nat) (lw sf : Bool) : Prop where
  get : tab_COUNTS.lookup k = some (.int (c : Int))
  i1 : inF (.str k) (.tuple [.str (Str.ofString "later"), .str (Str.ofString "weaker")]) = some (.bool lw)
  n1 : niF (.str k) (.tuple [.str (Str.ofString "sooner"), .str (Str.ofString "full")]) = some (.bool (!sf))
  i2 : inF (.str k) (.tuple [.str (Str.ofString "sooner"), .str (Str.ofString "full")]) = some (.bool sf)
  c2 : c ≤ 2
  one : lw = true → c = 1
theorem kd_some {k : Str} {c : Nat} {lw sf : Bool} (h : kdO k = some (c, lw, sf)) : Kd k c lw sf := by
  unfold kdO at h
  split at h
  · rename_i e
    subst e
    cases h
    exact ⟨rfl, rfl, rfl, rfl, by decide, fun z => nomatch z⟩
  split at h
  · rename_i e
    cases h
    rcases e with rfl | rfl
    · exact ⟨rfl, rfl, rfl, rfl, by decide, fun _ => rfl⟩
    · exact ⟨rfl, rfl, rfl, rfl, by decide, fun _ => rfl⟩
  split at h
  · rename_i e
    subst e
    cases h
    exact ⟨rfl, rfl, rfl, rfl, by decide, fun z => nomatch z⟩
  split at h
  · rename_i e
    subst e
    cases h
    exact ⟨rfl, rfl, rfl, rfl, by decide, fun z => nomatch z⟩
  · cases h
theorem kd_none {k : Str} (h : kdO k = none) : tab_COUNTS.lookup k = none ∧ k ≠ Str.ofString "given" ∧ k ≠ Str.ofString "later" ∧ k ≠ Str.ofString "weaker" ∧ k ≠ Str.ofString "sooner" ∧ k ≠ Str.ofString "full" := by
  unfold kdO at h
  split at h
  · cases h
  rename_i a1
  split at h
  · cases h
  rename_i a2
  split at h
  · cases h
  rename_i a3
  split at h
  · cases h
  rename_i a4
  obtain ⟨a5, a6⟩ := not_or.mp a2
  refine ⟨?_, a1, a5, a6, a3, a4⟩
  have e1 : (k == Str.ofString "given") = false := by simpa using a1
  have e2 : (k == Str.ofString "later") = false := by simpa using a5
  have e3 : (k == Str.ofString "sooner") = false := by simpa using a3
  have e4 : (k == Str.ofString "full") = false := by simpa using a4
  have e5 : (k == Str.ofString "weaker") = false := by simpa using a6
  show List.lookup k [(Str.ofString "given", PyData.int 0), (Str.ofString "later", .int 1), (Str.ofString "sooner", .int 1), (Str.ofString "full", .int 2), (Str.ofString "weaker", .int 1)] = none
  rw [List.lookup_cons, e1, List.lookup_cons, e2, List.lookup_cons, e3, List.lookup_cons, e4, List.lookup_cons, e5]
  rfl
theorem lay_parts {qs : List (Int × Option Int)} : ∀ d ∈ qs.map ptD, PyData.canLay0 d = true ∧ d.depth ≤ 3 := fun d hd => by
  obtain ⟨p, _, rfl⟩ := List.mem_map.mp hd
  exact partOD_lay (some p)
theorem reason_read {l : List Str} (hl : Ws l) : run 100000 (n + 3) .reason_read [.dat (.list (l.map .str))] = .ret (.dat (reD (reO l))) [] := by
  have ew : ∀ v ∈ l, run 100000 (n + 2) .whole_read [.dat (.str v)] = .ret (.dat (dueD (wholeO v))) [] := fun v hv => whole_read (n := n) (hl.w v hv)
  have ep : ∀ v ∈ l, run 100000 (n + 2) .part_read [.dat (.str v)] = .ret (.dat (partOD (partO v))) [] := fun v hv => part_read (n := n) (hl.w v hv)
  rw [en_reason_read]
  apply ret_of
  unfold b_reason_read
  rw [wr_fin]
  generalize run 100000 (n + 2) = Φ at *
  generalize hq : reO l = q
  cases l with
  | nil =>
    rw [List.map_nil]
    walk_at "go"
    rw [← hq]
    rfl
  | cons k r =>
  have hlen := hl.len
  rw [List.length_cons] at hlen
  rw [List.map_cons]
  have hq : reA k r (kdO k) = q := hq
  cases hk : kdO k with
  | none =>
    rw [hk] at hq
    walk_at "go"
    rw [kni_none (kd_none hk).1]
    walk_at "go"
    refine ⟨fun z => ?_, fun _ => ?_⟩
    · rw [← hq]; rfl
    · rw [← hq]; rfl
  | some t =>
  obtain ⟨c, lw, sf⟩ := t
  have K := kd_some hk
  rw [hk] at hq
  have hq : (if r.length < c then none else reB k lw sf (allO wholeO (r.take c)) (allO partO (r.drop c))) = q := hq
  have hc2 := K.c2
  refine ws_cut (fun e' => e' = [.o (.dat (.list (.str k :: r.map .str))), .o .un, .o .un, .o .un, .o .un]) ?_ ?_
  · walk_at "go"
    refine ⟨fun z => by omega, fun _ => ?_⟩
    rw [kni_some K.get]
    walk_at "go"
  rintro _ rfl
  refine ws_cut (fun e' => e' = [.o (.dat (.list (.str k :: r.map .str))), .o (.dat (.int (c : Int))), .o .un, .o .un, .o .un]) ?_ ?_
  · walk_at "go"
    rw [kget_eq K.get]
    walk_at "go"
  rintro _ rfl
  refine ws_cut (fun e' => e' = [.o (.dat (.list (.str k :: r.map .str))), .o (.dat (.int (c : Int))), .o (.own ((r.take c).map fun w => dueD (wholeO w))), .o .un, .o .un]) ?_ ?_
  · walk_at "go"
    rw [cut_1c, ← List.map_take]
    refine we_lcMap (fun w => dueD (wholeO w)) (by rw [List.length_take]; omega) (fun w hw => ?_) ?_
    · walk_at "go"
      rw [ew w (List.mem_cons_of_mem _ (List.take_subset _ _ hw))]
      walk_at "go"
    walk_at "go"
  rintro _ rfl
  refine ws_cut (fun e' => e' = [.o (.dat (.list (.str k :: r.map .str))), .o (.dat (.int (c : Int))), .o (.own ((r.take c).map fun w => dueD (wholeO w))), .o (.own ((r.drop c).map fun w => partOD (partO w))), .o .un]) ?_ ?_
  · walk_at "go"
    rw [cut_c, ← List.map_drop]
    refine we_lcMap (fun w => partOD (partO w)) (by rw [List.length_drop]; omega) (fun w hw => ?_) ?_
    · walk_at "go"
      rw [ep w (List.mem_cons_of_mem _ (List.drop_subset _ _ hw))]
      walk_at "go"
    walk_at "go"
  rintro _ rfl
  refine ws_cut (fun e' => ∃ is qs, ¬ r.length < c ∧ allO wholeO (r.take c) = some is ∧ allO partO (r.drop c) = some qs ∧ e' = [.o (.dat (.list (.str k :: r.map .str))), .o (.dat (.int (c : Int))), .o (.own (is.map .int)), .o (.own (qs.map ptD)), .o .un]) ?_ ?_
  · walk_at "go"
    refine ⟨fun z => ?_, fun z => ?_⟩
    · rw [List.length_map, List.length_take] at z
      rw [if_pos (by omega)] at hq
      rw [← hq]
      rfl
    have hrc : ¬ r.length < c := by
      rw [List.length_map, List.length_take] at z
      omega
    rw [if_neg hrc] at hq
    rw [none_dues]
    walk_at "go"
    cases ha : allO wholeO (r.take c) with
    | none =>
      rw [ha] at hq
      refine ⟨fun _ => ?_, fun z => nomatch z⟩
      rw [← hq]
      rfl
    | some is =>
    refine ⟨fun z => (nomatch z), fun _ => ?_⟩
    rw [none_parts]
    walk_at "go"
    cases hb : allO partO (r.drop c) with
    | none =>
      rw [ha, hb] at hq
      refine ⟨fun _ => ?_, fun z => nomatch z⟩
      rw [← hq]
      rfl
    | some qs =>
    refine ⟨fun z => (nomatch z), fun _ => ?_⟩

    rw [allO_map (D := dueD) ha, allO_map (D := partOD) hb]
    exact ⟨is, qs, hrc, rfl, rfl, rfl⟩
  rintro _ ⟨is, qs, hrc, ha, hb, rfl⟩
  rw [if_neg hrc, ha, hb] at hq
  have hq : reF k lw sf is qs = q := hq
  have hil := allO_len ha
  have hbl := allO_len hb
  rw [List.length_take] at hil
  rw [List.length_drop] at hbl
  have hin := K.i2
  have one : lw = true → ∃ i, is = [i] := fun z => by
    have := K.one z
    match is, hil with
    | [i], _ => exact ⟨i, rfl⟩
    | [], h => rw [List.length_nil] at h; omega
    | _ :: _ :: _, h => rw [List.length_cons, List.length_cons] at h; omega
  refine ws_cut (fun e' => ((lw && is.any fun i => decide (i < 0)) || (!sf && !qs.isEmpty)) = false ∧ e' = [.o (.dat (.list (.str k :: r.map .str))), .o (.dat (.int (c : Int))), .o (.own (is.map .int)), .o (.own (qs.map ptD)), .o .un]) ?_ ?_
  · walk_at "go"
    rw [K.i1]
    walk_at "go"
    have hn := ne_nil (l := qs.map ptD) lay_parts
    rw [show (qs.map ptD).isEmpty = qs.isEmpty by cases qs <;> rfl] at hn
    have n1 := K.n1
    cases lw with
    | true =>
      obtain ⟨i, rfl⟩ := one rfl
      rw [show List.map PyData.int [i] = [.int i] from rfl]
      walk_at "go"
      refine ⟨fun z => ?_, fun z => ?_⟩
      · have e : q = none := by rw [← hq]; exact if_pos (by simp [z])
        rw [e]
        rfl
      rw [n1]
      cases sf with
      | true =>
        walk_at "go"
        simp [z]
      | false =>
        walk_at "go"
        rw [hn]
        walk_at "go"
        cases hqe : qs.isEmpty with
        | true =>
          walk_at "go"
          simp [z, hqe]
        | false =>
          walk_at "go"
          have e : q = none := by rw [← hq]; exact if_pos (by simp [hqe])
          rw [e]
          rfl
    | false =>
      walk_at "go"
      rw [n1]
      cases sf with
      | true =>
        walk_at "go"
        done
      | false =>
        walk_at "go"
        rw [hn]
        walk_at "go"
        cases hqe : qs.isEmpty with
        | true =>
          walk_at "go"
        | false =>
          walk_at "go"
          have e : q = none := by rw [← hq]; exact if_pos (by simp [hqe])
          rw [e]
          rfl
  rintro _ ⟨hz, rfl⟩
  have hq : some (PyData.tuple (.str k :: is.map .int ++ if sf then [.tuple (qs.map ptD)] else [])) = q := by rw [← hq]; exact (if_neg (by rw [hz]; exact Bool.false_ne_true)).symm
  walk_at "go"
  rw [hin]
  cases sf with
  | true =>
    walk_at "go"
    rw [addT60 (l := [.str k]) (m := is.map .int) (by rw [List.length_map, List.length_singleton]; omega)]
    walk_at "go"
    rw [addT60 (by rw [List.length_cons, List.length_map, List.length_singleton]; omega)]
    walk_at "go"
    rw [← hq]
    rfl
  | false =>
    walk_at "go"
    rw [addT60 (l := [.str k]) (m := is.map .int) (by rw [List.length_map, List.length_singleton]; omega)]
    walk_at "go"
    rw [← hq]
    show _ = Tr.dat (.tuple (.str k :: is.map .int ++ []))
    rw [List.append_nil]
end

section
/-! ### k63: the law's own reason -/
theorem kd_given : kdO (Str.ofString "given") = some (0, false, false) := if_pos rfl
theorem kd_lw {k : Str} (h : k = Str.ofString "later" ∨ k = Str.ofString "weaker") : kdO k = some (1, true, false) := by
  unfold kdO
  rw [if_neg (by rcases h with rfl | rfl <;> decide +kernel), if_pos h]
theorem kd_sooner : kdO (Str.ofString "sooner") = some (1, false, true) := by decide +kernel
theorem kd_full : kdO (Str.ofString "full") = some (2, false, true) := by decide +kernel
theorem parts_some {r : List Str} (h : r ≠ []) {qs : List (Int × Option Int)} (e : allO partO r = some qs) : qs.isEmpty = false := by
  have := allO_len e
  cases qs with
  | nil => exact absurd (List.eq_nil_of_length_eq_zero this.symm) h
  | cons _ _ => rfl
theorem reO_eq {k : Str} {r : List Str} : reO (k :: r) = reA k r (kdO k) := rfl
theorem re_given {r : List Str} (h : r ≠ []) : reO (Str.ofString "given" :: r) = none := by
  rw [reO_eq, kd_given]
  show (if r.length < 0 then none else reB _ false false (allO wholeO (r.take 0)) (allO partO (r.drop 0))) = none
  rw [if_neg (by omega), List.take_zero, List.drop_zero]
  cases e : allO partO r with
  | none => rfl
  | some qs =>
    show reF _ false false [] qs = none
    exact if_pos (by rw [parts_some h e]; rfl)
theorem re_lw {k : Str} {r : List Str} (hk : k = Str.ofString "later" ∨ k = Str.ofString "weaker") (h : r.length ≠ 1) : reO (k :: r) = none := by
  rw [reO_eq, kd_lw hk]
  show (if r.length < 1 then none else reB _ true false (allO wholeO (r.take 1)) (allO partO (r.drop 1))) = none
  split
  · rfl
  cases e1 : allO wholeO (r.take 1) with
  | none => cases allO partO (r.drop 1) <;> rfl
  | some is =>
    cases e : allO partO (r.drop 1) with
    | none => rfl
    | some qs =>
      show reF _ true false is qs = none
      refine if_pos ?_
      rw [parts_some (fun z => ?_) e]
      · simp
      · have := congrArg List.length z
        rw [List.length_drop, List.length_nil] at this
        omega
theorem whole_num {w : Str} {i : Int} (h : numO w = some i) : wholeO w = some i := by
  have : lo1 w = Str.ofString "-" → w = Str.ofString "-0" := fun c => by rw [dash_num c] at h; cases h
  rw [wholeO_pos this, h]
theorem foldl_ge : ∀ (l : List Nat) (a : Nat), a ≤ l.foldl (fun acc c => acc * 10 + (c - 48)) a
  | [], a => Nat.le_refl _
  | c :: r, a => by
    rw [List.foldl_cons]
    exact Nat.le_trans (by omega) (foldl_ge r _)
theorem num_zero {w : Str} (g : numO w = some 0) : TL.tl w = [48] := by
  obtain ⟨a, b, d⟩ := numO_some g
  cases hw : TL.tl w with
  | nil => exact absurd hw a
  | cons c r =>
    rw [hw] at b d
    have h1 : fig c = true := by rw [List.all_cons, Bool.and_eq_true] at b; exact b.1
    have h2 : c - 48 ≤ NumText.digitsVal (c :: r) := by
      show c - 48 ≤ (c :: r).foldl (fun acc c => acc * 10 + (c - 48)) 0
      rw [List.foldl_cons]
      exact Nat.le_trans (by omega) (foldl_ge r _)
    have h3 : 48 ≤ c := by
      unfold fig at h1
      simp at h1
      exact h1.1
    have h4 : c = 48 := by omega
    subst h4
    by_cases hr : r = []
    · rw [hr]
    · rw [numO_0 hw hr] at g
      cases g
theorem num_whole {w : Str} {i : Int} (h : wholeO w = some i) (hw : Wd w) (hi : ¬ i < 0) : numO w = some i := by
  by_cases c : lo1 w = Str.ofString "-"
  · by_cases c2 : w = Str.ofString "-0"
    · rw [wholeO_pos fun _ => c2] at h; exact h
    · rw [wholeO_neg c c2] at h
      cases g : numO (hi1 w) with
      | none => rw [g] at h; cases h
      | some j =>
        rw [g] at h
        have e : 0 - j = i := Option.some.inj h
        have hj := (num_size hw.drop g).1
        have hj0 : j = 0 := by omega
        subst hj0
        exfalso
        refine c2 (TL.ext_tl ?_)
        rw [dash_tl c, num_zero g]
        decide +kernel
  · rw [wholeO_pos fun z => absurd z c] at h; exact h
theorem re_lw1 {k a : Str} (hk : k = Str.ofString "later" ∨ k = Str.ofString "weaker") (ha : Wd a) : reO [k, a] = (numO a).map fun i => .tuple [.str k, .int i] := by
  rw [reO_eq, kd_lw hk]
  show (if [a].length < 1 then none else reB k true false (allO wholeO [a]) (some [])) = _
  rw [if_neg (by simp)]
  cases h : wholeO a with
  | none =>
    rw [show allO wholeO [a] = none by unfold allO; rw [h]]
    cases g : numO a with
    | none => rfl
    | some i => rw [whole_num g] at h; cases h
  | some i =>
    rw [show allO wholeO [a] = some [i] by unfold allO; rw [h]; rfl]
    show reF k true false [i] [] = _
    by_cases hi : i < 0
    · rw [show reF k true false [i] [] = none from if_pos (by simp [hi])]
      cases g : numO a with
      | none => rfl
      | some j => rw [whole_num g] at h; cases h; exact absurd hi (by have := (num_size ha g).1; omega)
    · rw [show reF k true false [i] [] = some (.tuple [.str k, .int i]) from if_neg (by simp [hi]), num_whole h ha hi]
      rfl
theorem re_sf {k : Str} {r : List Str} {c : Nat} (hk : kdO k = some (c, false, true)) (h : r.length < c) : reO (k :: r) = none := by
  rw [reO_eq, hk]
  exact if_pos h
theorem re_sf2 {k : Str} {r : List Str} {c : Nat} (hk : kdO k = some (c, false, true)) (h : ¬ r.length < c) : reO (k :: r) = match allO wholeO (r.take c), allO partO (r.drop c) with
    | some is, some qs => some (.tuple (.str k :: is.map .int ++ [.tuple (qs.map ptD)]))
    | _, _ => none := by
  rw [reO_eq, hk]
  show (if r.length < c then none else reB k false true (allO wholeO (r.take c)) (allO partO (r.drop c))) = _
  rw [if_neg h]
  cases allO wholeO (r.take c) <;> cases allO partO (r.drop c) <;> rfl
theorem eqv_strs {l m : List Str} : PyData.eqv (.list (l.map .str)) (.list (m.map .str)) = decide (l = m) := eqvAll_strs
theorem ni_heads {l : List Str} (h : Ws l) : niF (.list (l.map .str)) (.list [.list [.str (Str.ofString "sooner")], .list [.str (Str.ofString "full")]]) = some (.bool (!(decide (l = [Str.ofString "sooner"]) || decide (l = [Str.ofString "full"])))) := by
  have h1 : SeqAt.shaped (.list (l.map PyData.str)) = true := shp_list fun d hd => by obtain ⟨v, hv, rfl⟩ := List.mem_map.mp hd; exact lay_str (h.w v hv)
  have h2 : SeqAt.shaped (.list [.list [.str (Str.ofString "sooner")], .list [.str (Str.ofString "full")]]) = true := by decide +kernel
  show (match (if SeqAt.shaped (.list (l.map PyData.str)) && SeqAt.shaped (.list [.list [.str (Str.ofString "sooner")], .list [.str (Str.ofString "full")]]) then some (([.list [.str (Str.ofString "sooner")], .list [.str (Str.ofString "full")]] : List PyData).any fun z => PyData.eqv z (.list (l.map .str))) else none) with | some b => some (PyData.bool !b) | none => none) = _
  rw [h1, h2]
  show some (PyData.bool !(PyData.eqv (.list ([Str.ofString "sooner"].map .str)) (.list (l.map .str)) || (PyData.eqv (.list ([Str.ofString "full"].map .str)) (.list (l.map .str)) || false))) = _
  rw [eqv_strs, eqv_strs, Bool.or_false]
  rw [show decide ([Str.ofString "sooner"] = l) = decide (l = [Str.ofString "sooner"]) from decide_eq_decide.mpr eq_comm, show decide ([Str.ofString "full"] = l) = decide (l = [Str.ofString "full"]) from decide_eq_decide.mpr eq_comm]
theorem in_lw {k : Str} : inF (.str k) (.list [.str (Str.ofString "later"), .str (Str.ofString "weaker")]) = some (.bool (decide (k = Str.ofString "later" ∨ k = Str.ofString "weaker"))) := by
  show some (PyData.bool (decide (k ∈ [Str.ofString "later", Str.ofString "weaker"]))) = _
  congr 2
  exact decide_eq_decide.mpr (by simp)
theorem l_why {l : List Str} (hl : Ws l) : run 100000 (n + 3) ._law_why_read [.dat (.list (l.map .str))] = .ret (.dat (reD (reO l))) [] := by
  have en : ∀ v ∈ l, run 100000 (n + 2) ._law_number [.dat (.str v), .dat (.bool false)] = .ret (.dat (dueD (numO v))) [] := fun v hv => l_number63 (n := n + 1) (b := false) (hl.w v hv)
  have ew : ∀ v ∈ l, run 100000 (n + 2) ._law_number [.dat (.str v), .dat (.bool true)] = .ret (.dat (dueD (wholeO v))) [] := fun v hv => l_number63 (n := n + 1) (b := true) (hl.w v hv)
  have ep : ∀ v ∈ l, run 100000 (n + 2) ._law_part [.dat (.str v)] = .ret (.dat (partOD (partO v))) [] := fun v hv => l_part (n := n) (hl.w v hv)
  have e1 := eq_strs (m := [Str.ofString "given"]) hl (fun v hv => by rw [List.mem_singleton.mp hv]; decide +kernel)
  have e2 := eq_strs (m := [Str.ofString "full"]) (hl.take 1) (fun v hv => by rw [List.mem_singleton.mp hv]; decide +kernel)
  have e3 := ni_heads (hl.take 1)
  have hlen := hl.len
  rw [en__law_why_read]
  apply ret_of
  unfold b__law_why_read
  rw [wr_fin]
  generalize run 100000 (n + 2) = Φ at *
  generalize hq : reO l = q
  refine ws_cut (fun e' => l ≠ [Str.ofString "given"] ∧ e' = [.o (.dat (.list (l.map .str))), .o .un, .o .un, .o .un, .o .un, .o .un]) ?_ ?_
  · walk_at "go"
    rw [show [PyData.str (Str.ofString "given")] = [Str.ofString "given"].map .str from rfl, e1]
    walk_at "go"
    refine ⟨fun z => ?_, fun z => z⟩
    rw [← hq, z]
    rfl
  rintro _ ⟨h1, rfl⟩
  refine ws_cut (fun e' => (∀ k a, l = [k, a] → ¬ (k = Str.ofString "later" ∨ k = Str.ofString "weaker")) ∧ e' = [.o (.dat (.list (l.map .str))), .o .un, .o .un, .o .un, .o .un, .o .un]) ?_ ?_
  · by_cases h2 : l.length = 2
    · obtain ⟨k, a, rfl⟩ := two63 h2
      have ea := en a (List.mem_cons_of_mem _ List.mem_cons_self)
      have wa := hl.w a (List.mem_cons_of_mem _ List.mem_cons_self)
      rw [show List.map PyData.str [k, a] = [.str k, .str a] from rfl]
      walk_at "go"
      rw [in_lw]
      walk_at "go"
      refine ⟨fun c => ?_, fun c => ?_⟩
      · rw [re_lw1 c wa] at hq
        rw [ea]
        generalize numO a = u at *
        cases u with
        | none =>
          rw [show dueD none = PyData.none from rfl]
          walk_at "go"
          rw [← hq]
          rfl
        | some i =>
          rw [show dueD (some i) = PyData.int i from rfl]
          walk_at "go"
          rw [← hq]
          rfl
      · intro k' a' z
        cases z
        exact c
    · walk_at "go"
      refine ⟨fun z => ?_, fun _ => ?_⟩
      · rw [List.length_map] at z
        omega
      · intro k a z
        rw [z] at h2
        exact absurd rfl h2
  rintro _ ⟨h2, rfl⟩
  refine ws_cut (fun e' => e' = [.o (.dat (.list (l.map .str))), .o .un, .o (.dat (.int (if l.take 1 = [Str.ofString "full"] then 2 else 1))), .o .un, .o .un, .o .un]) ?_ ?_
  · walk_at "go"
    rw [cutD_1, show [PyData.str (Str.ofString "full")] = [Str.ofString "full"].map .str from rfl, e2]
    by_cases c : l.take 1 = [Str.ofString "full"]
    · rw [decide_eq_true c, if_pos c]
      walk_at "go"
    · rw [decide_eq_false c, if_neg c]
      walk_at "go"
  rintro _ rfl
  have many : ∀ k r c, l = k :: r → kdO k = some (c, false, true) → (if l.take 1 = [Str.ofString "full"] then (2 : Int) else 1) = c := fun k r c e hk => by
    subst e
    have hk2 := hk
    unfold kdO at hk
    split at hk
    · cases hk
    split at hk
    · cases hk
    split at hk
    · rename_i z
      subst z
      cases hk
      exact if_neg (by rw [List.take_succ_cons, List.take_zero]; decide +kernel)
    split at hk
    · rename_i z
      subst z
      cases hk
      exact if_pos rfl
    · cases hk
  generalize hM : (if l.take 1 = [Str.ofString "full"] then (2 : Int) else 1) = M at *
  refine ws_cut (fun e' => ∃ k r c, l = k :: r ∧ kdO k = some (c, false, true) ∧ ¬ r.length < c ∧ e' = [.o (.dat (.list (l.map .str))), .o .un, .o (.dat (.int M)), .o .un, .o .un, .o .un]) ?_ ?_
  · walk_at "go"
    rw [cutD_1, show (Tr.lst [Tr.own [PyData.str (Str.ofString "sooner")], Tr.own [PyData.str (Str.ofString "full")]]).data = some (.list [.list [.str (Str.ofString "sooner")], .list [.str (Str.ofString "full")]]) from rfl]
    walk_at "go"
    rw [e3]
    cases l with
    | nil =>
      rw [show (!(decide (List.take 1 [] = [Str.ofString "sooner"]) || decide (List.take 1 [] = [Str.ofString "full"]))) = true from rfl]
      walk_at "go"
      rw [← hq]
      rfl
    | cons k r =>
    by_cases hsf : k = Str.ofString "sooner" ∨ k = Str.ofString "full"
    · obtain ⟨c, hk⟩ : ∃ c, kdO k = some (c, false, true) := by
        rcases hsf with rfl | rfl
        · exact ⟨_, kd_sooner⟩
        · exact ⟨_, kd_full⟩
      have hm := many k r c rfl hk
      subst hm
      rw [show (!(decide (List.take 1 (k :: r) = [Str.ofString "sooner"]) || decide (List.take 1 (k :: r) = [Str.ofString "full"]))) = false by rw [List.take_succ_cons, List.take_zero]; rcases hsf with rfl | rfl <;> decide +kernel]
      walk_at "go"
      refine ⟨fun z => ?_, fun z => ?_⟩
      · rw [List.length_map, List.length_cons] at z
        rw [← hq, re_sf hk (by omega)]
        rfl
      · rw [List.length_map, List.length_cons] at z
        exact ⟨k, r, c, rfl, hk, by omega⟩
    · obtain ⟨n1, n2⟩ := not_or.mp hsf
      have hn : reO (k :: r) = none := by
        by_cases g1 : k = Str.ofString "given"
        · subst g1
          exact re_given fun z => h1 (by rw [z])
        by_cases g2 : k = Str.ofString "later" ∨ k = Str.ofString "weaker"
        · refine re_lw g2 fun z => ?_
          match r, z with
          | [a], _ => exact h2 k a rfl g2
        rw [reO_eq, show kdO k = none by unfold kdO; rw [if_neg g1, if_neg g2, if_neg n1, if_neg n2]]
        rfl
      rw [show (!(decide (List.take 1 (k :: r) = [Str.ofString "sooner"]) || decide (List.take 1 (k :: r) = [Str.ofString "full"]))) = true by
        rw [List.take_succ_cons, List.take_zero, decide_eq_false (fun z => n1 (List.cons.inj z).1), decide_eq_false (fun z => n2 (List.cons.inj z).1)]
        rfl]
      walk_at "go"
      rw [← hq, hn]
      rfl
  rintro _ ⟨k, r, c, rfl, hk, hrc, rfl⟩
  have hm := many k r c rfl hk
  subst hm
  rw [re_sf2 hk hrc] at hq
  have hc2 := (kd_some hk).c2
  rw [List.length_cons] at hlen
  rw [List.map_cons]
  refine ws_cut (fun e' => e' = [.o (.dat (.list (.str k :: r.map .str))), .o .un, .o (.dat (.int (c : Int))), .o (.own ((r.take c).map fun w => dueD (wholeO w))), .o .un, .o .un]) ?_ ?_
  · walk_at "go"
    rw [Int.add_comm, cut_1c, ← List.map_take]
    refine we_lcMap (fun w => dueD (wholeO w)) (by rw [List.length_take]; omega) (fun w hw => ?_) ?_
    · walk_at "go"
      rw [ew w (List.mem_cons_of_mem _ (List.take_subset _ _ hw))]
      walk_at "go"
    walk_at "go"
  rintro _ rfl
  refine ws_cut (fun e' => e' = [.o (.dat (.list (.str k :: r.map .str))), .o .un, .o (.dat (.int (c : Int))), .o (.own ((r.take c).map fun w => dueD (wholeO w))), .o (.own ((r.drop c).map fun w => partOD (partO w))), .o .un]) ?_ ?_
  · walk_at "go"
    rw [Int.add_comm, cut_c, ← List.map_drop]
    refine we_lcMap (fun w => partOD (partO w)) (by rw [List.length_drop]; omega) (fun w hw => ?_) ?_
    · walk_at "go"
      rw [ep w (List.mem_cons_of_mem _ (List.drop_subset _ _ hw))]
      walk_at "go"
    walk_at "go"
  rintro _ rfl
  refine ws_cut (fun e' => ∃ is qs, allO wholeO (r.take c) = some is ∧ allO partO (r.drop c) = some qs ∧ e' = [.o (.dat (.list (.str k :: r.map .str))), .o .un, .o (.dat (.int (c : Int))), .o (.own (is.map .int)), .o (.own (qs.map ptD)), .o .un]) ?_ ?_
  · walk_at "go"
    rw [add60 (by rw [List.length_map, List.length_map, List.length_take, List.length_drop]; omega)]
    walk_at "go"
    rw [none_both]
    walk_at "go"
    cases ha : allO wholeO (r.take c) with
    | none =>
      rw [ha] at hq
      refine ⟨fun _ => ?_, fun z => nomatch z⟩
      rw [← hq]
      rfl
    | some is =>
    cases hb : allO partO (r.drop c) with
    | none =>
      rw [ha, hb] at hq
      refine ⟨fun _ => ?_, fun z => nomatch z⟩
      rw [← hq]
      rfl
    | some qs =>
    refine ⟨fun z => (nomatch z), fun _ => ?_⟩
    rw [allO_map (D := dueD) ha, allO_map (D := partOD) hb]
    exact ⟨is, qs, rfl, rfl, rfl⟩
  rintro _ ⟨is, qs, ha, hb, rfl⟩
  rw [ha, hb] at hq
  have hil := allO_len ha
  have hbl := allO_len hb
  rw [List.length_take] at hil
  rw [List.length_drop] at hbl
  walk_at "go"
  rw [addT60 (l := [.str k]) (m := is.map .int) (by rw [List.length_map, List.length_singleton]; omega)]
  walk_at "go"
  rw [addT60 (by rw [List.length_cons, List.length_map, List.length_singleton]; omega)]
  walk_at "go"
  rw [← hq]
  rfl
end

section
/-! ### k63: a line -/
def numS (i : Int) : Str := Str.ofString (toString i)
def headS (k : Nat) : Str := numS (k : Int) ++ Str.ofString ":"
theorem num_len (n : Nat) (h : n < 100000) : (numS (n : Int)).length ≤ 6 := by
  have h3 := int_text_length_le10 (a := (n : Int)) (k := 5) (by decide) (by rw [Int.natAbs_natCast]; exact h)
  show (Str.ofString (toString (n : Int))).length ≤ 6
  rw [PySem.ofString_length]
  exact h3
theorem head_add {k : Nat} (h : k < 100000) : addF (.str (numS (k : Int))) (.str (Str.ofString ":")) = some (.dat (.str (headS k))) := by
  show (if lenOk ((numS (k : Int)).length + (Str.ofString ":").length) then some (Rz.dat (.str (numS (k : Int) ++ Str.ofString ":"))) else none) = _
  have h1 := num_len k h
  have h2 : (Str.ofString ":").length = 1 := by decide +kernel
  exact if_pos (decide_eq_true (by omega))
theorem strI_head {k : Nat} (h : k < 100000) : strIF (.int (k : Int)) = some (.dat (.str (numS (k : Int)))) := strI_int (by omega)
def lineC (s : PyData) : Option PyData → Option PyData
  | none => none
  | some r => some (.tuple [s, r])
def lineB (ws : List Str) : Option (PyData × Nat) → Option PyData
  | none => none
  | some (s, c) => lineC s (reO (ws.drop c))
def lineA (k : Nat) : List Str → Option PyData
  | [] => none
  | w :: ws => if w = headS k then lineB ws (stO ws) else none
def lineO (k : Nat) (row : Str) : Option PyData := lineA k (pcs 32 row)
theorem pcs_ws {row : Str} (h : Wd row) : Ws (pcs 32 row) := ⟨fun v hv => pcs_wd fig32 h hv, by have := pcs_many (s := 32) (t := row); have := h.len; omega⟩
theorem re_some {l : List Str} {d : PyData} (h : reO l = some d) : ∃ ds, d = .tuple ds := by
  cases l with
  | nil => cases h
  | cons k r =>
    rw [reO_eq] at h
    cases hk : kdO k with
    | none => rw [hk] at h; cases h
    | some t =>
      obtain ⟨c, lw, sf⟩ := t
      rw [hk] at h
      have h : (if r.length < c then none else reB k lw sf (allO wholeO (r.take c)) (allO partO (r.drop c))) = some d := h
      split at h
      · cases h
      cases ha : allO wholeO (r.take c) with
      | none => rw [ha] at h; cases h
      | some is =>
        cases hb : allO partO (r.drop c) with
        | none => rw [ha, hb] at h; cases h
        | some qs =>
          rw [ha, hb] at h
          have h : reF k lw sf is qs = some d := h
          unfold reF at h
          split at h
          · cases h
          · exact ⟨_, (Option.some.inj h).symm⟩
theorem st_some {l : List Str} {d : PyData} {c : Nat} (h : stO l = some (d, c)) : ∃ ds, d = .tuple ds := by
  cases l with
  | nil => cases h
  | cons k r =>
    by_cases hk : k = Str.ofString "none"
    · rw [show stO (k :: r) = some (.tuple [.str k], 1) from if_pos hk] at h
      cases h
      exact ⟨_, rfl⟩
    · match r, h with
      | [], h => rw [stO_short hk (by simp)] at h; cases h
      | [_], h => rw [stO_short hk (by simp)] at h; cases h
      | [_, _], h => rw [stO_short hk (by simp)] at h; cases h
      | a :: s :: b :: r, h =>
        by_cases hc : stC k s
        · rw [stO_long hk hc] at h
          cases ha : numO a with
          | none => rw [ha] at h; cases h
          | some t =>
            cases hb : wholeO b with
            | none => rw [ha, hb] at h; cases h
            | some u => rw [ha, hb] at h; cases h; exact ⟨_, rfl⟩
        · rw [stO_not hk hc] at h; cases h
theorem line_read {row : Str} {k : Nat} (hw : Wd row) (hk : k < 100000) : run 100000 (n + 4) .line_read [.dat (.int (k : Int)), .dat (.str row)] = .ret (.dat (reD (lineO k row))) [] := by
  have hl := hw.len
  have hs := pcs_ws hw
  have es := splitW (t := row) (by omega)
  have e1 := @statement_read n
  have e2 := @reason_read n
  have e3 := strI_head hk
  have e4 := head_add hk
  rw [en_line_read]
  apply ret_of
  unfold b_line_read
  rw [wr_fin]
  generalize run 100000 (n + 3) = Φ at *
  generalize hq : lineO k row = q
  have hq : lineA k (pcs 32 row) = q := hq
  refine ws_cut (fun e' => e' = [.o (.dat (.int (k : Int))), .o (.dat (.str row)), .o (.own ((pcs 32 row).map .str)), .o .un, .o .un]) ?_ ?_
  · walk_at "go"
    rw [es]
    walk_at "go"
  rintro _ rfl
  cases hp : pcs 32 row with
  | nil => exact absurd hp pcs_ne
  | cons w ws =>
  rw [hp] at hq hs
  clear hp es
  rw [List.map_cons]
  refine ws_cut (fun e' => w = headS k ∧ e' = [.o (.dat (.int (k : Int))), .o (.dat (.str row)), .o (.own (.str w :: ws.map .str)), .o .un, .o .un]) ?_ ?_
  · walk_at "go"
    rw [e3]
    walk_at "go"
    rw [e4]
    walk_at "go"
    refine ⟨fun z => z, fun z => ?_⟩
    rw [← hq, show lineA k (w :: ws) = none from if_neg z]
    rfl
  rintro _ ⟨h1, rfl⟩
  rw [show lineA k (w :: ws) = lineB ws (stO ws) from if_pos h1] at hq
  have e1 := e1 hs.tail
  have hst := @st_some ws
  generalize stO ws = st at *
  walk_at "go"
  rw [cut60, e1]
  cases st with
  | none =>
    rw [show stD none = PyData.none from rfl]
    walk_at "go"
    rw [← hq]
    rfl
  | some p =>
    obtain ⟨s, c⟩ := p
    have e2 := e2 (hs.tail.drop c)
    have hre := @re_some (ws.drop c)
    have hq : lineC s (reO (ws.drop c)) = q := hq
    generalize reO (ws.drop c) = re at *
    rw [show stD (some (s, c)) = .tuple [s, .int (c : Int)] from rfl]
    walk_at "go"
    rw [cut_c, ← List.map_drop, e2]
    cases re with
    | none =>
      rw [show reD none = PyData.none from rfl]
      walk_at "go"
      rw [← hq]
      rfl
    | some r =>
      obtain ⟨rs, rfl⟩ := hre rfl
      obtain ⟨ss, rfl⟩ := hst rfl
      rw [show reD (some (.tuple rs)) = .tuple rs from rfl]
      walk_at "go"
      rw [← hq]
      rfl
end

section
/-! ### k63: the law's own line -/
theorem reO_nil : reO [] = none := rfl
theorem line_short {ws : List Str} (h : ws.length < 2) : lineB ws (stO ws) = none := by
  match ws, h with
  | [], _ => rfl
  | [x], _ =>
    by_cases c : x = Str.ofString "none"
    · rw [show stO [x] = some (.tuple [.str x], 1) from if_pos c]
      rfl
    · rw [stO_short c (by simp)]
      rfl
theorem line_none {ws : List Str} {x : Str} (c : x = Str.ofString "none") : lineB (x :: ws) (stO (x :: ws)) = lineC (.tuple [.str x]) (reO ws) := by
  rw [show stO (x :: ws) = some (.tuple [.str x], 1) from if_pos c]
  rfl
theorem line_few {ws : List Str} {x : Str} (c : x ≠ Str.ofString "none") (h : ws.length < 4) : lineB (x :: ws) (stO (x :: ws)) = none := by
  match ws, h with
  | [], h => rw [stO_short c (by simp)]; rfl
  | [_], h => rw [stO_short c (by simp)]; rfl
  | [_, _], h => rw [stO_short c (by simp)]; rfl
  | [a, s, b], h =>
    by_cases hc : stC x s
    · rw [stO_long c hc]
      cases numO a with
      | none => rfl
      | some t => cases wholeO b with
        | none => rfl
        | some u => rfl
    · rw [stO_not c hc]; rfl
theorem line_not {a s b x : Str} {r : List Str} (c : x ≠ Str.ofString "none") (h : ¬ stC x s) : lineB (x :: a :: s :: b :: r) (stO (x :: a :: s :: b :: r)) = none := by
  rw [stO_not c h]
  rfl
def lineP (x : Str) (re : Option PyData) : Option Int → Option Int → Option PyData
  | some t, some u => lineC (.tuple [.str x, .int t, .int u]) re
  | _, _ => none
theorem line_is {a s b x : Str} {r : List Str} (c : x ≠ Str.ofString "none") (h : stC x s) : lineB (x :: a :: s :: b :: r) (stO (x :: a :: s :: b :: r)) = lineP x (reO r) (numO a) (wholeO b) := by
  rw [stO_long c h]
  cases numO a <;> cases wholeO b <;> rfl
theorem in_fd {k : Str} : niF (.str k) (.list [.str (Str.ofString "free"), .str (Str.ofString "due")]) = some (.bool (!decide (k = Str.ofString "free" ∨ k = Str.ofString "due"))) := by
  show some (PyData.bool (!decide (k ∈ [Str.ofString "free", Str.ofString "due"]))) = _
  congr 3
  exact decide_eq_decide.mpr (by simp)
def signS (k : Str) : Str := if k = Str.ofString "due" then Str.ofString "<=" else Str.ofString ">="
theorem sign_is {k s : Str} (h : k = Str.ofString "free" ∨ k = Str.ofString "due") : stC k s ↔ s = signS k := by
  unfold signS
  rcases h with rfl | rfl
  · rw [if_neg free_due]
    exact ⟨fun c => c.elim (fun z => z.2) fun z => absurd z.1 free_due, fun z => .inl ⟨rfl, z⟩⟩
  · rw [if_pos rfl]
    exact ⟨fun c => c.elim (fun z => absurd z.1.symm free_due) fun z => z.2, fun z => .inr ⟨rfl, z⟩⟩
theorem st_kind {k s : Str} (h : stC k s) : k = Str.ofString "free" ∨ k = Str.ofString "due" := h.elim (fun z => .inl z.1) fun z => .inr z.1
theorem line_no {y x : Str} {wt : List Str} (c : x ≠ Str.ofString "none") (h : ∀ s, ¬ stC x s) : lineB (x :: y :: wt) (stO (x :: y :: wt)) = none := by
  match wt with
  | [] => exact line_few c (by simp)
  | [_] => exact line_few c (by simp)
  | s :: b :: r => exact line_not c (h s)
theorem atI_4 {a b c d e : PyData} {l : List PyData} : atI (a :: b :: c :: d :: e :: l) 4 = some e := by
  rw [atI_nat (by decide)]
  rfl
theorem l_line {row : Str} {k : Nat} (hw : Wd row) (hk : k < 100000) : run 100000 (n + 4) ._law_line_read [.dat (.int (k : Int)), .dat (.str row)] = .ret (.dat (reD (lineO k row))) [] := by
  have hl := hw.len
  have hs := pcs_ws hw
  have es := splitW (t := row) (by omega)
  have en : ∀ v, Wd v → run 100000 (n + 3) ._law_number [.dat (.str v), .dat (.bool false)] = .ret (.dat (dueD (numO v))) [] := fun v hv => l_number63 (n := n + 2) (b := false) hv
  have ew : ∀ v, Wd v → run 100000 (n + 3) ._law_number [.dat (.str v), .dat (.bool true)] = .ret (.dat (dueD (wholeO v))) [] := fun v hv => l_number63 (n := n + 2) (b := true) hv
  have e2 := @l_why n
  have e3 := strI_head hk
  have e4 := head_add hk
  rw [en__law_line_read]
  apply ret_of
  unfold b__law_line_read
  rw [wr_fin]
  generalize run 100000 (n + 3) = Φ at *
  generalize hq : lineO k row = q
  have hq : lineA k (pcs 32 row) = q := hq
  refine ws_cut (fun e' => e' = [.o (.dat (.int (k : Int))), .o (.dat (.str row)), .o (.own ((pcs 32 row).map .str)), .o .un, .o .un, .o .un]) ?_ ?_
  · walk_at "go"
    rw [es]
    walk_at "go"
  rintro _ rfl
  cases hp : pcs 32 row with
  | nil => exact absurd hp pcs_ne
  | cons w ws =>
  rw [hp] at hq hs
  clear hp es
  have hlen := hs.len
  rw [List.length_cons] at hlen
  rw [List.map_cons]
  refine ws_cut (fun e' => w = headS k ∧ ¬ ws.length < 2 ∧ e' = [.o (.dat (.int (k : Int))), .o (.dat (.str row)), .o (.own (.str w :: ws.map .str)), .o .un, .o .un, .o .un]) ?_ ?_
  · walk_at "go"
    rw [e3]
    walk_at "go"
    rw [e4]
    walk_at "go"
    refine ⟨fun z => ⟨fun y => ?_, fun y => ⟨z, ?_⟩⟩, fun z => ?_⟩
    · rw [List.length_map] at y
      rw [← hq, show lineA k (w :: ws) = lineB ws (stO ws) from if_pos z, line_short (by omega)]
      rfl
    · rw [List.length_map] at y
      omega
    · rw [← hq, show lineA k (w :: ws) = none from if_neg z]
      rfl
  rintro _ ⟨h1, h2, rfl⟩
  rw [show lineA k (w :: ws) = lineB ws (stO ws) from if_pos h1] at hq
  obtain ⟨x, y, wt, rfl⟩ : ∃ x y wt, ws = x :: y :: wt := by
    match ws, h2 with
    | x :: y :: wt, _ => exact ⟨x, y, wt, rfl⟩
    | [], h => exact absurd (by decide : 0 < 2) h
    | [_], h => exact absurd (by decide : 1 < 2) h
  rw [List.map_cons, List.map_cons]
  refine ws_cut (fun e' => e' = [.o (.dat (.int (k : Int))), .o (.dat (.str row)), .o (.own (.str w :: .str x :: .str y :: wt.map .str)), .o (.dat (.tuple [.str (Str.ofString "none")])), .o .un, .o .un]) ?_ ?_
  · walk_at "go"
  rintro _ rfl
  refine ws_cut (fun e' => e' = [.o (.dat (.int (k : Int))), .o (.dat (.str row)), .o (.own (.str w :: .str x :: .str y :: wt.map .str)), .o (.dat (.tuple [.str (Str.ofString "none")])), .o (.own ((y :: wt).map .str)), .o .un]) ?_ ?_
  · walk_at "go"
    rw [cut_from60 (by decide)]
    rfl
  rintro _ rfl
  refine ws_cut (fun e' => ∃ s rest, Ws rest ∧ s.all flatD = true ∧ (if s.any isNone = true then none else lineC (.tuple s) (reO rest)) = q ∧ e' = [.o (.dat (.int (k : Int))), .o (.dat (.str row)), .o (.own (.str w :: .str x :: .str y :: wt.map .str)), .o (.dat (.tuple s)), .o (.own (rest.map .str)), .o .un]) ?_ ?_
  · walk_at "go"
    refine ⟨fun c => ?_, fun c => ?_⟩
    · rw [line_none c] at hq
      subst c
      exact ⟨[.str (Str.ofString "none")], y :: wt, hs.tail.tail, rfl, hq, rfl⟩
    rw [in_fd]
    by_cases hfd : x = Str.ofString "free" ∨ x = Str.ofString "due"
    rotate_left
    · rw [decide_eq_false hfd]
      walk_at "go"
      rw [← hq, line_no c fun s z => hfd (st_kind z)]
      rfl
    rw [decide_eq_true hfd]
    walk_at "go"
    refine ⟨fun z => ?_, fun z => ?_⟩
    · rw [List.length_map] at z
      match wt, z with
      | [], _ => rw [← hq, line_few c (by simp)]; rfl
      | [_], _ => rw [← hq, line_few c (by simp)]; rfl
      | [s, b], _ =>
        by_cases hc : stC x s
        · rw [← hq, line_is c hc, reO_nil]
          cases numO y <;> cases wholeO b <;> rfl
        · rw [← hq, line_not c hc]; rfl
      | _ :: _ :: _ :: _, z => rw [List.length_cons, List.length_cons, List.length_cons] at z; omega
    rw [List.length_map] at z
    obtain ⟨s, b, v, r, rfl⟩ : ∃ s b v r, wt = s :: b :: v :: r := by
      match wt, z with
      | s :: b :: v :: r, _ => exact ⟨s, b, v, r, rfl⟩
      | [], z => rw [List.length_nil] at z; omega
      | [_], z => rw [List.length_singleton] at z; omega
      | [_, _], z => rw [List.length_cons, List.length_singleton] at z; omega
    have ey := en y (hs.w y (by simp))
    have eb := ew b (hs.w b (by simp))
    have hr : Ws (v :: r) := hs.tail.tail.tail.tail.tail
    rw [List.map_cons, List.map_cons, List.map_cons]
    walk_at "go"
    rw [show atI [PyData.str (Str.ofString ">="), PyData.str (Str.ofString "<=")] (if x = Str.ofString "due" then 1 else 0) = some (.str (signS x)) by
      unfold signS
      by_cases c : x = Str.ofString "due"
      · rw [if_pos c, if_pos c]; rfl
      · rw [if_neg c, if_neg c]; rfl]
    walk_at "go"
    refine ⟨fun c2 => ?_, fun c2 => ?_⟩
    rotate_left
    · rw [← hq, line_not c fun z => c2 ((sign_is hfd).mp z)]
      rfl
    rw [line_is c ((sign_is hfd).mpr c2)] at hq
    rw [ey]
    walk_at "go"
    rw [atI_4]
    walk_at "go"
    rw [eb]
    generalize numO y = u at *
    generalize wholeO b = u2 at *
    cases u with
    | none =>
      rw [show dueD none = PyData.none from rfl]
      cases u2 with
      | none =>
        rw [show dueD none = PyData.none from rfl]
        walk_at "go"
        rw [cut_from60 (by decide)]
        exact ⟨[.str x, .none, .none], v :: r, hr, rfl, hq, rfl⟩
      | some t2 =>
        rw [show dueD (some t2) = PyData.int t2 from rfl]
        walk_at "go"
        rw [cut_from60 (by decide)]
        exact ⟨[.str x, .none, .int t2], v :: r, hr, rfl, hq, rfl⟩
    | some t1 =>
      rw [show dueD (some t1) = PyData.int t1 from rfl]
      cases u2 with
      | none =>
        rw [show dueD none = PyData.none from rfl]
        walk_at "go"
        rw [cut_from60 (by decide)]
        exact ⟨[.str x, .int t1, .none], v :: r, hr, rfl, hq, rfl⟩
      | some t2 =>
        rw [show dueD (some t2) = PyData.int t2 from rfl]
        walk_at "go"
        rw [cut_from60 (by decide)]
        exact ⟨[.str x, .int t1, .int t2], v :: r, hr, rfl, hq, rfl⟩
  rintro _ ⟨s, rest, hr, hf, hz, rfl⟩
  have e2 := e2 hr
  have hre := @re_some rest
  generalize reO rest = re at *
  have en : nitF .none (.tuple s) = some (.bool (s.any isNone)) := if_pos hf
  walk_at "go"
  rw [e2]
  cases hn : s.any isNone with
  | true =>
    rw [hn] at en hz
    have hz : none = q := hz
    rw [← hz]
    cases re with
    | none =>
      rw [show reD none = PyData.none from rfl]
      walk_at "go"
      rw [en]
      walk_at "go"
    | some r =>
      obtain ⟨rs, rfl⟩ := hre rfl
      rw [show reD (some (.tuple rs)) = .tuple rs from rfl]
      walk_at "go"
      rw [en]
      walk_at "go"
      rfl
  | false =>
    rw [hn] at en hz
    have hz : lineC (.tuple s) re = q := hz
    cases re with
    | none =>
      rw [show reD none = PyData.none from rfl]
      walk_at "go"
      rw [en]
      walk_at "go"
      rw [← hz]
      rfl
    | some r =>
      obtain ⟨rs, rfl⟩ := hre rfl
      rw [show reD (some (.tuple rs)) = .tuple rs from rfl]
      walk_at "go"
      rw [en]
      walk_at "go"
      rw [← hz]
      rfl
end

section
/-! ### k63: what can be shown -/
def szD (d : PyData) : Nat := d.shown.length + 2
def szAll (ds : List PyData) : Nat := (ds.map szD).sum
structure Shp (d : PyData) (m : Nat) : Prop where
  sh : d.showable = true
  nd : d.hasDict = false
  dp : d.depth ≤ m
theorem Shp.mono {d : PyData} {m m' : Nat} (h : Shp d m) (hm : m ≤ m') : Shp d m' := ⟨h.sh, h.nd, Nat.le_trans h.dp hm⟩
theorem shp_all : ∀ {ds : List PyData} {m : Nat}, (∀ d ∈ ds, Shp d m) → PyData.showableAll ds = true ∧ PyData.hasDictAll ds = false ∧ PyData.depthAll ds ≤ m
  | [], m, _ => ⟨rfl, rfl, Nat.zero_le _⟩
  | d :: ds, m, h => by
    obtain ⟨a, b, c⟩ := shp_all (ds := ds) (m := m) fun x hx => h x (List.mem_cons_of_mem _ hx)
    have hd := h d List.mem_cons_self
    refine ⟨by simp [PyData.showableAll, hd.sh, a], by simp [PyData.hasDictAll, hd.nd, b], ?_⟩
    have := hd.dp
    simp only [PyData.depthAll]
    omega
theorem shp_tup {ds : List PyData} {m : Nat} (h : ∀ d ∈ ds, Shp d m) : Shp (.tuple ds) (m + 1) := by
  obtain ⟨a, b, c⟩ := shp_all h
  exact ⟨by simpa [PyData.showable] using a, by simpa [PyData.hasDict] using b, by simp only [PyData.depth]; omega⟩
theorem shp_lst {ds : List PyData} {m : Nat} (h : ∀ d ∈ ds, Shp d m) : Shp (.list ds) (m + 1) := by
  obtain ⟨a, b, c⟩ := shp_all h
  exact ⟨by simpa [PyData.showable] using a, by simpa [PyData.hasDict] using b, by simp only [PyData.depth]; omega⟩
theorem szAll_eq : ∀ {ds : List PyData}, ((PyData.shownAll ds).map (·.length)).sum + 2 * ds.length = szAll ds
  | [] => rfl
  | d :: ds => by
    have := szAll_eq (ds := ds)
    unfold szAll at *
    simp only [PyData.shownAll, List.map_cons, List.sum_cons, List.length_cons]
    unfold szD at *
    omega
theorem szAll_cons {d : PyData} {ds : List PyData} : szAll (d :: ds) = szD d + szAll ds := rfl
theorem szAll_app {ds es : List PyData} : szAll (ds ++ es) = szAll ds + szAll es := by unfold szAll; rw [List.map_append, List.sum_append]
theorem szAll_le {ds : List PyData} {k : Nat} (h : ∀ d ∈ ds, szD d ≤ k) : szAll ds ≤ k * ds.length := by
  induction ds with
  | nil => exact Nat.zero_le _
  | cons d ds ih =>
    have h1 := ih fun x hx => h x (List.mem_cons_of_mem _ hx)
    have h2 := h d List.mem_cons_self
    rw [szAll_cons, List.length_cons, Nat.mul_add, Nat.mul_one]
    omega
theorem sz_tup {ds : List PyData} : szD (.tuple ds) ≤ szAll ds + 6 := by
  have h1 := szAll_eq (ds := ds)
  have h2 := tupleText_len_le (PyData.shownAll ds)
  rw [shownAll_len] at h2
  unfold szD
  simp only [PyData.shown]
  omega
theorem sz_lst {ds : List PyData} : szD (.list ds) ≤ szAll ds + 6 := by
  have h1 := szAll_eq (ds := ds)
  have h2 := listText_len_le (PyData.shownAll ds)
  rw [shownAll_len] at h2
  unfold szD
  simp only [PyData.shown]
  omega
theorem sw_int {i : Int} (h : i.natAbs < 10 ^ 100) : Shp (.int i) 0 := ⟨by
  have h2 : i.natAbs < 2 ^ 340 := Nat.lt_trans h (by decide)
  have : i.natAbs.log2 < 340 := PySem.Flt.log2_lt_of (by decide) h2
  simp only [PyData.showable, decide_eq_true_eq]
  omega, by simp only [PyData.hasDict], Nat.zero_le _⟩
theorem sz_int {i : Int} (h : i.natAbs < 10 ^ 100) : szD (.int i) ≤ 103 := by
  have h3 := int_text_length_le10 (k := 100) (by decide) h
  have e : (PyData.shown (.int i)).length = (toString i).length := by
    show (Str.ofString (toString i)).length = _
    exact PySem.ofString_length _
  unfold szD
  omega
theorem sw_none : Shp .none 0 := ⟨by simp only [PyData.showable], by simp only [PyData.hasDict], Nat.zero_le _⟩
theorem sz_none : szD .none ≤ 103 := by decide +kernel
theorem sw_str {s : Str} : Shp (.str s) 0 := ⟨by simp only [PyData.showable], by simp only [PyData.hasDict], Nat.zero_le _⟩
theorem sz_kinds : ∀ s ∈ [Str.ofString "none", Str.ofString "free", Str.ofString "due", Str.ofString "given", Str.ofString "later", Str.ofString "weaker", Str.ofString "sooner", Str.ofString "full"], szD (.str s) ≤ 103 := by decide +kernel
theorem abs_num {w : Str} {i : Int} (hw : Wd w) (h : numO w = some i) : i.natAbs < 10 ^ 100 := by
  have := num_size hw h
  omega
theorem abs_whole {w : Str} {i : Int} (hw : Wd w) (h : wholeO w = some i) : i.natAbs < 10 ^ 100 := by
  by_cases c : lo1 w = Str.ofString "-" ∧ w ≠ Str.ofString "-0"
  · rw [wholeO_neg c.1 c.2] at h
    cases g : numO (hi1 w) with
    | none => rw [g] at h; cases h
    | some j =>
      rw [g] at h
      have e : 0 - j = i := Option.some.inj h
      have := abs_num hw.drop g
      omega
  · rw [wholeO_pos fun z => Classical.byContradiction fun y => c ⟨z, y⟩] at h
    exact abs_num hw h
theorem part_sh {w : Str} {p : Int × Option Int} (hw : Wd w) (h : partO w = some p) : Shp (ptD p) 1 ∧ szD (ptD p) ≤ 212 := by
  unfold partO at h
  split at h
  · have hm : Wd (mid w) := hw.cut _ _
    split at h
    · rename_i a b hab
      have wa : Wd a := pcs_wd fig44 hm (by rw [hab]; exact List.mem_cons_self)
      have wb : Wd b := pcs_wd fig44 hm (by rw [hab]; exact List.mem_cons_of_mem _ List.mem_cons_self)
      cases ha : numO a with
      | none => rw [ha] at h; cases h
      | some i =>
        rw [ha] at h
        dsimp only at h
        split at h
        · cases h
        · cases h
          have h1 := abs_num wa ha
          have hd : Shp (dueD (numO b)) 0 ∧ szD (dueD (numO b)) ≤ 103 := by
            cases hb : numO b with
            | none => exact ⟨sw_none, sz_none⟩
            | some j => exact ⟨sw_int (abs_num wb hb), sz_int (abs_num wb hb)⟩
          refine ⟨shp_tup fun d hd' => ?_, ?_⟩
          · simp only [List.mem_cons, List.not_mem_nil, or_false] at hd'
            rcases hd' with rfl | rfl
            · exact sw_int h1
            · exact hd.1
          · refine Nat.le_trans sz_tup ?_
            rw [szAll_cons, szAll_cons]
            have := sz_int h1
            have := hd.2
            show szD (.int i) + (szD (dueD (numO b)) + 0) + 6 ≤ 212
            omega
    · cases h
  · cases h
theorem re_sh {l : List Str} {d : PyData} (hl : Ws l) (h : reO l = some d) : Shp d 3 ∧ szD d ≤ 400 + 212 * l.length := by
  cases l with
  | nil => cases h
  | cons k r =>
    rw [reO_eq] at h
    cases hk : kdO k with
    | none => rw [hk] at h; cases h
    | some t =>
      obtain ⟨c, lw, sf⟩ := t
      have hkk : k ∈ [Str.ofString "none", Str.ofString "free", Str.ofString "due", Str.ofString "given", Str.ofString "later", Str.ofString "weaker", Str.ofString "sooner", Str.ofString "full"] := by
        unfold kdO at hk
        split at hk
        · rename_i e; subst e; simp
        split at hk
        · rename_i e; rcases e with rfl | rfl <;> simp
        split at hk
        · rename_i e; subst e; simp
        split at hk
        · rename_i e; subst e; simp
        · cases hk
      have hc2 := (kd_some hk).c2
      rw [hk] at h
      have h : (if r.length < c then none else reB k lw sf (allO wholeO (r.take c)) (allO partO (r.drop c))) = some d := h
      split at h
      · cases h
      cases ha : allO wholeO (r.take c) with
      | none => rw [ha] at h; cases h
      | some is =>
        cases hb : allO partO (r.drop c) with
        | none => rw [ha, hb] at h; cases h
        | some qs =>
          rw [ha, hb] at h
          have h : reF k lw sf is qs = some d := h
          unfold reF at h
          split at h
          · cases h
          have h := Option.some.inj h
          subst h
          have hi : ∀ x ∈ is.map PyData.int, Shp x 0 ∧ szD x ≤ 103 := fun x hx => by
            obtain ⟨i, hi, rfl⟩ := List.mem_map.mp hx
            obtain ⟨w, hw, e⟩ := allO_mem ha hi
            have := abs_whole (hl.w w (List.mem_cons_of_mem _ (List.take_subset _ _ hw))) e
            exact ⟨sw_int this, sz_int this⟩
          have hp : ∀ x ∈ qs.map ptD, Shp x 1 ∧ szD x ≤ 212 := fun x hx => by
            obtain ⟨p, hp, rfl⟩ := List.mem_map.mp hx
            obtain ⟨w, hw, e⟩ := allO_mem hb hp
            exact part_sh (hl.w w (List.mem_cons_of_mem _ (List.drop_subset _ _ hw))) e
          have li := allO_len ha
          have lp := allO_len hb
          rw [List.length_take] at li
          rw [List.length_drop] at lp
          have zi := szAll_le fun x hx => (hi x hx).2
          have zp := szAll_le fun x hx => (hp x hx).2
          rw [List.length_map] at zi zp
          have sp : Shp (.tuple (qs.map ptD)) 2 ∧ szD (.tuple (qs.map ptD)) ≤ 212 * r.length + 6 := ⟨shp_tup fun x hx => (hp x hx).1, Nat.le_trans sz_tup (by
            have : 212 * qs.length ≤ 212 * r.length := Nat.mul_le_mul_left _ (by omega)
            omega)⟩
          have sk := sz_kinds k hkk
          have hz : szAll (if sf = true then [PyData.tuple (qs.map ptD)] else []) ≤ 212 * r.length + 6 := by
            split
            · rw [szAll_cons]; have := sp.2; show _ + 0 ≤ _; omega
            · exact Nat.zero_le _
          refine ⟨shp_tup fun x hx => ?_, ?_⟩
          · rcases List.mem_append.mp hx with hx | hx
            · rcases List.mem_cons.mp hx with rfl | hx
              · exact sw_str.mono (by decide)
              · exact (hi x hx).1.mono (by decide)
            · split at hx
              · rw [List.mem_singleton.mp hx]
                exact sp.1
              · cases hx
          · refine Nat.le_trans sz_tup ?_
            rw [szAll_app, szAll_cons, List.length_cons]
            have : 103 * is.length ≤ 103 * 2 := Nat.mul_le_mul_left _ (by omega)
            omega
theorem st_sh {l : List Str} {d : PyData} {c : Nat} (hl : Ws l) (h : stO l = some (d, c)) : Shp d 3 ∧ szD d ≤ 400 := by
  cases l with
  | nil => cases h
  | cons k r =>
    by_cases hk : k = Str.ofString "none"
    · rw [show stO (k :: r) = some (.tuple [.str k], 1) from if_pos hk] at h
      cases h
      have sk := sz_kinds k (by rw [hk]; simp)
      refine ⟨(shp_tup (m := 0) fun x hx => by rw [List.mem_singleton.mp hx]; exact sw_str).mono (by decide), Nat.le_trans sz_tup ?_⟩
      rw [szAll_cons]
      show _ + 0 + 6 ≤ 400
      omega
    · match r, h with
      | [], h => rw [stO_short hk (by simp)] at h; cases h
      | [_], h => rw [stO_short hk (by simp)] at h; cases h
      | [_, _], h => rw [stO_short hk (by simp)] at h; cases h
      | a :: s :: b :: r, h =>
        by_cases hc : stC k s
        · rw [stO_long hk hc] at h
          have sk := sz_kinds k (by rcases st_kind hc with rfl | rfl <;> simp)
          have wa := hl.w a (by simp)
          have wb := hl.w b (by simp)
          cases ha : numO a with
          | none => rw [ha] at h; cases h
          | some t =>
            cases hb : wholeO b with
            | none => rw [ha, hb] at h; cases h
            | some u =>
              rw [ha, hb] at h
              cases h
              have h1 := abs_num wa ha
              have h2 := abs_whole wb hb
              refine ⟨(shp_tup (m := 0) fun x hx => ?_).mono (by decide), Nat.le_trans sz_tup ?_⟩
              · simp only [List.mem_cons, List.not_mem_nil, or_false] at hx
                rcases hx with rfl | rfl | rfl
                · exact sw_str
                · exact sw_int h1
                · exact sw_int h2
              · rw [szAll_cons, szAll_cons, szAll_cons]
                have := sz_int h1
                have := sz_int h2
                show _ + (_ + (_ + 0)) + 6 ≤ 400
                omega
        · rw [stO_not hk hc] at h; cases h
theorem line_sh {row : Str} {k : Nat} {d : PyData} (hw : Wd row) (h : lineO k row = some d) : Shp d 4 ∧ szD d ≤ 1000 + 212 * (TL.tl row).length := by
  have hs := pcs_ws hw
  have hm := pcs_many (s := 32) (t := row)
  unfold lineO at h
  cases hp : pcs 32 row with
  | nil => exact absurd hp pcs_ne
  | cons w ws =>
    rw [hp] at h hs hm
    rw [List.length_cons] at hm
    have h : (if w = headS k then lineB ws (stO ws) else none) = some d := h
    split at h
    · cases hst : stO ws with
      | none => rw [hst] at h; cases h
      | some p =>
        obtain ⟨s, c⟩ := p
        rw [hst] at h
        have h : lineC s (reO (ws.drop c)) = some d := h
        cases hre : reO (ws.drop c) with
        | none => rw [hre] at h; cases h
        | some r =>
          rw [hre] at h
          have h : some (PyData.tuple [s, r]) = some d := h
          cases h
          obtain ⟨a1, a2⟩ := st_sh hs.tail hst
          obtain ⟨b1, b2⟩ := re_sh (hs.tail.drop c) hre
          rw [List.length_drop] at b2
          refine ⟨shp_tup fun x hx => ?_, Nat.le_trans sz_tup ?_⟩
          · simp only [List.mem_cons, List.not_mem_nil, or_false] at hx
            rcases hx with rfl | rfl
            · exact a1
            · exact b1
          · rw [szAll_cons, szAll_cons]
            have : 212 * (ws.length - c) ≤ 212 * (TL.tl row).length := Nat.mul_le_mul_left _ (by omega)
            show _ + (_ + 0) + 6 ≤ _
            omega
    · cases h
end

section
/-! ### k63: texts that are read -/
structure Tw (t : Str) : Prop where
  w : Wd t
  len : (TL.tl t).length ≤ 3400
  nl : (TL.tl t).count 10 ≤ 62
theorem tw_rows {t : Str} (h : Tw t) : (pcs 10 t).length ≤ 63 := by
  unfold pcs
  rw [List.length_map, splitN_len]
  have := h.nl
  omega
theorem lv1 : lvB (run 100000 (n + 1)) ._law_whole = true := rfl
/-! ### k63: a text read -/
/-- the lines that rows write, or the place of the first one that can't stand there -/
def readL : List PyData → Nat → List Str → List PyData ⊕ Nat
  | acc, _, [] => .inl acc
  | acc, k, r :: rs => match lineO k r with
    | some d => readL (acc ++ [d]) (k + 1) rs
    | none => .inr (k + 1)
def readT (t : Str) : List PyData ⊕ Nat := if t = Str.ofString "" then .inl [] else readL [] 0 (pcs 10 t)
def treeA : List PyData ⊕ Nat → Tr
  | .inl l => .own l
  | .inr k => .dat (.int k)
def lineX (k : Nat) : Xc := ⟨Str.ofString "NoText", [(Str.ofString "line", .int (k : Int))]⟩
def retA : List PyData ⊕ Nat → Ret
  | .inl l => .ret (.own l) []
  | .inr k => .exc (lineX k) []
theorem wr_both {r : Ret} {A : List PyData ⊕ Nat} (h : WR r (fun t os => ∃ l, A = .inl l ∧ t = .own l ∧ os = []) fun x os => ∃ k : Nat, A = .inr k ∧ x = lineX k ∧ os = []) : r = retA A := by
  cases r with
  | ret t os => obtain ⟨j, rfl, rfl, rfl⟩ := h; rfl
  | exc x os => obtain ⟨k, rfl, rfl, rfl⟩ := h; rfl
  | no => exact h.elim
theorem readL_some {acc : List PyData} {d : PyData} {k : Nat} {r : Str} {rs : List Str} (h : lineO k r = some d) : readL acc k (r :: rs) = readL (acc ++ [d]) (k + 1) rs := by
  show (match lineO k r with | some d => readL (acc ++ [d]) (k + 1) rs | none => .inr (k + 1)) = _
  rw [h]
theorem readL_none {acc : List PyData} {k : Nat} {r : Str} {rs : List Str} (h : lineO k r = none) : readL acc k (r :: rs) = .inr (k + 1) := by
  show (match lineO k r with | some d => readL (acc ++ [d]) (k + 1) rs | none => .inr (k + 1)) = _
  rw [h]
theorem readL_at {acc : List PyData} {k i : Nat} {l : List Str} {r : Str} (h : l[i]? = some r) : readL acc k (l.drop i) = readL acc k (r :: l.drop (i + 1)) := by
  obtain ⟨hi, e⟩ := List.getElem?_eq_some_iff.mp h
  rw [List.drop_eq_getElem_cons hi, e]
theorem enum63_at : ∀ {ds : List PyData} {n i : Nat} {d : PyData}, (enumF n ds)[i]? = some d → ∃ x, ds[i]? = some x ∧ d = .tuple [.int ((n + i : Nat) : Int), x]
  | [], _, _, _, h => by cases h
  | y :: ds, n, 0, d, h => ⟨y, rfl, (Option.some.inj h).symm⟩
  | y :: ds, n, i + 1, d, h => by
    obtain ⟨x, h1, h2⟩ := enum63_at (ds := ds) (n := n + 1) (i := i) (d := d) h
    exact ⟨x, h1, by rw [h2, show n + 1 + i = n + (i + 1) by omega]⟩
theorem enum63_len : ∀ {ds : List PyData} {n : Nat}, (enumF n ds).length = ds.length
  | [], _ => rfl
  | _ :: ds, n => congrArg (· + 1) (enum63_len (ds := ds) (n := n + 1))
theorem readT_ne {t : Str} (h : ¬ t = Str.ofString "") : readT t = readL [] 0 (pcs 10 t) := if_neg h
theorem readT_nil : readT (Str.ofString "") = .inl [] := if_pos rfl
theorem line_tup {k : Nat} {r : Str} {d : PyData} (h : lineO k r = some d) : ∃ ds, d = .tuple ds := by
  unfold lineO at h
  cases hp : pcs 32 r with
  | nil => exact absurd hp pcs_ne
  | cons w ws =>
    rw [hp] at h
    have h : (if w = headS k then lineB ws (stO ws) else none) = some d := h
    split at h
    · cases hst : stO ws with
      | none => rw [hst] at h; cases h
      | some p =>
        obtain ⟨s, c⟩ := p
        rw [hst] at h
        have h : lineC s (reO (ws.drop c)) = some d := h
        cases hre : reO (ws.drop c) with
        | none => rw [hre] at h; cases h
        | some r => rw [hre] at h; cases h; exact ⟨_, rfl⟩
    · cases h
theorem g_read {t : Str} (h : Wd t) (hrl : (pcs 10 t).length ≤ 90000) : run 100000 (n + 5) .read_lines [.dat (.str t)] = retA (readT t) := by
  have er : ∀ (k : Nat) (r : Str), r ∈ pcs 10 t → k < 100000 → run 100000 (n + 4) .line_read [.dat (.int (k : Int)), .dat (.str r)] = .ret (.dat (reD (lineO k r))) [] := fun k r hr hk => line_read (n := n) (pcs_wd fig10 h hr) hk
  have es := splitR (t := t) (by have := h.len; omega)
  have hlv : lvB (run 100000 (n + 4)) ._law_whole = true := lv1
  rw [en_read_lines]
  apply wr_both
  unfold b_read_lines
  rw [wr_fin]
  generalize run 100000 (n + 4) = Φ at *
  refine ws_cut (fun e' => e' = [.o (.dat (.str t)), .o (.own []), .o .un, .o .un, .o .un]) ?_ ?_
  · walk_at "go"
  rintro _ rfl
  refine ws_cut (fun e' => t ≠ Str.ofString "" ∧ e' = [.o (.dat (.str t)), .o (.own []), .o .un, .o .un, .o .un]) ?_ ?_
  · walk_at "go"
    refine ⟨fun z => ⟨[], ?_, rfl⟩, fun z => z⟩
    rw [z]
    exact readT_nil
  rintro _ ⟨hne, rfl⟩
  have hR := readT_ne hne
  generalize readT t = A at hR ⊢
  generalize pcs 10 t = rows at *
  refine ws_cut (fun e' => ∃ (l : List PyData) (a b c : Tr), A = .inl l ∧ e' = [.o (.dat (.str t)), .o (.own l), .o a, .o b, .o c]) ?_ ?_
  · walk_at "go"
    rw [es]
    walk_at "go"
    refine ws_forF (fun i e' => ∃ (l : List PyData) (a b c : Tr), l.length = i ∧ A = readL l i (rows.drop i) ∧ e' = [.o (.dat (.str t)), .o (.own l), .o a, .o b, .o c]) ⟨[], _, _, _, rfl, hR, rfl⟩ ?_ ?_
    · rintro i _ d hd ⟨l, a, b, c, hj, hA, rfl⟩
      obtain ⟨x, hx, rfl⟩ := enum63_at hd
      rw [List.getElem?_map] at hx
      obtain ⟨r, hr, rfl⟩ := Option.map_eq_some_iff.mp hx
      have hmem := List.mem_of_getElem? hr
      have hil : i < rows.length := (List.getElem?_eq_some_iff.mp hr).1
      have e := er i r hmem (by omega)
      rw [readL_at hr] at hA
      rw [Nat.zero_add]
      cases hq : lineO i r with
      | none =>
        rw [readL_none hq] at hA
        rw [hq, show reD none = PyData.none from rfl] at e
        walk_at "go"
        rw [e]
        walk_at "go"
        exact ⟨hlv, i + 1, hA, rfl⟩
      | some d =>
        rw [readL_some hq] at hA
        obtain ⟨ds, rfl⟩ := line_tup hq
        rw [hq, show reD (some (.tuple ds)) = PyData.tuple ds from rfl] at e
        walk_at "go"
        rw [e]
        walk_at "go"
        refine ⟨by omega, _, _, _, _, ?_, hA, rfl⟩
        rw [List.length_append, List.length_singleton]
        omega
    · rintro _ ⟨l, a, b, c, hj, hA, rfl⟩
      rw [enum63_len, List.length_map, List.drop_length] at hA
      exact ⟨l, a, b, c, hA, rfl⟩
  rintro _ ⟨l, a, b, c, hA, rfl⟩
  walk_at "go"
  exact ⟨l, hA, rfl⟩
theorem l_read {t : Str} (h : Tw t) : run 100000 (n + 5) ._law_read [.dat (.str t)] = .ret (treeA (readT t)) [] := by
  have er : ∀ (k : Nat) (r : Str), r ∈ pcs 10 t → k < 100000 → run 100000 (n + 4) ._law_line_read [.dat (.int (k : Int)), .dat (.str r)] = .ret (.dat (reD (lineO k r))) [] := fun k r hr hk => l_line (n := n) (pcs_wd fig10 h.w hr) hk
  have es := splitR (t := t) (by have := h.len; omega)
  have hrl := tw_rows h
  rw [en__law_read]
  apply ret_of
  unfold b__law_read
  rw [wr_fin]
  generalize run 100000 (n + 4) = Φ at *
  refine ws_cut (fun e' => e' = [.o (.dat (.str t)), .o (.own []), .o .un, .o .un, .o .un]) ?_ ?_
  · walk_at "go"
  rintro _ rfl
  refine ws_cut (fun e' => e' = [.o (.dat (.str t)), .o (.own []), .o (.own ((pcs 10 t).map .str)), .o .un, .o .un]) ?_ ?_
  · walk_at "go"
    rw [es]
    walk_at "go"
  rintro _ rfl
  refine ws_cut (fun e' => ∃ (l : List PyData) (a b : Tr), readT t = .inl l ∧ e' = [.o (.dat (.str t)), .o (.own l), .o (.own ((pcs 10 t).map .str)), .o a, .o b]) ?_ ?_
  · walk_at "go"
    by_cases hne : t = Str.ofString ""
    · rw [decide_eq_true hne, show mulF (.int ((List.map PyData.str (pcs 10 t)).length : Int)) (.int (if (!true) = true then 1 else 0)) = some (.dat (.int 0)) by
        rw [if_neg (by decide)]
        show (if bigB _ && bigB 0 then some (Rz.dat (.int (_ * 0))) else none) = _
        rw [Int.mul_zero, if_pos]
        rw [big_lt (by rw [List.length_map]; omega)]
        rfl]
      walk_at "go"
      refine ws_forF (fun i e' => e' = [.o (.dat (.str t)), .o (.own []), .o (.own ((pcs 10 t).map .str)), .o .un, .o .un]) rfl ?_ ?_
      · rintro i _ d hd rfl
        exact absurd hd (by simp [rngL])
      · rintro _ rfl
        exact ⟨[], .un, .un, by rw [hne]; exact readT_nil, rfl⟩
    · have hR := readT_ne hne
      rw [decide_eq_false hne, show mulF (.int ((List.map PyData.str (pcs 10 t)).length : Int)) (.int (if (!false) = true then 1 else 0)) = some (.dat (.int ((pcs 10 t).length : Int))) by
        rw [if_pos (by decide), List.length_map]
        show (if bigB _ && bigB 1 then some (Rz.dat (.int (_ * 1))) else none) = _
        rw [Int.mul_one, if_pos]
        rw [big_lt (by omega)]
        rfl]
      walk_at "go"
      generalize readT t = A at hR ⊢
      generalize pcs 10 t = rows at *
      refine ⟨⟨by omega, by omega⟩, ?_⟩
      refine ws_forF (fun i e' => ∃ (l : List PyData) (a b : Tr), l.length = i ∧ A = readL l i (rows.drop i) ∧ e' = [.o (.dat (.str t)), .o (.own l), .o (.own (rows.map .str)), .o a, .o b]) ⟨[], _, _, rfl, hR, rfl⟩ ?_ ?_
      · rintro i _ d hd ⟨l, a, b, hj, hA, rfl⟩
        obtain ⟨hi, rfl⟩ := rngL_at hd
        have hil : i < rows.length := by omega
        obtain ⟨r, hr⟩ : ∃ r, rows[i]? = some r := ⟨_, List.getElem?_eq_getElem hil⟩
        have hmem := List.mem_of_getElem? hr
        have e := er i r hmem (by omega)
        have hat : atI (rows.map PyData.str) (i : Int) = some (.str r) := by
          rw [atI_nat (by omega), Int.toNat_natCast, List.getElem?_map, hr]
          rfl
        rw [readL_at hr] at hA
        rw [Int.zero_add]
        cases hq : lineO i r with
        | none =>
          rw [readL_none hq] at hA
          rw [hq, show reD none = PyData.none from rfl] at e
          walk_at "go"
          rw [hat]
          walk_at "go"
          rw [e]
          walk_at "go"
          rw [hA]
          rfl
        | some d =>
          rw [readL_some hq] at hA
          obtain ⟨ds, rfl⟩ := line_tup hq
          rw [hq, show reD (some (.tuple ds)) = PyData.tuple ds from rfl] at e
          walk_at "go"
          rw [hat]
          walk_at "go"
          rw [e]
          walk_at "go"
          refine ⟨by omega, _, _, _, ?_, hA, rfl⟩
          rw [List.length_append, List.length_singleton]
          omega
      · rintro _ ⟨l, a, b, hj, hA, rfl⟩
        rw [rngL_0, List.drop_of_length_le (by omega)] at hA
        exact ⟨l, a, b, hA, rfl⟩
  rintro _ ⟨l, a, b, hA, rfl⟩
  rw [hA]
  walk_at "go"
  rfl
end

section
/-! ### k63: the answer -/
theorem isN_text {k : Int} : isNone (excD (Str.ofString "NoText") [(Str.ofString "line", .int k)]) = false := rfl
theorem l_err_text {k : Int} : run 100000 (n + 2) ._law_error [.dat (excD "NoText" [("line", .int k)])] = .ret (.dat (.str (Str.ofString "text"))) [] := rfl
theorem l_whole_int {k : Int} : run 100000 (n + 1) ._law_whole [.dat (.int k)] = .ret (.dat (.bool true)) [] := by
  rw [en__law_whole]
  apply ret_of
  unfold b__law_whole
  walk_at "st"
theorem outs_nil {e : En} {Q : List Tr → Prop} : WO (outs e []) Q = Q [] := rfl
theorem look_text : tabT_JobError.lookup (Str.ofString "NoText") = some true := by decide +kernel
local macro_rules | `(tactic| walk_at "sr") => `(tactic| simp -dsimp -implicitDefEqProofs only [isN_text, sl_o, outs_nil, part4_0, part4_1, part4_2, part4_3, part3_0, part3_1, part3_2, part2_0, part2_1, sub_ownP, sub_tupP, sub_ownN, sub_tupN, sub_datK, get4_0, get4_1, get4_2, get4_3, get3_0, get3_1, get3_2, get2_0, get2_1, put4_0, put4_1, put4_2, put4_3, put3_0, put3_1, put3_2, put2_0, put2_1, Tr.data, Tr.datas])
theorem l_answer {t : Str} (h : Tw t) : run 100000 (n + 6) ._law_answer [.dat (.str t)] = .ret (treeA (readT t)) [] := by
  have er := g_read (n := n) h.w (Nat.le_trans (tw_rows h) (by decide))
  have e1 : ∀ k : Int, run 100000 (n + 5) ._law_error [.dat (excD "NoText" [("line", .int k)])] = .ret (.dat (.str (Str.ofString "text"))) [] := fun k => l_err_text (n := n + 3)
  have e2 : ∀ k : Int, run 100000 (n + 5) ._law_whole [.dat (.int k)] = .ret (.dat (.bool true)) [] := fun k => l_whole_int (n := n + 4)
  rw [en__law_answer]
  apply ret_of
  unfold b__law_answer
  rw [wr_fin]
  generalize run 100000 (n + 5) = Φ at *
  generalize readT t = A at *
  cases A with
  | inl j =>
    have er : Φ .read_lines [.dat (.str t)] = .ret (.own j) [] := er
    walk_at "go"
    rw [er]
    walk_at "go"
    rfl
  | inr k =>
    have er : Φ .read_lines [.dat (.str t)] = .exc (lineX k) [] := er
    unfold lineX at er
    have e1 := e1 k
    have e2 := e2 k
    walk_at "go"
    rw [er]
    walk_at "go"
    rw [try_t look_text]
    walk_at "go"
    rw [e1]
    walk_at "go"
    rw [e2]
    walk_at "go"
    exact ⟨fun z => absurd z (by rw [isN_text]; exact Bool.false_ne_true), fun _ => rfl⟩
end

section
/-! ### k63: a text bent -/
/-- rows put together -/
structure Rows (L m c : Nat) (ps : List Str) : Prop where
  jl : jl (ps.map TL.tl) ≤ L
  fg : ∀ p ∈ ps, runs m 0 (TL.tl p) = true
  no : ∀ p ∈ ps, 10 ∉ TL.tl p
  asc : ∀ p ∈ ps, ∀ x ∈ TL.tl p, x < 128
  len : ps.length ≤ c
theorem Rows.tb {L m c : Nat} {ps : List Str} (h : Rows L m (c + 1) ps) : Tb L m c (Txt.join (Str.ofString "\n") ps) := tb_join h.jl (fun p hp => ⟨h.fg p hp, h.no p hp⟩) h.asc h.len
theorem Tb.rows {L m c : Nat} {t : Str} (h : Tb L m c t) : Rows (L + 1) m (c + 1) (pcs 10 t) := ⟨by rw [pcs_jl]; have := h.len; omega, fun p hp => pcs_fg fig10 h.fg hp, fun p hp => splitN_free _ (pcs_mem hp), fun p hp => pcs_asc h.asc hp, by
  unfold pcs
  rw [List.length_map, splitN_len]
  have := h.nl
  omega⟩
theorem Rows.mono {L m c L' m' c' : Nat} {ps : List Str} (h : Rows L m c ps) (h1 : L ≤ L') (h2 : m ≤ m') (h3 : c ≤ c') : Rows L' m' c' ps := ⟨Nat.le_trans h.jl h1, fun p hp => runs_mono h2 (Nat.le_refl _) (h.fg p hp), h.no, h.asc, Nat.le_trans h.len h3⟩
theorem Tb.mono {L m c L' m' c' : Nat} {t : Str} (h : Tb L m c t) (h1 : L ≤ L') (h2 : m ≤ m') (h3 : c ≤ c') : Tb L' m' c' t := ⟨Nat.le_trans h.len h1, runs_mono h2 (Nat.le_refl _) h.fg, Nat.le_trans h.nl h3, h.asc⟩
theorem Rows.app {L m c L' c' : Nat} {ps qs : List Str} (h : Rows L m c ps) (k : Rows L' m c' qs) : Rows (L + L') m (c + c') (ps ++ qs) := ⟨by rw [List.map_append, jl_app]; have := h.jl; have := k.jl; omega, fun p hp => (List.mem_append.mp hp).elim (h.fg p) (k.fg p), fun p hp => (List.mem_append.mp hp).elim (h.no p) (k.no p), fun p hp => (List.mem_append.mp hp).elim (h.asc p) (k.asc p), by rw [List.length_append]; have := h.len; have := k.len; omega⟩
theorem Rows.sub {L m c : Nat} {ps qs : List Str} (h : Rows L m c ps) (hs : ∀ p ∈ qs, p ∈ ps) (hl : qs.length ≤ c) (hj : R.jl (qs.map TL.tl) ≤ L) : Rows L m c qs := ⟨hj, fun p hp => h.fg p (hs p hp), fun p hp => h.no p (hs p hp), fun p hp => h.asc p (hs p hp), hl⟩
theorem Rows.take {L m c : Nat} {ps : List Str} (h : Rows L m c ps) (i : Nat) : Rows L m c (ps.take i) := h.sub (fun p hp => List.take_subset _ _ hp) (by rw [List.length_take]; have := h.len; omega) (by rw [List.map_take]; exact Nat.le_trans (jl_take i) h.jl)
theorem Rows.drop {L m c : Nat} {ps : List Str} (h : Rows L m c ps) (i : Nat) : Rows L m c (ps.drop i) := h.sub (fun p hp => List.drop_subset _ _ hp) (by rw [List.length_drop]; have := h.len; omega) (by rw [List.map_drop]; exact Nat.le_trans (jl_drop i) h.jl)
theorem Rows.one {L m : Nat} {p : Str} (h1 : (TL.tl p).length + 1 ≤ L) (h2 : runs m 0 (TL.tl p) = true) (h3 : 10 ∉ TL.tl p) (h4 : ∀ x ∈ TL.tl p, x < 128) : Rows L m 1 [p] := ⟨by rw [List.map_cons, List.map_nil, jl_cons]; show _ + (0 + 0) ≤ _; omega, fun q hq => by rw [List.mem_singleton.mp hq]; exact h2, fun q hq => by rw [List.mem_singleton.mp hq]; exact h3, fun q hq => by rw [List.mem_singleton.mp hq]; exact h4, Nat.le_refl _⟩
theorem Rows.mem {L m c : Nat} {ps : List Str} {p : Str} (h : Rows L m c ps) (hp : p ∈ ps) : Rows L m 1 [p] := Rows.one (Nat.le_trans (jl_mem (List.mem_map_of_mem hp)) h.jl) (h.fg p hp) (h.no p hp) (h.asc p hp)
theorem Rows.set {L m c l : Nat} {ps : List Str} {p : Str} (h : Rows L m c ps) (i : Nat) (h1 : (TL.tl p).length + 1 ≤ l) (h2 : runs m 0 (TL.tl p) = true) (h3 : 10 ∉ TL.tl p) (h4 : ∀ x ∈ TL.tl p, x < 128) : Rows (L + l) m c (ps.set i p) := ⟨by
    rw [List.map_set]
    have := jl_set (a := ps.map TL.tl) (i := i) (p := TL.tl p)
    have := h.jl
    omega, fun q hq => (List.mem_or_eq_of_mem_set hq).elim (h.fg q) fun e => e ▸ h2, fun q hq => (List.mem_or_eq_of_mem_set hq).elim (h.no q) fun e => e ▸ h3, fun q hq => (List.mem_or_eq_of_mem_set hq).elim (h.asc q) fun e => e ▸ h4, by rw [List.length_set]; exact h.len⟩
/-- words of a row put together -/
theorem row_join {m l : Nat} {ws : List Str} (h1 : jl (ws.map TL.tl) ≤ l) (h2 : ∀ w ∈ ws, runs m 0 (TL.tl w) = true) (h3 : ∀ w ∈ ws, 10 ∉ TL.tl w) (h4 : ∀ w ∈ ws, ∀ x ∈ TL.tl w, x < 128) :
    (TL.tl (Txt.join (Str.ofString " ") ws)).length ≤ l ∧ runs m 0 (TL.tl (Txt.join (Str.ofString " ") ws)) = true ∧ 10 ∉ TL.tl (Txt.join (Str.ofString " ") ws) ∧ ∀ x ∈ TL.tl (Txt.join (Str.ofString " ") ws), x < 128 := by
  have e : TL.tl (Txt.join (Str.ofString " ") ws) = TL.joinL [32] (ws.map TL.tl) := by rw [TL.join_eq, TL.tl_join]; rfl
  rw [e]
  refine ⟨Nat.le_trans (joinL_jl (s := 32) (ps := ws.map TL.tl)).1 h1, ?_, ?_, ?_⟩
  · rw [runs_join fig32, List.all_eq_true]
    intro p hp
    obtain ⟨q, hq, rfl⟩ := List.mem_map.mp hp
    exact h2 q hq
  · have key : ∀ {ps : List (List Nat)}, (∀ p ∈ ps, 10 ∉ p) → 10 ∉ TL.joinL [32] ps := by
      intro ps
      induction ps with
      | nil => intro _ h; cases h
      | cons p ps ih =>
        intro h hm
        cases ps with
        | nil => exact h p List.mem_cons_self hm
        | cons q ps =>
          have hm : 10 ∈ p ++ ([32] ++ TL.joinL [32] (q :: ps)) := hm
          rcases List.mem_append.mp hm with z | z
          · exact h p List.mem_cons_self z
          · rcases List.mem_append.mp z with z | z
            · exact absurd (List.mem_singleton.mp z) (by decide)
            · exact ih (fun r hr => h r (List.mem_cons_of_mem _ hr)) z
    exact key fun q hq => by
      obtain ⟨p, hp, rfl⟩ := List.mem_map.mp hq
      exact h3 p hp
  · exact join_asc (fun x hx => by rw [List.mem_singleton.mp hx]; decide) fun q hq => by
      obtain ⟨p, hp, rfl⟩ := List.mem_map.mp hq
      exact h4 p hp
/-- a text cut and joined again round a sign -/
theorem tb_sign {L m c k i : Nat} {t z : Str} (hik : i ≤ k) (h : Tb L m c t) (hz : (TL.tl z).length ≤ 1) (hz2 : ∀ x ∈ TL.tl z, x < 128) : Tb (L + 1) (m + (1 + m)) (c + 1) ((⟨((TL.tl t).take i).toArray⟩ ++ z) ++ ⟨((TL.tl t).drop k).toArray⟩) := by
  have e : TL.tl ((⟨((TL.tl t).take i).toArray⟩ ++ z) ++ ⟨((TL.tl t).drop k).toArray⟩ : Str) = (TL.tl t).take i ++ (TL.tl z ++ (TL.tl t).drop k) := by
    rw [TL.tl_append, TL.tl_append, List.append_assoc]
  have hz1 : runs 1 0 (TL.tl z) = true := by
    match TL.tl z, hz with
    | [], _ => rfl
    | [c], _ => cases hc : fig c with
      | true => rw [runs_fig hc]; rfl
      | false => rw [runs_not hc]; rfl
  refine ⟨?_, ?_, ?_, ?_⟩
  · rw [e, List.length_append, List.length_append, List.length_take, List.length_drop]
    have := h.len
    omega
  · rw [e]
    exact runs_app (runs_app (runs_drop h.fg k) (Nat.zero_le _) hz1) (Nat.zero_le _) (runs_take h.fg i)
  · rw [e, List.count_append, List.count_append]
    have h1 : ((TL.tl t).take i).count 10 + ((TL.tl t).drop i).count 10 = (TL.tl t).count 10 := by rw [← List.count_append, List.take_append_drop]
    have h2 : ((TL.tl t).drop k).count 10 ≤ ((TL.tl t).drop i).count 10 := by
      have e : (TL.tl t).drop k = ((TL.tl t).drop i).drop (k - i) := by rw [List.drop_drop]; congr 1; omega
      rw [e]
      exact List.Sublist.count_le 10 (List.drop_sublist _ _)
    have h3 := List.count_le_length (a := 10) (l := TL.tl z)
    have := h.nl
    omega
  · rw [e]
    intro x hx
    rcases List.mem_append.mp hx with z1 | z1
    · exact h.asc x (List.take_subset _ _ z1)
    · rcases List.mem_append.mp z1 with z2 | z2
      · exact hz2 x z2
      · exact h.asc x (List.drop_subset _ _ z2)
end

section
/-! ### k63: the law's bending -/
theorem l_take61 {p s : Int} (h0 : 0 < s) (h1 : s < 1000000) : ∃ d q : Int, 0 ≤ d ∧ d < s ∧ run 100000 (n + 1) ._law_take [pileT p, .dat (.int s)] = .ret (.dat (.int d)) [pileT q] := ⟨p % s, p / s, Int.emod_nonneg _ (by omega), Int.emod_lt_of_pos _ h0, r_take (n := n) h0 (by omega)⟩
theorem atI_mem61 {α : Type} {l : List α} {d : Int} (h0 : 0 ≤ d) (h1 : d < (l.length : Int)) : ∃ x ∈ l, atI l d = some x := by
  have hd : d.toNat < l.length := by omega
  exact ⟨l[d.toNat], List.getElem_mem hd, by rw [atI_nat h0]; exact List.getElem?_eq_getElem hd⟩
theorem cutS_lo {t : Str} {i : Int} (h0 : 0 ≤ i) : cutS t none (some i) = ⟨((TL.tl t).take i.toNat).toArray⟩ := by
  obtain ⟨k, rfl⟩ : ∃ k : Nat, i = k := ⟨i.toNat, by omega⟩
  unfold cutS
  rw [HT.sIx_none, HT.sIx_nat, Int.toNat_natCast, List.drop_zero, Nat.sub_zero]
  refine TL.ext_tl ?_
  show (TL.tl t).take (min k t.length) = (TL.tl t).take k
  rw [TL.len_tl, Nat.min_def]
  split
  · rfl
  · rw [List.take_of_length_le (Nat.le_refl _), List.take_of_length_le (by omega)]
theorem cutS_hi {t : Str} {i : Int} (h0 : 0 ≤ i) : cutS t (some i) none = ⟨((TL.tl t).drop i.toNat).toArray⟩ := by
  obtain ⟨k, rfl⟩ : ∃ k : Nat, i = k := ⟨i.toNat, by omega⟩
  unfold cutS
  rw [HT.sIx_none, HT.sIx_nat, Int.toNat_natCast]
  refine TL.ext_tl ?_
  show ((TL.tl t).drop (min k t.length)).take (t.length - min k t.length) = (TL.tl t).drop k
  rw [List.take_of_length_le (by rw [List.length_drop, ← TL.len_tl]; omega), TL.len_tl, Nat.min_def]
  split
  · rfl
  · rw [List.drop_of_length_le (Nat.le_refl _), List.drop_of_length_le (by omega)]
theorem slS {t : Str} {lo hi : Option Int} (h : (TL.tl t).length ≤ 900000) : slF (.str t) lo hi = some (.dat (.str (cutS t lo hi))) := by
  show (if lenOk t.length then some (Rz.dat (.str (cutS t lo hi))) else none) = _
  rw [if_pos (show lenOk t.length = true from decide_eq_true (by rw [TL.len_tl]; omega))]
theorem cutD_lo {l : List PyData} {i : Int} (h0 : 0 ≤ i) : cutD l none (some i) = l.take i.toNat := by
  obtain ⟨k, rfl⟩ : ∃ k : Nat, i = k := ⟨i.toNat, by omega⟩
  unfold cutD
  rw [HT.sIx_none, HT.sIx_nat, Int.toNat_natCast, List.drop_zero, Nat.sub_zero, Nat.min_def]
  split
  · rfl
  · rw [List.take_of_length_le (Nat.le_refl _), List.take_of_length_le (by omega)]
theorem joinN {y : Str} {ps : List Str} {L : Nat} (hy : y.length = 1) (h : jl (ps.map TL.tl) ≤ L) (hL : L ≤ 900000) : joinF (.str y) (.list (ps.map .str)) = some (.dat (.str (Txt.join y ps))) := join_str (by
  have e : (ps.map fun (x : Str) => x.length).sum = ((ps.map TL.tl).map (·.length)).sum := by
    rw [List.map_map]
    exact congrArg List.sum (List.map_congr_left fun x _ => TL.len_tl x)
  unfold jl at h
  rw [List.length_map] at h
  rw [e, hy]
  omega)
theorem app_len {a b : Str} : (a ++ b).length = a.length + b.length := by rw [TL.len_tl, TL.tl_append, List.length_append, ← TL.len_tl, ← TL.len_tl]
def sgnS : Str := conS s__law_bent 2
def sgnL : List Nat := TL.tl sgnS
theorem sgn_asc : ∀ c ∈ sgnL, c < 128 := by decide +kernel
theorem sgn_len : sgnL.length = 59 := by decide +kernel
def odd14 : List Str := ["-0", "00", "01", "none", "free", "due", "given", "later", "full", "(1)", "(,1)", "()", "(1,2,3)", "(01,)"]
def odd15 : List Str := odd14 ++ [Str.ofString ">="]
theorem odd15_ok : ∀ w ∈ odd15, (TL.tl w).length ≤ 7 ∧ runs 2 0 (TL.tl w) = true ∧ 10 ∉ TL.tl w ∧ ∀ x ∈ TL.tl w, x < 128 := by decide +kernel
theorem jl_set2 : ∀ {a : List (List Nat)} {i : Nat} {p y : List Nat}, a[i]? = some y → jl (a.set i p) + y.length = jl a + p.length
  | [], i, p, y, h => by cases h
  | x :: a, 0, p, y, h => by
    rw [Option.some.inj (show some x = some y from h), List.set_cons_zero, jl_cons, jl_cons]
    omega
  | x :: a, i + 1, p, y, h => by
    have := jl_set2 (a := a) (i := i) (p := p) (y := y) h
    rw [List.set_cons_succ, jl_cons, jl_cons]
    omega
theorem Rows.put {L m c : Nat} {ps : List Str} {p y : Str} (h : Rows L m c ps) {i : Nat} (hy : ps[i]? = some y) (h2 : runs m 0 (TL.tl p) = true) (h3 : 10 ∉ TL.tl p) (h4 : ∀ x ∈ TL.tl p, x < 128) {L2 : Nat} (h1 : L + (TL.tl p).length ≤ L2 + (TL.tl y).length) : Rows L2 m c (ps.set i p) := ⟨by
    rw [List.map_set]
    have := jl_set2 (a := ps.map TL.tl) (i := i) (p := TL.tl p) (y := TL.tl y) (by rw [List.getElem?_map, hy]; rfl)
    have := h.jl
    omega, fun q hq => (List.mem_or_eq_of_mem_set hq).elim (h.fg q) fun e => e ▸ h2, fun q hq => (List.mem_or_eq_of_mem_set hq).elim (h.no q) fun e => e ▸ h3, fun q hq => (List.mem_or_eq_of_mem_set hq).elim (h.asc q) fun e => e ▸ h4, by rw [List.length_set]; exact h.len⟩
end

section
/-! ### k63: the bending -/
theorem sgnS_len : sgnS.length = 59 := by rw [TL.len_tl]; exact sgn_len
theorem mkNew_pile {p : Int} : mkNew (pileT p) = .new (pileT p) := rfl
theorem isUn_pile {p : Int} : isUn (pileT p) = false := rfl
theorem len_lo {t : Str} {i : Nat} : (⟨((TL.tl t).take i).toArray⟩ : Str).length ≤ (TL.tl t).length := by
  rw [TL.len_tl]
  show ((TL.tl t).take i).length ≤ _
  rw [List.length_take]
  omega
theorem len_hi {t : Str} {i : Nat} : (⟨((TL.tl t).drop i).toArray⟩ : Str).length ≤ (TL.tl t).length := by
  rw [TL.len_tl]
  show ((TL.tl t).drop i).length ≤ _
  rw [List.length_drop]
  omega
theorem ixN61 {k : Nat} {i : Int} (h0 : 0 ≤ i) (h1 : i < (k : Int)) : ixN k i = some i.toNat := by
  unfold ixN
  rw [if_pos (by omega)]
  exact if_pos (by omega)
theorem Rows.of {L m c L2 c2 : Nat} {ps qs : List Str} (h : Rows L m c ps) (hs : ∀ p ∈ qs, p ∈ ps) (hj : R.jl (qs.map TL.tl) ≤ L2) (hl : qs.length ≤ c2) : Rows L2 m c2 qs := ⟨hj, fun p hp => h.fg p (hs p hp), fun p hp => h.no p (hs p hp), fun p hp => h.asc p (hs p hp), hl⟩
theorem jl_split {l : List Str} (i : Nat) : R.jl ((l.take i).map TL.tl) + R.jl ((l.drop i).map TL.tl) = R.jl (l.map TL.tl) := by
  rw [← jl_app, ← List.map_append, List.take_append_drop]
theorem app_empty {a : Str} : a ++ Str.empty = a := TL.ext_tl (by rw [TL.tl_append]; exact List.append_nil _)
local macro_rules | `(tactic| walk_at "sr") => `(tactic| simp -dsimp -implicitDefEqProofs only [mkNew_pile, sl_o, outs_nil, isUn_pile])
theorem l_bent63 {t : Str} {p : Int} {L m c : Nat} (h : Tb L m c t) (hL : L ≤ 100000) (hm : 2 ≤ m) (hc : c ≤ 1000) : ∃ (t' : Str) (q : Int), run 100000 (n + 2) ._law_bent [pileT p, .dat (.str t)] = .ret (.dat (.str t')) [pileT q] ∧ Tb (2 * L + 41) (2 * m + 3) (c + 1) t' := by
  have et : ∀ p s : Int, 0 < s → s < 1000000 → ∃ d q : Int, 0 ≤ d ∧ d < s ∧ run 100000 (n + 1) ._law_take [pileT p, .dat (.int s)] = .ret (.dat (.int d)) [pileT q] := fun p s h0 h1 => l_take61 (n := n) h0 h1
  have hlen := h.len
  have es := splitR (t := t) (by omega)
  have hR := h.rows
  have hRl := hR.len
  have hpos : 0 < (pcs 10 t).length := List.length_pos_iff.mpr pcs_ne
  have htl : t.length = (TL.tl t).length := TL.len_tl t
  suffices hh : WR (run 100000 (n + 2) ._law_bent [pileT p, .dat (.str t)]) (fun r os => ∃ (t' : Str) (q : Int), r = .dat (.str t') ∧ os = [pileT q] ∧ Tb (2 * L + 41) (2 * m + 3) (c + 1) t') fun _ _ => False by
    obtain ⟨r, os, e, t', q, rfl, rfl, hb⟩ := wr_iff hh
    exact ⟨t', q, e, hb⟩
  rw [en__law_bent]
  unfold b__law_bent
  rw [wr_fin]
  generalize run 100000 (n + 1) = Φ at *
  -- the draws
  refine ws_cut (fun e' => ∃ (w q : Int), 0 ≤ w ∧ w < 10 ∧ e' = [.o (pileT q), .o (.dat (.str t)), .o (.dat (.int w)), .o .un, .o .un, .o .un, .o .un, .o .un, .o .un, .o .un, .o .un, .o .un]) ?_ ?_
  · obtain ⟨d, q, d0, d1, e⟩ := et p 10 (by decide) (by decide)
    walk_at "go"
    rw [e]
    walk_at "go"
    exact ⟨d, q, d0, d1, rfl⟩
  rintro _ ⟨w, q, w0, w1, rfl⟩
  refine ws_cut (fun e' => ∃ (a q : Int), 0 ≤ a ∧ a ≤ (TL.tl t).length ∧ e' = [.o (pileT q), .o (.dat (.str t)), .o (.dat (.int w)), .o (.dat (.int a)), .o .un, .o .un, .o .un, .o .un, .o .un, .o .un, .o .un, .o .un]) ?_ ?_
  · obtain ⟨d, q2, d0, d1, e⟩ := et q ((t.length : Int) + 1) (by omega) (by omega)
    walk_at "go"
    rw [lenT_txt (by omega)]
    walk_at "go"
    rw [e]
    walk_at "go"
    exact ⟨d, q2, d0, by omega, rfl⟩
  rintro _ ⟨a, q, a0, a1, rfl⟩
  refine ws_cut (fun e' => e' = [.o (pileT q), .o (.dat (.str t)), .o (.dat (.int w)), .o (.dat (.int a)), .o (.dat (.str sgnS)), .o .un, .o .un, .o .un, .o .un, .o .un, .o .un, .o .un]) ?_ ?_
  · walk_at "go"
    rfl
  rintro _ rfl
  refine ws_cut (fun e' => ∃ (z : Nat) (q : Int), z < 128 ∧ e' = [.o (pileT q), .o (.dat (.str t)), .o (.dat (.int w)), .o (.dat (.int a)), .o (.dat (.str sgnS)), .o (.dat (.str ⟨#[z]⟩)), .o .un, .o .un, .o .un, .o .un, .o .un, .o .un]) ?_ ?_
  · obtain ⟨d, q2, d0, d1, e⟩ := et q 59 (by decide) (by decide)
    obtain ⟨z, hz, hz2⟩ := atI_mem61 (l := sgnL) d0 (by rw [sgn_len]; exact d1)
    have hix : ixF (.str sgnS) d = some (.str ⟨#[z]⟩) := ix_str (by rw [sgnS_len]; decide) hz2
    walk_at "go"
    rw [lenT_txt (by rw [sgnS_len]; decide), sgnS_len]
    walk_at "go"
    rw [show ((59 : Nat) : Int) = 59 from rfl, e]
    walk_at "go"
    rw [hix]
    walk_at "go"
    exact ⟨z, q2, sgn_asc z hz, rfl⟩
  rintro _ ⟨z, q, hz, rfl⟩
  refine ws_cut (fun e' => e' = [.o (pileT q), .o (.dat (.str t)), .o (.dat (.int w)), .o (.dat (.int a)), .o (.dat (.str sgnS)), .o (.dat (.str ⟨#[z]⟩)), .o (.own ((pcs 10 t).map .str)), .o .un, .o .un, .o .un, .o .un, .o .un]) ?_ ?_
  · walk_at "go"
    rw [es]
    walk_at "go"
  rintro _ rfl
  generalize hps : pcs 10 t = ps at *
  refine ws_cut (fun e' => ∃ (o q : Int), 0 ≤ o ∧ o < (ps.length : Int) ∧ e' = [.o (pileT q), .o (.dat (.str t)), .o (.dat (.int w)), .o (.dat (.int a)), .o (.dat (.str sgnS)), .o (.dat (.str ⟨#[z]⟩)), .o (.own (ps.map .str)), .o (.dat (.int o)), .o .un, .o .un, .o .un, .o .un]) ?_ ?_
  · obtain ⟨d, q2, d0, d1, e⟩ := et q (ps.length : Int) (by omega) (by omega)
    walk_at "go"
    rw [List.length_map, e]
    walk_at "go"
    exact ⟨d, q2, d0, d1, rfl⟩
  rintro _ ⟨o, q, o0, o1, rfl⟩
  refine ws_cut (fun e' => ∃ (r q : Int), 0 ≤ r ∧ r < (ps.length : Int) ∧ e' = [.o (pileT q), .o (.dat (.str t)), .o (.dat (.int w)), .o (.dat (.int a)), .o (.dat (.str sgnS)), .o (.dat (.str ⟨#[z]⟩)), .o (.own (ps.map .str)), .o (.dat (.int o)), .o (.dat (.int r)), .o .un, .o .un, .o .un]) ?_ ?_
  · obtain ⟨d, q2, d0, d1, e⟩ := et q (ps.length : Int) (by omega) (by omega)
    walk_at "go"
    rw [List.length_map, e]
    walk_at "go"
    exact ⟨d, q2, d0, d1, rfl⟩
  rintro _ ⟨r, q, r0, r1, rfl⟩
  -- a sign put in, left out, exchanged
  refine ws_cut (fun e' => ¬ w < 3 ∧ e' = [.o (pileT q), .o (.dat (.str t)), .o (.dat (.int w)), .o (.dat (.int a)), .o (.dat (.str sgnS)), .o (.dat (.str ⟨#[z]⟩)), .o (.own (ps.map .str)), .o (.dat (.int o)), .o (.dat (.int r)), .o .un, .o .un, .o .un]) ?_ ?_
  · walk_at "go"
    refine ⟨fun hw => ?_, fun hw => by omega⟩
    have go : ∀ (x : Str) (k : Int), x.length ≤ 1 → (∀ y ∈ TL.tl x, y < 128) → a ≤ k → (addF (.str (cutS t none (some a))) (.str x) = some (.dat (.str (⟨((TL.tl t).take a.toNat).toArray⟩ ++ x)))) ∧ addF (.str (⟨((TL.tl t).take a.toNat).toArray⟩ ++ x)) (.str (cutS t (some k) none)) = some (.dat (.str ((⟨((TL.tl t).take a.toNat).toArray⟩ ++ x) ++ ⟨((TL.tl t).drop k.toNat).toArray⟩))) ∧ Tb (2 * L + 41) (2 * m + 3) (c + 1) ((⟨((TL.tl t).take a.toNat).toArray⟩ ++ x) ++ ⟨((TL.tl t).drop k.toNat).toArray⟩) := fun x k hx hx2 hk => by
      have l1 := len_lo (t := t) (i := a.toNat)
      have l2 := len_hi (t := t) (i := k.toNat)
      refine ⟨?_, ?_, ?_⟩
      · rw [cutS_lo a0, add_strs (by omega)]
      · rw [cutS_hi (by omega), add_strs (by rw [app_len]; omega)]
      · exact (tb_sign (by omega) h (by rw [← TL.len_tl]; exact hx) hx2).mono (by omega) (by omega) (Nat.le_refl _)
    have hz1 : (⟨#[z]⟩ : Str).length ≤ 1 := Nat.le_refl _
    have hz2 : ∀ y ∈ TL.tl (⟨#[z]⟩ : Str), y < 128 := fun y hy => by
      have e : TL.tl (⟨#[z]⟩ : Str) = [z] := rfl
      rw [e, List.mem_singleton] at hy
      omega
    have he1 : (Str.ofString "").length ≤ 1 := by decide +kernel
    have he2 : ∀ y ∈ TL.tl (Str.ofString ""), y < 128 := fun y hy => nomatch hy
    rw [slS (by omega)]
    obtain rfl | rfl | rfl : w = 0 ∨ w = 1 ∨ w = 2 := by omega
    · obtain ⟨g1, g2, g3⟩ := go (Str.ofString "") (a + 1) he1 he2 (by omega)
      walk_at "go"
      rw [g1]
      walk_at "go"
      rw [slS (by omega)]
      walk_at "go"
      rw [g2]
      walk_at "go"
      exact ⟨_, q, rfl, rfl, g3⟩
    · obtain ⟨g1, g2, g3⟩ := go ⟨#[z]⟩ (a + 0) hz1 hz2 (by omega)
      walk_at "go"
      rw [g1]
      walk_at "go"
      rw [slS (by omega)]
      walk_at "go"
      rw [g2]
      walk_at "go"
      exact ⟨_, q, rfl, rfl, g3⟩
    · obtain ⟨g1, g2, g3⟩ := go ⟨#[z]⟩ (a + 1) hz1 hz2 (by omega)
      walk_at "go"
      rw [g1]
      walk_at "go"
      rw [slS (by omega)]
      walk_at "go"
      rw [g2]
      walk_at "go"
      exact ⟨_, q, rfl, rfl, g3⟩
  rintro _ ⟨hw3, rfl⟩
  -- a row put in
  have hj : ∀ {qs : List Str} {L2 c2 : Nat}, Rows L2 (2 * m + 3) c2 qs → L2 ≤ 2 * L + 41 → c2 ≤ c + 2 → joinF (.str (Str.ofString "\n")) (.list (qs.map .str)) = some (.dat (.str (Txt.join (Str.ofString "\n") qs))) ∧ Tb (2 * L + 41) (2 * m + 3) (c + 1) (Txt.join (Str.ofString "\n") qs) := fun {qs L2 c2} hq h1 h2 => ⟨joinN (by decide +kernel) hq.jl (by omega), (hq.mono h1 (Nat.le_refl _) h2).tb⟩
  have hR' : Rows (L + 1) (2 * m + 3) (c + 1) ps := hR.mono (Nat.le_refl _) (by omega) (Nat.le_refl _)
  obtain ⟨x, hx, hx2⟩ := atI_mem61 (l := ps) r0 r1
  have ax : atI (ps.map PyData.str) r = some (.str x) := by
    rw [atI_nat r0] at hx2 ⊢
    rw [List.getElem?_map, hx2]
    rfl
  obtain ⟨y, hy, hy2⟩ := atI_mem61 (l := ps) o0 o1
  have ay : atI (ps.map PyData.str) o = some (.str y) := by
    rw [atI_nat o0] at hy2 ⊢
    rw [List.getElem?_map, hy2]
    rfl
  refine ws_cut (fun e' => w ≠ 3 ∧ e' = [.o (pileT q), .o (.dat (.str t)), .o (.dat (.int w)), .o (.dat (.int a)), .o (.dat (.str sgnS)), .o (.dat (.str ⟨#[z]⟩)), .o (.own (ps.map .str)), .o (.dat (.int o)), .o (.dat (.int r)), .o .un, .o .un, .o .un]) ?_ ?_
  · walk_at "go"
    refine ⟨fun hw => ?_, fun hw => hw⟩
    have e0 := jl_split (l := ps) o.toNat
    have j1 := hR'.jl
    have j2 := jl_mem (List.mem_map_of_mem (f := TL.tl) hx)
    obtain ⟨g1, g2⟩ := hj (hR'.of (L2 := 2 * (L + 1)) (c2 := c + 2) (qs := ps.take o.toNat ++ [x] ++ ps.drop o.toNat) (fun v hv => by
        rcases List.mem_append.mp hv with hv | hv
        · rcases List.mem_append.mp hv with hv | hv
          · exact List.take_subset _ _ hv
          · rw [List.mem_singleton.mp hv]; exact hx
        · exact List.drop_subset _ _ hv) (by
        rw [List.map_append, List.map_append, jl_app, jl_app, List.map_cons, List.map_nil, jl_cons]
        have : jl [] = 0 := rfl
        omega) (by
        rw [List.length_append, List.length_append, List.length_take, List.length_drop, List.length_singleton]
        omega)) (by omega) (by omega)
    rw [ax]
    walk_at "go"
    rw [cutD_lo o0, add60 (by rw [List.length_take, List.length_map, List.length_singleton]; omega)]
    walk_at "go"
    rw [cut_from60 o0, add60 (by rw [List.length_append, List.length_take, List.length_drop, List.length_map, List.length_singleton]; omega)]
    walk_at "go"
    rw [show (List.take o.toNat (ps.map PyData.str) ++ [PyData.str x]) ++ List.drop o.toNat (ps.map PyData.str) = (ps.take o.toNat ++ [x] ++ ps.drop o.toNat).map .str by rw [List.map_append, List.map_append, List.map_take, List.map_drop]; rfl, g1]
    walk_at "go"
    exact ⟨_, q, rfl, rfl, g2⟩
  rintro _ ⟨hw4, rfl⟩
  -- a row left out
  refine ws_cut (fun e' => w ≠ 4 ∧ e' = [.o (pileT q), .o (.dat (.str t)), .o (.dat (.int w)), .o (.dat (.int a)), .o (.dat (.str sgnS)), .o (.dat (.str ⟨#[z]⟩)), .o (.own (ps.map .str)), .o (.dat (.int o)), .o (.dat (.int r)), .o .un, .o .un, .o .un]) ?_ ?_
  · walk_at "go"
    refine ⟨fun hw => ?_, fun hw => hw⟩
    have e0 := jl_split (l := ps) o.toNat
    have e1 : jl ((ps.drop (o + 1).toNat).map TL.tl) ≤ jl (ps.map TL.tl) := by rw [List.map_drop]; exact jl_drop _
    have e2 : jl ((ps.take o.toNat).map TL.tl) ≤ jl (ps.map TL.tl) := by rw [List.map_take]; exact jl_take _
    have j1 := hR'.jl
    obtain ⟨g1, g2⟩ := hj (hR'.of (L2 := 2 * (L + 1)) (c2 := c + 2) (qs := ps.take o.toNat ++ ps.drop (o + 1).toNat) (fun v hv => by
        rcases List.mem_append.mp hv with hv | hv
        · exact List.take_subset _ _ hv
        · exact List.drop_subset _ _ hv) (by
        rw [List.map_append, jl_app]
        omega) (by
        rw [List.length_append, List.length_take, List.length_drop]
        omega)) (by omega) (by omega)
    rw [cutD_lo o0, cut_from60 (show (0 : Int) ≤ o + 1 by omega), add60 (by rw [List.length_take, List.length_drop, List.length_map]; omega)]
    walk_at "go"
    rw [show List.take o.toNat (ps.map PyData.str) ++ List.drop (o + 1).toNat (ps.map PyData.str) = (ps.take o.toNat ++ ps.drop (o + 1).toNat).map .str by rw [List.map_append, List.map_take, List.map_drop], g1]
    walk_at "go"
    exact ⟨_, q, rfl, rfl, g2⟩
  rintro _ ⟨hw5, rfl⟩
  -- words
  have hyl : (TL.tl y).length + 1 ≤ L + 1 := Nat.le_trans (jl_mem (List.mem_map_of_mem (f := TL.tl) hy)) hR'.jl
  have hyo : ps[o.toNat]? = some y := by rw [← atI_nat o0]; exact hy2
  have eW := splitW (t := y) (by omega)
  have wj := pcs_jl (s := 32) (t := y)
  have wfg : ∀ v ∈ pcs 32 y, runs (2 * m + 3) 0 (TL.tl v) = true := fun v hv => pcs_fg fig32 (hR'.fg y hy) hv
  have wno : ∀ v ∈ pcs 32 y, 10 ∉ TL.tl v := fun v hv hm => hR'.no y hy (pcs_sub _ (pcs_mem hv) 10 hm)
  have wasc : ∀ v ∈ pcs 32 y, ∀ k ∈ TL.tl v, k < 128 := fun v hv => pcs_asc (hR'.asc y hy) hv
  have wpos : 0 < (pcs 32 y).length := List.length_pos_iff.mpr pcs_ne
  have wlen := pcs_many (s := 32) (t := y)
  generalize pcs 32 y = ws at *
  refine ws_cut (fun e' => e' = [.o (pileT q), .o (.dat (.str t)), .o (.dat (.int w)), .o (.dat (.int a)), .o (.dat (.str sgnS)), .o (.dat (.str ⟨#[z]⟩)), .o (.own (ps.map .str)), .o (.dat (.int o)), .o (.dat (.int r)), .o (.own (ws.map .str)), .o .un, .o .un]) ?_ ?_
  · walk_at "go"
    rw [ay]
    walk_at "go"
    rw [eW]
    walk_at "go"
  rintro _ rfl
  refine ws_cut (fun e' => ∃ (s q : Int), 0 ≤ s ∧ s < (ws.length : Int) ∧ e' = [.o (pileT q), .o (.dat (.str t)), .o (.dat (.int w)), .o (.dat (.int a)), .o (.dat (.str sgnS)), .o (.dat (.str ⟨#[z]⟩)), .o (.own (ps.map .str)), .o (.dat (.int o)), .o (.dat (.int r)), .o (.own (ws.map .str)), .o (.dat (.int s)), .o .un]) ?_ ?_
  · obtain ⟨d, q2, d0, d1, e⟩ := et q (ws.length : Int) (by omega) (by omega)
    walk_at "go"
    rw [List.length_map, e]
    walk_at "go"
    exact ⟨d, q2, d0, d1, rfl⟩
  rintro _ ⟨s, q, s0, s1, rfl⟩
  refine ws_cut (fun e' => e' = [.o (pileT q), .o (.dat (.str t)), .o (.dat (.int w)), .o (.dat (.int a)), .o (.dat (.str sgnS)), .o (.dat (.str ⟨#[z]⟩)), .o (.own (ps.map .str)), .o (.dat (.int o)), .o (.dat (.int r)), .o (.own (ws.map .str)), .o (.dat (.int s)), .o (.own (odd14.map .str))]) ?_ ?_
  · walk_at "go"
    rfl
  rintro _ rfl
  refine ws_cut (fun e' => e' = [.o (pileT q), .o (.dat (.str t)), .o (.dat (.int w)), .o (.dat (.int a)), .o (.dat (.str sgnS)), .o (.dat (.str ⟨#[z]⟩)), .o (.own (ps.map .str)), .o (.dat (.int o)), .o (.dat (.int r)), .o (.own (ws.map .str)), .o (.dat (.int s)), .o (.own (odd15.map .str))]) ?_ ?_
  · walk_at "go"
    exact ⟨by rw [List.length_map]; decide, rfl⟩
  rintro _ rfl
  -- the words that come of it
  refine ws_cut (fun e' => ∃ (vs : List Str) (q : Int), jl (vs.map TL.tl) ≤ 2 * (TL.tl y).length + 10 ∧ (∀ v ∈ vs, runs (2 * m + 3) 0 (TL.tl v) = true) ∧ (∀ v ∈ vs, 10 ∉ TL.tl v) ∧ (∀ v ∈ vs, ∀ k ∈ TL.tl v, k < 128) ∧ e' = [.o (pileT q), .o (.dat (.str t)), .o (.dat (.int w)), .o (.dat (.int a)), .o (.dat (.str sgnS)), .o (.dat (.str ⟨#[z]⟩)), .o (.own (ps.map .str)), .o (.dat (.int o)), .o (.dat (.int r)), .o (.own (vs.map .str)), .o (.dat (.int s)), .o (.own (odd15.map .str))]) ?_ ?_
  · walk_at "go"
    refine ⟨fun hw => ?_, fun hw => ⟨fun hw7 => ?_, fun hw7 => ⟨fun hw8 => ?_, fun hw8 => ?_⟩⟩⟩
    · obtain ⟨d, q2, d0, d1, e⟩ := et q 15 (by decide) (by decide)
      obtain ⟨v, hv, hv2⟩ := atI_mem61 (l := odd15) d0 (by exact d1)
      obtain ⟨b1, b2, b3, b4⟩ := odd15_ok v hv
      have av : atI (odd15.map PyData.str) d = some (.str v) := by
        rw [atI_nat d0, List.getElem?_map, ← atI_nat d0, hv2]
        rfl
      have f0 := jl_set (a := ws.map TL.tl) (i := s.toNat) (p := TL.tl v)
      rw [← List.map_set] at f0
      have hsub : ∀ u ∈ ws.set s.toNat v, u ∈ ws ∨ u = v := fun u hu => List.mem_or_eq_of_mem_set hu
      rw [e]
      walk_at "go"
      rw [av]
      walk_at "go"
      rw [List.length_map, ixN61 s0 s1]
      walk_at "go"
      refine ⟨ws.set s.toNat v, q2, by omega, fun u hu => (hsub u hu).elim (wfg u) fun z => z ▸ runs_mono (by omega) (Nat.le_refl _) b2, fun u hu => (hsub u hu).elim (wno u) fun z => z ▸ b3, fun u hu => (hsub u hu).elim (wasc u) fun z => z ▸ b4, ?_⟩
      rw [List.map_set]
    · have f0 := jl_take (a := ws.map TL.tl) (s + 1).toNat
      have f1 := jl_drop (a := ws.map TL.tl) s.toNat
      rw [← List.map_take] at f0
      rw [← List.map_drop] at f1
      have hsub : ∀ v ∈ ws.take (s + 1).toNat ++ ws.drop s.toNat, v ∈ ws := fun v hv => (List.mem_append.mp hv).elim (fun h => List.take_subset _ _ h) fun h => List.drop_subset _ _ h
      rw [cutD_lo (show (0 : Int) ≤ s + 1 by omega), cut_from60 s0, add60 (by rw [List.length_take, List.length_drop, List.length_map]; omega)]
      walk_at "go"
      refine ⟨ws.take (s + 1).toNat ++ ws.drop s.toNat, q, by rw [List.map_append, jl_app]; omega, fun u hu => wfg u (hsub u hu), fun u hu => wno u (hsub u hu), fun u hu => wasc u (hsub u hu), ?_⟩
      rw [List.map_append, List.map_take, List.map_drop]
    · have f0 := jl_take (a := ws.map TL.tl) s.toNat
      have f1 := jl_drop (a := ws.map TL.tl) (s + 1).toNat
      rw [← List.map_take] at f0
      rw [← List.map_drop] at f1
      have hsub : ∀ v ∈ ws.take s.toNat ++ ws.drop (s + 1).toNat, v ∈ ws := fun v hv => (List.mem_append.mp hv).elim (fun h => List.take_subset _ _ h) fun h => List.drop_subset _ _ h
      rw [cutD_lo s0, cut_from60 (show (0 : Int) ≤ s + 1 by omega), add60 (by rw [List.length_take, List.length_drop, List.length_map]; omega)]
      walk_at "go"
      refine ⟨ws.take s.toNat ++ ws.drop (s + 1).toNat, q, by rw [List.map_append, jl_app]; omega, fun u hu => wfg u (hsub u hu), fun u hu => wno u (hsub u hu), fun u hu => wasc u (hsub u hu), ?_⟩
      rw [List.map_append, List.map_take, List.map_drop]
    · exact ⟨ws, q, by omega, wfg, wno, wasc, rfl⟩
  rintro _ ⟨vs, q, hv1, hv2, hv3, hv4, rfl⟩
  obtain ⟨u1, u2, u3, u4⟩ := row_join hv1 hv2 hv3 hv4
  have jv := joinN (y := Str.ofString " ") (by decide +kernel) hv1 (by omega)
  generalize Txt.join (Str.ofString " ") vs = nw at *
  have hq : Rows (2 * L + 11) (2 * m + 3) (c + 1) (ps.set o.toNat nw) := hR'.put hyo u2 u3 u4 (by omega)
  refine ws_cut (fun e' => e' = [.o (pileT q), .o (.dat (.str t)), .o (.dat (.int w)), .o (.dat (.int a)), .o (.dat (.str sgnS)), .o (.dat (.str ⟨#[z]⟩)), .o (.own ((ps.set o.toNat nw).map .str)), .o (.dat (.int o)), .o (.dat (.int r)), .o (.own (vs.map .str)), .o (.dat (.int s)), .o (.own (odd15.map .str))]) ?_ ?_
  · walk_at "go"
    rw [jv]
    walk_at "go"
    rw [List.length_map, ixN61 o0 o1]
    walk_at "go"
    rw [List.map_set]
  rintro _ rfl
  have g1 := joinN (y := Str.ofString "\n") (by decide +kernel) hq.jl (by omega)
  have g2 := hq.tb
  generalize Txt.join (Str.ofString "\n") (ps.set o.toNat nw) = res at *
  have hgl := g2.len
  walk_at "go"
  rw [g1]
  walk_at "go"
  have ln : (Str.ofString "\n").length = 1 := by decide +kernel
  have le : Str.empty.length = 0 := rfl
  by_cases hw : w = 9
  · rw [if_pos hw, mulS_1]
    walk_at "go"
    rw [add_strs (by rw [ln, TL.len_tl]; omega)]
    walk_at "go"
    refine ⟨_, q, rfl, rfl, ?_⟩
    have e2 : TL.tl (res ++ Str.ofString "\n") = TL.tl res ++ [10] := by rw [TL.tl_append]; rfl
    refine ⟨by rw [e2, List.length_append, List.length_singleton]; omega, ?_, ?_, ?_⟩
    · rw [e2]
      exact runs_mono (by omega) (Nat.le_refl _) (runs_app (q := 0) (by rfl) (Nat.zero_le _) g2.fg)
    · rw [e2, List.count_append]
      have := g2.nl
      have e3 : ([10] : List Nat).count 10 = 1 := rfl
      omega
    · rw [e2]
      exact fun x hx => (List.mem_append.mp hx).elim (g2.asc x) fun z => by rw [List.mem_singleton.mp z]; decide
  · rw [if_neg hw, mulS_0]
    walk_at "go"
    rw [add_strs (by rw [le, TL.len_tl]; omega), app_empty]
    walk_at "go"
    exact ⟨_, q, rfl, rfl, g2.mono (by omega) (Nat.le_refl _) (by omega)⟩
end

section
/-! ### k63: lines drawn -/
def dns : List Int := [0, 1, 2, 3, 10, 25, -1, -12, 100000000000000000000, 7]
def dnL : List Int := dns.flatMap fun i => [i, i + 1, i + 2]
/-- a number's text -/
structure NumT (m : Nat) (i : Int) : Prop where
  len : (TL.tl (numS i)).length ≤ m
  fg : runs 21 0 (TL.tl (numS i)) = true
  no : 10 ∉ TL.tl (numS i)
  asc : ∀ x ∈ TL.tl (numS i), x < 128
  big : i.natAbs < 2 ^ 100
theorem dn_ok : ∀ i ∈ dnL, ((TL.tl (numS i)).length ≤ 21 ∧ runs 21 0 (TL.tl (numS i)) = true ∧ 10 ∉ TL.tl (numS i) ∧ (∀ x ∈ TL.tl (numS i), x < 128) ∧ i.natAbs < 2 ^ 100) ∧ ((TL.tl (numS i.natAbs)).length ≤ 21 ∧ runs 21 0 (TL.tl (numS i.natAbs)) = true ∧ 10 ∉ TL.tl (numS i.natAbs) ∧ ∀ x ∈ TL.tl (numS i.natAbs), x < 128) := by decide +kernel
theorem sm_ok : ∀ n : Nat, n < 14 → (TL.tl (numS (n : Int))).length ≤ 2 ∧ runs 21 0 (TL.tl (numS (n : Int))) = true ∧ 10 ∉ TL.tl (numS (n : Int)) ∧ ∀ x ∈ TL.tl (numS (n : Int)), x < 128 := by decide +kernel
theorem ten9 : NumT 10 1000000000 := by
  have : (TL.tl (numS 1000000000)).length ≤ 10 ∧ runs 21 0 (TL.tl (numS 1000000000)) = true ∧ 10 ∉ TL.tl (numS 1000000000) ∧ ∀ x ∈ TL.tl (numS 1000000000), x < 128 := by decide +kernel
  exact ⟨this.1, this.2.1, this.2.2.1, this.2.2.2, by decide⟩
theorem NumT.mono {m m' : Nat} {i : Int} (h : NumT m i) (hm : m ≤ m') : NumT m' i := ⟨Nat.le_trans h.len hm, h.fg, h.no, h.asc, h.big⟩
theorem dn_t {i : Int} (h : i ∈ dnL) : NumT 21 i := by
  obtain ⟨⟨a, b, c, d, e⟩, _⟩ := dn_ok i h
  exact ⟨a, b, c, d, e⟩
theorem dn_a {i : Int} (h : i ∈ dnL) : NumT 21 (i.natAbs : Int) := by
  obtain ⟨⟨_, _, _, _, e⟩, a, b, c, d⟩ := dn_ok i h
  exact ⟨a, b, c, d, by rw [Int.natAbs_natCast]; exact e⟩
theorem sm_t {i : Int} (h0 : 0 ≤ i) (h1 : i < 14) : NumT 2 i := by
  obtain ⟨n, rfl⟩ : ∃ n : Nat, i = n := ⟨i.toNat, by omega⟩
  obtain ⟨a, b, c, d⟩ := sm_ok n (by omega)
  exact ⟨a, b, c, d, by omega⟩
theorem dn_in {i k : Int} (h : i ∈ dns) (h0 : 0 ≤ k) (h1 : k < 3) : i + k ∈ dnL := by
  refine List.mem_flatMap.mpr ⟨i, h, ?_⟩
  obtain rfl | rfl | rfl : k = 0 ∨ k = 1 ∨ k = 2 := by omega
  · simp
  · simp
  · simp
local macro_rules | `(tactic| walk_at "sr") => `(tactic| simp -dsimp -implicitDefEqProofs only [mkNew_pile, isUn_pile])
theorem r_number {p : Int} : ∃ i q : Int, i ∈ dnL ∧ run 100000 (n + 2) ._law_drawn_number [pileT p] = .ret (.dat (.int i)) [pileT q] := by
  have et : ∀ p s : Int, 0 < s → s < 1000000 → ∃ d q : Int, 0 ≤ d ∧ d < s ∧ run 100000 (n + 1) ._law_take [pileT p, .dat (.int s)] = .ret (.dat (.int d)) [pileT q] := fun p s h0 h1 => l_take61 (n := n) h0 h1
  suffices hh : WR (run 100000 (n + 2) ._law_drawn_number [pileT p]) (fun r os => ∃ i q : Int, i ∈ dnL ∧ r = .dat (.int i) ∧ os = [pileT q]) fun _ _ => False by
    obtain ⟨r, os, e, i, q, hi, rfl, rfl⟩ := wr_iff hh
    exact ⟨i, q, hi, e⟩
  rw [en__law_drawn_number]
  unfold b__law_drawn_number
  rw [wr_fin]
  generalize run 100000 (n + 1) = Φ at *
  obtain ⟨d, q, d0, d1, e⟩ := et p 10 (by decide) (by decide)
  obtain ⟨k, q2, k0, k1, e2⟩ := et q 3 (by decide) (by decide)
  obtain ⟨i, hi, hi2⟩ := atI_mem61 (l := dns) d0 (by exact d1)
  have av : atI (dns.map PyData.int) d = some (.int i) := by
    rw [atI_nat d0, List.getElem?_map, ← atI_nat d0, hi2]
    rfl
  refine ws_cut (fun e' => e' = [.o (pileT q), .o (.dat (.int i))]) ?_ ?_
  · walk_at "go"
    rw [pow_int, if_pos (by decide)]
    walk_at "go"
    rw [e]
    walk_at "go"
    rw [show [PyData.int 0, .int 1, .int 2, .int 3, .int 10, .int 25, .int (-1), .int (-12), .int (10 ^ Int.toNat 20), .int 7] = dns.map .int from rfl, av]
    walk_at "go"
  rintro _ rfl
  walk_at "go"
  rw [e2]
  walk_at "go"
  exact ⟨_, q2, dn_in hi k0 k1, rfl, rfl⟩
end

section
def madeP (d : List PyData) : Prop := d = [.str (Str.ofString "none")] ∨ ∃ k t n, (k = Str.ofString "free" ∨ k = Str.ofString "due") ∧ 0 ≤ t ∧ t < 14 ∧ n ∈ dnL ∧ d = [.str k, .int t, .int n]
structure PartP (p : Int × Option Int) : Prop where
  a0 : 0 ≤ p.1
  a1 : p.1 < 14
  b : ∀ i, p.2 = some i → NumT 10 i
def elP (d : PyData) : Prop := (∃ i, NumT 21 i ∧ d = .int i) ∨ ∃ ps : List (Int × Option Int), ps.length ≤ 4 ∧ (∀ p ∈ ps, PartP p) ∧ d = .tuple (ps.map ptD)
def wtD : PyData → Nat
  | .tuple ps => 16 * ps.length
  | _ => 22
def kinds : List Str := [Str.ofString "given", Str.ofString "later", Str.ofString "weaker", Str.ofString "sooner", Str.ofString "full"]
def whyP (d : List PyData) : Prop := ∃ k ys, d = .str k :: ys ∧ k ∈ kinds ∧ (∀ y ∈ ys, elP y) ∧ (ys.map wtD).sum ≤ 108 ∧ ys.length ≤ 3
def lineP2 (d : PyData) : Prop := ∃ m w, madeP m ∧ whyP w ∧ d = .tuple [.tuple m, .tuple w]
theorem abs_dn {i : Int} : (if i < 0 then -i else i) = (i.natAbs : Int) := by split <;> omega
local macro_rules | `(tactic| walk_at "sr") => `(tactic| simp -dsimp -implicitDefEqProofs only [mkNew_pile, isUn_pile])
theorem r_line {p : Int} : ∃ (d : PyData) (q : Int), lineP2 d ∧ run 100000 (n + 3) ._law_drawn_line [pileT p] = .ret (.dat d) [pileT q] := by
  have et : ∀ p s : Int, 0 < s → s < 1000000 → ∃ d q : Int, 0 ≤ d ∧ d < s ∧ run 100000 (n + 2) ._law_take [pileT p, .dat (.int s)] = .ret (.dat (.int d)) [pileT q] := fun p s h0 h1 => l_take61 (n := n + 1) h0 h1
  have en : ∀ p, ∃ i q : Int, i ∈ dnL ∧ run 100000 (n + 2) ._law_drawn_number [pileT p] = .ret (.dat (.int i)) [pileT q] := fun p => r_number (n := n)
  suffices hh : WR (run 100000 (n + 3) ._law_drawn_line [pileT p]) (fun r os => ∃ (d : PyData) (q : Int), lineP2 d ∧ r = .dat d ∧ os = [pileT q]) fun _ _ => False by
    obtain ⟨r, os, e, d, q, hi, rfl, rfl⟩ := wr_iff hh
    exact ⟨d, q, hi, e⟩
  rw [en__law_drawn_line]
  unfold b__law_drawn_line
  rw [wr_fin]
  generalize run 100000 (n + 2) = Φ at *
  obtain ⟨t, q, t0, t1, e⟩ := et p 14 (by decide) (by decide)
  refine ws_cut (fun e' => e' = [.o (pileT q), .o (.dat (.int t)), .o .un, .o .un, .o .un, .o .un, .o .un, .o .un, .o .un]) ?_ ?_
  · walk_at "go"
    rw [e]
    walk_at "go"
  rintro _ rfl
  clear e
  refine ws_cut (fun e' => ∃ m q, madeP m ∧ e' = [.o (pileT q), .o (.dat (.int t)), .o (.dat (.tuple m)), .o .un, .o .un, .o .un, .o .un, .o .un, .o .un]) ?_ ?_
  · obtain ⟨n1, q1, h1, e1⟩ := en q
    obtain ⟨n2, q2, h2, e2⟩ := en q1
    obtain ⟨d, q3, d0, d1, e3⟩ := et q2 3 (by decide) (by decide)
    walk_at "go"
    rw [e1]
    walk_at "go"
    rw [e2]
    walk_at "go"
    rw [e3]
    walk_at "go"
    obtain rfl | rfl | rfl : d = 0 ∨ d = 1 ∨ d = 2 := by omega
    · walk_at "go"
      exact ⟨_, _, .inr ⟨_, t, n1, .inl rfl, t0, t1, h1, rfl⟩, rfl⟩
    · walk_at "go"
      exact ⟨_, _, .inr ⟨_, t, n2, .inr rfl, t0, t1, h2, rfl⟩, rfl⟩
    · walk_at "go"
      exact ⟨_, _, .inl rfl, rfl⟩
  rintro _ ⟨m, q, hm, rfl⟩
  obtain ⟨n1, q1, h1, e1⟩ := en q
  refine ws_cut (fun e' => e' = [.o (pileT q1), .o (.dat (.int t)), .o (.dat (.tuple m)), .o (.dat (.int n1.natAbs)), .o .un, .o .un, .o .un, .o .un, .o .un]) ?_ ?_
  · walk_at "go"
    rw [e1]
    walk_at "go"
    rw [show absF (.int n1) = some (.dat (.int n1.natAbs)) by show some (Rz.dat (.int (if n1 < 0 then -n1 else n1))) = _; rw [abs_dn]]
    walk_at "go"
  rintro _ rfl
  refine ws_cut (fun e' => e' = [.o (pileT q1), .o (.dat (.int t)), .o (.dat (.tuple m)), .o (.dat (.int n1.natAbs)), .o (.own []), .o .un, .o .un, .o .un, .o .un]) ?_ ?_
  · walk_at "go"
  rintro _ rfl
  refine ws_cut (fun e' => ∃ (ps : List (Int × Option Int)) (q : Int) (x5 : Tr), ps.length ≤ 4 ∧ (∀ p ∈ ps, PartP p) ∧ e' = [.o (pileT q), .o (.dat (.int t)), .o (.dat (.tuple m)), .o (.dat (.int n1.natAbs)), .o (.own (ps.map ptD)), .o x5, .o .un, .o .un, .o .un]) ?_ ?_
  · obtain ⟨d, q2, d0, d1, e2⟩ := et q1 5 (by decide) (by decide)
    walk_at "go"
    rw [e2]
    walk_at "go"
    refine ⟨⟨by omega, by omega⟩, ?_⟩
    refine ws_forF (fun i e' => ∃ (ps : List (Int × Option Int)) (q : Int) (x5 : Tr), ps.length = i ∧ (∀ p ∈ ps, PartP p) ∧ e' = [.o (pileT q), .o (.dat (.int t)), .o (.dat (.tuple m)), .o (.dat (.int n1.natAbs)), .o (.own (ps.map ptD)), .o x5, .o .un, .o .un, .o .un]) ⟨[], q2, .un, rfl, fun _ h => (nomatch h), rfl⟩ ?_ ?_
    · rintro i e' k hk ⟨ps, q, x5, hl, hp, rfl⟩
      obtain ⟨hi, rfl⟩ := rngL_at hk
      obtain ⟨a, q3, a0, a1, e3⟩ := et q 12 (by decide) (by decide)
      obtain ⟨b, q4, b0, b1, e4⟩ := et q3 12 (by decide) (by decide)
      obtain ⟨c, q5, c0, c1, e5⟩ := et q4 3 (by decide) (by decide)
      have key : ∀ o : Option Int, (∀ i, o = some i → NumT 10 i) → ∀ p ∈ ps ++ [(a, o)], PartP p := fun o ho p hp' => (List.mem_append.mp hp').elim (hp p) fun z => by
        rw [List.mem_singleton.mp z]
        exact ⟨a0, by show a < 14; omega, ho⟩
      walk_at "go"
      rw [e3]
      walk_at "go"
      rw [e4]
      walk_at "go"
      rw [pow_int, if_pos (by decide)]
      walk_at "go"
      rw [e5]
      walk_at "go"
      obtain rfl | rfl | rfl : c = 0 ∨ c = 1 ∨ c = 2 := by omega
      · walk_at "go"
        refine ⟨by rw [List.length_map]; omega, ps ++ [(a, none)], q5, .dat (.int (0 + (i : Int))), by rw [List.length_append, List.length_singleton]; omega, key none fun _ h => (nomatch h), ?_⟩
        rw [List.map_append]
        rfl
      · walk_at "go"
        refine ⟨by rw [List.length_map]; omega, ps ++ [(a, some b)], q5, .dat (.int (0 + (i : Int))), by rw [List.length_append, List.length_singleton]; omega, key (some b) fun i h => by cases h; exact (sm_t b0 (by omega)).mono (by decide), ?_⟩
        rw [List.map_append]
        rfl
      · walk_at "go"
        refine ⟨by rw [List.length_map]; omega, ps ++ [(a, some 1000000000)], q5, .dat (.int (0 + (i : Int))), by rw [List.length_append, List.length_singleton]; omega, key (some 1000000000) fun i h => by cases h; exact ten9, ?_⟩
        rw [List.map_append]
        rfl
    · rintro _ ⟨ps, q, x5, hl, hp, rfl⟩
      rw [rngL_0] at hl
      exact ⟨ps, q, x5, by omega, hp, rfl⟩
  rintro _ ⟨ps, q, x5, hl, hp, rfl⟩
  obtain ⟨n2, q2, h2, e2⟩ := en q
  refine ws_cut (fun e' => e' = [.o (pileT q2), .o (.dat (.int t)), .o (.dat (.tuple m)), .o (.dat (.int n1.natAbs)), .o (.own (ps.map ptD)), .o x5, .o (.dat (.int n2)), .o .un, .o .un]) ?_ ?_
  · walk_at "go"
    rw [e2]
    walk_at "go"
  rintro _ rfl
  obtain ⟨n3, q3, h3, e3⟩ := en q2
  refine ws_cut (fun e' => e' = [.o (pileT q3), .o (.dat (.int t)), .o (.dat (.tuple m)), .o (.dat (.int n1.natAbs)), .o (.own (ps.map ptD)), .o x5, .o (.dat (.int n2)), .o (.dat (.int n3)), .o .un]) ?_ ?_
  · walk_at "go"
    rw [e3]
    walk_at "go"
  rintro _ rfl
  refine ws_cut (fun e' => ∃ ws : List (List PyData), ws.length = 5 ∧ (∀ w ∈ ws, whyP w) ∧ e' = [.o (pileT q3), .o (.dat (.int t)), .o (.dat (.tuple m)), .o (.dat (.int n1.natAbs)), .o (.own (ps.map ptD)), .o x5, .o (.dat (.int n2)), .o (.dat (.int n3)), .o (.own (ws.map .tuple))]) ?_ ?_
  · walk_at "go"
    have E1 : elP (.int n1.natAbs) := .inl ⟨_, dn_a h1, rfl⟩
    have E2 : elP (.int n2) := .inl ⟨_, dn_t h2, rfl⟩
    have E3 : elP (.int n3) := .inl ⟨_, dn_t h3, rfl⟩
    have E4 : elP (.tuple (ps.map ptD)) := .inr ⟨ps, hl, hp, rfl⟩
    have W4 : wtD (.tuple (ps.map ptD)) ≤ 64 := by show 16 * (ps.map ptD).length ≤ 64; rw [List.length_map]; omega
    refine ⟨[[.str (Str.ofString "given")], [.str (Str.ofString "later"), .int n1.natAbs], [.str (Str.ofString "weaker"), .int n1.natAbs], [.str (Str.ofString "sooner"), .int n3, .tuple (ps.map ptD)], [.str (Str.ofString "full"), .int n2, .int n3, .tuple (ps.map ptD)]], rfl, ?_, rfl⟩
    intro w hw
    simp only [List.mem_cons, List.not_mem_nil, or_false] at hw
    rcases hw with rfl | rfl | rfl | rfl | rfl
    · exact ⟨_, [], rfl, by simp [kinds], fun _ h => (nomatch h), by simp, by simp⟩
    · exact ⟨_, [_], rfl, by simp [kinds], fun y hy => by rw [List.mem_singleton.mp hy]; exact E1, by simp [wtD], by simp⟩
    · exact ⟨_, [_], rfl, by simp [kinds], fun y hy => by rw [List.mem_singleton.mp hy]; exact E1, by simp [wtD], by simp⟩
    · refine ⟨_, [_, _], rfl, by simp [kinds], fun y hy => ?_, ?_, by simp⟩
      · simp only [List.mem_cons, List.not_mem_nil, or_false] at hy
        rcases hy with rfl | rfl
        · exact E3
        · exact E4
      · show 22 + (wtD (.tuple (ps.map ptD)) + 0) ≤ 108
        omega
    · refine ⟨_, [_, _, _], rfl, by simp [kinds], fun y hy => ?_, ?_, by simp⟩
      · simp only [List.mem_cons, List.not_mem_nil, or_false] at hy
        rcases hy with rfl | rfl | rfl
        · exact E2
        · exact E3
        · exact E4
      · show 22 + (22 + (wtD (.tuple (ps.map ptD)) + 0)) ≤ 108
        omega
  rintro _ ⟨ws, hwl, hw, rfl⟩
  obtain ⟨d, q4, d0, d1, e4⟩ := et q3 5 (by decide) (by decide)
  obtain ⟨w, hw1, hw2⟩ := atI_mem61 (l := ws) d0 (by rw [hwl]; exact d1)
  walk_at "go"
  rw [e4]
  walk_at "go"
  rw [show atI (ws.map PyData.tuple) d = some (.tuple w) by
    rw [atI_nat d0] at hw2 ⊢
    rw [List.getElem?_map, hw2]
    rfl]
  walk_at "go"
  exact ⟨_, q4, ⟨m, w, hm, hw w hw1, rfl⟩, rfl, rfl⟩
end

section
/-! ### k63: a drawn line's text -/
structure Wk (B : Nat) (ws : List Str) : Prop where
  jl : jl (ws.map TL.tl) ≤ B
  fg : ∀ w ∈ ws, runs 21 0 (TL.tl w) = true
  no : ∀ w ∈ ws, 10 ∉ TL.tl w
  asc : ∀ w ∈ ws, ∀ x ∈ TL.tl w, x < 128
theorem Wk.len {B : Nat} {ws : List Str} (h : Wk B ws) : ws.length ≤ B := by
  have := h.jl
  unfold R.jl at this
  rw [List.length_map] at this
  omega
theorem Wk.mono {B B' : Nat} {ws : List Str} (h : Wk B ws) (hb : B ≤ B') : Wk B' ws := ⟨Nat.le_trans h.jl hb, h.fg, h.no, h.asc⟩
/-- what is known of a word -/
structure W1 (m : Nat) (w : Str) : Prop where
  len : (TL.tl w).length ≤ m
  fg : runs 21 0 (TL.tl w) = true
  no : 10 ∉ TL.tl w
  asc : ∀ x ∈ TL.tl w, x < 128
theorem Wk.add {B b : Nat} {ws : List Str} {w : Str} (h : Wk B ws) (k : W1 b w) : Wk (B + b + 1) (ws ++ [w]) := ⟨by
    rw [List.map_append, jl_app, List.map_cons, List.map_nil, jl_cons]
    have := h.jl
    have := k.len
    show _ + (_ + 1 + 0) ≤ _
    omega, fun v hv => (List.mem_append.mp hv).elim (h.fg v) fun z => by rw [List.mem_singleton.mp z]; exact k.fg, fun v hv => (List.mem_append.mp hv).elim (h.no v) fun z => by rw [List.mem_singleton.mp z]; exact k.no, fun v hv => (List.mem_append.mp hv).elim (h.asc v) fun z => by rw [List.mem_singleton.mp z]; exact k.asc⟩
theorem wk_nil : Wk 0 [] := ⟨Nat.le_refl _, fun _ h => (nomatch h), fun _ h => (nomatch h), fun _ h => nomatch h⟩
theorem NumT.w {m : Nat} {i : Int} (h : NumT m i) : W1 m (numS i) := ⟨h.len, h.fg, h.no, h.asc⟩
theorem head_w : ∀ k : Nat, k < 10 → (TL.tl (headS k)).length ≤ 3 ∧ runs 21 0 (TL.tl (headS k)) = true ∧ 10 ∉ TL.tl (headS k) ∧ ∀ x ∈ TL.tl (headS k), x < 128 := by decide +kernel
theorem kind_w : ∀ k ∈ [Str.ofString "none", Str.ofString "free", Str.ofString "due", Str.ofString "given", Str.ofString "later", Str.ofString "weaker", Str.ofString "sooner", Str.ofString "full"], (TL.tl k).length ≤ 6 ∧ runs 21 0 (TL.tl k) = true ∧ 10 ∉ TL.tl k ∧ ∀ x ∈ TL.tl k, x < 128 := by decide +kernel
theorem sign_w : ∀ k ∈ [Str.ofString ">=", Str.ofString "<="], (TL.tl k).length ≤ 2 ∧ runs 21 0 (TL.tl k) = true ∧ 10 ∉ TL.tl k ∧ ∀ x ∈ TL.tl k, x < 128 := by decide +kernel
theorem w1_of {m : Nat} {w : Str} (h : (TL.tl w).length ≤ m ∧ runs 21 0 (TL.tl w) = true ∧ 10 ∉ TL.tl w ∧ ∀ x ∈ TL.tl w, x < 128) : W1 m w := ⟨h.1, h.2.1, h.2.2.1, h.2.2.2⟩
theorem strB_int {i : Int} (h : i.natAbs < 2 ^ 100) : strBF (.int i) = some (.str (numS i)) := by
  show (if bigB i then some (PyData.str (Str.ofString (toString i))) else none) = _
  have hb : bigB i = true := decide_eq_true (Nat.lt_of_lt_of_le h (Nat.pow_le_pow_right (by decide) (by decide)))
  exact if_pos hb
def partS (p : Int × Option Int) : Str := (((Str.ofString "(" ++ numS p.1) ++ Str.ofString ",") ++ (match p.2 with
  | some i => numS i
  | none => Str.empty)) ++ Str.ofString ")"
theorem part_w {p : Int × Option Int} (h : PartP p) : W1 15 (partS p) := by
  obtain ⟨a, o⟩ := p
  have h1 := (sm_t h.a0 h.a1).w
  have hb := h.b
  have h1 : W1 2 (numS a) := h1
  have e1 : TL.tl (Str.ofString "(") = [40] := by decide +kernel
  have e2 : TL.tl (Str.ofString ",") = [44] := by decide +kernel
  have e3 : TL.tl (Str.ofString ")") = [41] := by decide +kernel
  have h2 : ∃ x, W1 10 x ∧ partS (a, o) = (((Str.ofString "(" ++ numS a) ++ Str.ofString ",") ++ x) ++ Str.ofString ")" := by
    cases o with
    | none => exact ⟨Str.empty, ⟨Nat.zero_le _, rfl, fun z => (nomatch z), fun _ z => (nomatch z)⟩, rfl⟩
    | some i => exact ⟨numS i, (hb i rfl).w, rfl⟩
  obtain ⟨x, hx, e⟩ := h2
  have e4 : TL.tl (partS (a, o)) = 40 :: (TL.tl (numS a) ++ 44 :: (TL.tl x ++ 41 :: [])) := by
    rw [e, TL.tl_append, TL.tl_append, TL.tl_append, TL.tl_append, e1, e2, e3]
    simp
  refine ⟨?_, ?_, ?_, ?_⟩
  · rw [e4, List.length_cons, List.length_append, List.length_cons, List.length_append, List.length_singleton]
    have := h1.len
    have := hx.len
    omega
  · rw [e4, runs_not (by rfl), runs_sep (by rfl), runs_sep (by rfl), h1.fg, hx.fg]
    rfl
  · rw [e4]
    intro hm
    rcases List.mem_cons.mp hm with z | z
    · cases z
    rcases List.mem_append.mp z with z | z
    · exact h1.no z
    rcases List.mem_cons.mp z with z | z
    · cases z
    rcases List.mem_append.mp z with z | z
    · exact hx.no z
    · exact absurd (List.mem_singleton.mp z) (by decide)
  · rw [e4]
    intro v hm
    rcases List.mem_cons.mp hm with rfl | z
    · decide
    rcases List.mem_append.mp z with z | z
    · exact h1.asc v z
    rcases List.mem_cons.mp z with rfl | z
    · decide
    rcases List.mem_append.mp z with z | z
    · exact hx.asc v z
    · rw [List.mem_singleton.mp z]; decide
theorem ins3 {a b c d x : Str} : mtF .insert [PyData.str a, .str b, .str c, .str d] [.int 3, .str x] = some ([PyData.str a, .str b, .str c, .str x, .str d], .none) := by
  show (if lenOk 4 && decide ((0 : Int) ≤ 3) && decide ((3 : Int) ≤ (4 : Nat)) then some (_, PyData.none) else none) = _
  rw [if_pos (by decide)]
  rfl
theorem l_line_text {d : PyData} {k : Nat} (h : lineP2 d) (hk : k < 10) : ∃ t : Str, W1 154 t ∧ run 100000 (n + 1) ._law_line_text [.dat (.int (k : Int)), .dat d] = .ret (.dat (.str t)) [] := by
  suffices hh : WR (run 100000 (n + 1) ._law_line_text [.dat (.int (k : Int)), .dat d]) (fun r os => ∃ t : Str, W1 154 t ∧ r = .dat (.str t) ∧ os = []) fun _ _ => False by
    obtain ⟨r, os, e, t, ht, rfl, rfl⟩ := wr_iff hh
    exact ⟨t, ht, e⟩
  obtain ⟨m, w, hm, hw, rfl⟩ := h
  have e3 := strI_head (k := k) (by omega)
  have e4 := head_add (k := k) (by omega)
  have hd := w1_of (head_w k hk)
  rw [en__law_line_text]
  unfold b__law_line_text
  rw [wr_fin]
  generalize run 100000 n = Φ at *
  refine ws_cut (fun e' => e' = [.o (.dat (.int (k : Int))), .o (.dat (.tuple [.tuple m, .tuple w])), .o (.dat (.tuple m)), .o (.dat (.tuple w)), .o .un, .o .un, .o .un, .o .un]) ?_ ?_
  · walk_at "go"
  rintro _ rfl
  -- the statement
  refine ws_cut (fun e' => ((m = [.str (Str.ofString "none")] ∧ e' = [.o (.dat (.int (k : Int))), .o (.dat (.tuple [.tuple m, .tuple w])), .o (.dat (.tuple m)), .o (.dat (.tuple w)), .o (.own ([headS k, Str.ofString "none"].map .str)), .o .un, .o .un, .o .un]) ∨ ∃ kd t u, (kd = Str.ofString "free" ∨ kd = Str.ofString "due") ∧ 0 ≤ t ∧ t < 14 ∧ u ∈ dnL ∧ m = [.str kd, .int t, .int u] ∧ e' = [.o (.dat (.int (k : Int))), .o (.dat (.tuple [.tuple m, .tuple w])), .o (.dat (.tuple m)), .o (.dat (.tuple w)), .o (.own ([headS k, kd, numS t, numS u].map .str)), .o .un, .o .un, .o .un])) ?_ ?_
  · rcases hm with rfl | ⟨kd, t, u, hkd, t0, t1, hu, rfl⟩
    · walk_at "go"
      rw [e3]
      walk_at "go"
      rw [e4]
      walk_at "go"
      refine we_lcM (fun d => d) (by decide) (fun d hd' => ?_) ?_
      · rw [List.mem_singleton.mp hd']
        walk_at "go"
        rw [show strBF (.str (Str.ofString "none")) = some (.str (Str.ofString "none")) from rfl]
        walk_at "go"
      walk_at "go"
      rw [add60 (by show 1 + 1 ≤ 1000000; decide)]
      walk_at "go"
      exact .inl rfl
    · have st := strB_int (sm_t t0 t1).big
      have su := strB_int (dn_t hu).big
      walk_at "go"
      rw [e3]
      walk_at "go"
      rw [e4]
      walk_at "go"
      refine we_lcM (fun d => match d with | .int i => .str (numS i) | d => d) (show 3 ≤ 1000000 by decide) (fun d hd' => ?_) ?_
      · simp only [List.mem_cons, List.not_mem_nil, or_false] at hd'
        rcases hd' with rfl | rfl | rfl
        · walk_at "go"
          rw [show strBF (.str kd) = some (.str kd) from rfl]
          walk_at "go"
        · walk_at "go"
          rw [st]
          walk_at "go"
        · walk_at "go"
          rw [su]
          walk_at "go"
      walk_at "go"
      rw [add60 (by show 1 + 3 ≤ 1000000; decide)]
      walk_at "go"
      exact .inr ⟨kd, t, u, hkd, t0, t1, hu, rfl, rfl⟩
  intro e0 h0
  refine ws_cut (fun e' => ∃ ws, Wk 39 ws ∧ e' = [.o (.dat (.int (k : Int))), .o (.dat (.tuple [.tuple m, .tuple w])), .o (.dat (.tuple m)), .o (.dat (.tuple w)), .o (.own (ws.map .str)), .o .un, .o .un, .o .un]) ?_ ?_
  · rcases h0 with ⟨rfl, rfl⟩ | ⟨kd, t, u, hkd, t0, t1, hu, rfl, rfl⟩
    · walk_at "go"
      exact ⟨_, ((wk_nil.add hd).add (w1_of (kind_w _ List.mem_cons_self))).mono (by decide), rfl⟩
    · have hn : kd ≠ Str.ofString "none" := by rcases hkd with rfl | rfl <;> decide +kernel
      have hs : atI [PyData.str (Str.ofString ">="), PyData.str (Str.ofString "<=")] (if kd = Str.ofString "due" then 1 else 0) = some (.str (signS kd)) := by
        unfold signS
        by_cases c : kd = Str.ofString "due"
        · rw [if_pos c, if_pos c]; rfl
        · rw [if_neg c, if_neg c]; rfl
      have hsw : W1 2 (signS kd) := w1_of (sign_w _ (by unfold signS; split <;> simp))
      rw [show [headS k, kd, numS t, numS u].map PyData.str = [.str (headS k), .str kd, .str (numS t), .str (numS u)] from rfl]
      walk_at "go"
      refine ⟨fun z => absurd z hn, fun _ => ?_⟩
      rw [hs]
      walk_at "go"
      rw [ins3]
      walk_at "go"
      exact ⟨[headS k, kd, numS t, signS kd, numS u], (((((wk_nil.add hd).add (w1_of (kind_w kd (by rcases hkd with rfl | rfl <;> simp)))).add (sm_t t0 t1).w).add hsw).add (dn_t hu).w).mono (by decide), rfl⟩
  rintro _ ⟨ws, hws, rfl⟩
  obtain ⟨kd, ys, rfl, hkd, hys, hsum, hyl⟩ := hw
  have hkw : W1 6 kd := w1_of (kind_w kd (by unfold kinds at hkd; simp only [List.mem_cons, List.not_mem_nil, or_false] at hkd ⊢; rcases hkd with rfl | rfl | rfl | rfl | rfl <;> simp))
  refine ws_cut (fun e' => ∃ ws, Wk 46 ws ∧ e' = [.o (.dat (.int (k : Int))), .o (.dat (.tuple [.tuple m, .tuple (.str kd :: ys)])), .o (.dat (.tuple m)), .o (.dat (.tuple (.str kd :: ys))), .o (.own (ws.map .str)), .o .un, .o .un, .o .un]) ?_ ?_
  · walk_at "go"
    refine ⟨by rw [List.length_map]; have := hws.len; omega, ws ++ [kd], hws.add hkw, ?_⟩
    rw [List.map_append]
    rfl
  clear hws ws
  rintro _ ⟨ws, hws, rfl⟩
  refine ws_cut (fun e' => ∃ (ws : List Str) (x5 x6 x7 : Tr), Wk 154 ws ∧ e' = [.o (.dat (.int (k : Int))), .o (.dat (.tuple [.tuple m, .tuple (.str kd :: ys)])), .o (.dat (.tuple m)), .o (.dat (.tuple (.str kd :: ys))), .o (.own (ws.map .str)), .o x5, .o x6, .o x7]) ?_ ?_
  · walk_at "go"
    rw [cut60]
    refine ws_forF (fun i e' => ∃ (ws : List Str) (x5 x6 x7 : Tr), Wk (46 + ((ys.take i).map wtD).sum) ws ∧ e' = [.o (.dat (.int (k : Int))), .o (.dat (.tuple [.tuple m, .tuple (.str kd :: ys)])), .o (.dat (.tuple m)), .o (.dat (.tuple (.str kd :: ys))), .o (.own (ws.map .str)), .o x5, .o x6, .o x7]) ⟨ws, .un, .un, .un, hws, rfl⟩ ?_ ?_
    · rintro i _ d hd ⟨ws, x5, x6, x7, hws, rfl⟩
      obtain ⟨hi, hdi⟩ := List.getElem?_eq_some_iff.mp hd
      have hsi : ((ys.take (i + 1)).map wtD).sum = ((ys.take i).map wtD).sum + wtD d := by
        rw [List.take_succ, hd, List.map_append, List.sum_append]
        rfl
      have hsle : ((ys.take i).map wtD).sum ≤ (ys.map wtD).sum := by
        have := congrArg (fun l : List PyData => (l.map wtD).sum) (List.take_append_drop i ys)
        rw [List.map_append, List.sum_append] at this
        omega
      have hwl := hws.len
      rcases hys d (List.mem_of_getElem? hd) with ⟨v, hv, rfl⟩ | ⟨ps, hpl, hps, rfl⟩
      · have sv := strB_int hv.big
        walk_at "go"
        rw [sv]
        walk_at "go"
        refine ⟨by rw [List.length_map]; omega, ws ++ [numS v], .dat (.int v), x6, x7, (hws.add hv.w).mono (by rw [hsi]; show _ ≤ _ + (_ + 22); omega), ?_⟩
        rw [List.map_append]
        rfl
      · have hbs : ∀ p ∈ ps, strBF (dueD p.2) = some (.str (match p.2 with | some i => numS i | none => Str.ofString "None")) := fun p hp => by
          cases h2 : p.2 with
          | none => rfl
          | some i => exact strB_int ((hps p hp).b i h2).big
        have hst : ∀ p ∈ ps, strIF (.int p.1) = some (.dat (.str (numS p.1))) := fun p hp => strI_int (by have := (hps p hp).a0; have := (hps p hp).a1; omega)
        walk_at "go"
        refine ws_forMap (l := ps) (q := ptD) (fun i2 e' => ∃ (ws2 : List Str) (x6 x7 : Tr), Wk (46 + ((ys.take i).map wtD).sum + 16 * i2) ws2 ∧ e' = [.o (.dat (.int (k : Int))), .o (.dat (.tuple [.tuple m, .tuple (.str kd :: ys)])), .o (.dat (.tuple m)), .o (.dat (.tuple (.str kd :: ys))), .o (.own (ws2.map .str)), .o (.dat (.tuple (ps.map ptD))), .o x6, .o x7]) ⟨ws, x6, x7, hws, rfl⟩ ?_ ?_
        · rintro i2 _ p hp2 ⟨ws2, x6, x7, hw2, rfl⟩
          have hp := List.mem_of_getElem? hp2
          have hi2 := (List.getElem?_eq_some_iff.mp hp2).1
          have P := hps p hp
          have hb := hbs p hp
          have hs := hst p hp
          have pw := part_w P
          have hwl2 := hw2.len
          have la := (sm_t P.a0 P.a1).len
          obtain ⟨a, o⟩ := p
          rw [show ptD (a, o) = .tuple [.int a, dueD o] from rfl]
          have hs : strIF (.int a) = some (.dat (.str (numS a))) := hs
          have la : (TL.tl (numS a)).length ≤ 2 := la
          have f1 : addF (.str (Str.ofString "(")) (.str (numS a)) = some (.dat (.str (Str.ofString "(" ++ numS a))) := add_strs (by rw [TL.len_tl, TL.len_tl, show (TL.tl (Str.ofString "(")).length = 1 by decide +kernel]; omega)
          have f2 : addF (.str (Str.ofString "(" ++ numS a)) (.str (Str.ofString ",")) = some (.dat (.str ((Str.ofString "(" ++ numS a) ++ Str.ofString ","))) := add_strs (by rw [app_len, TL.len_tl, TL.len_tl, TL.len_tl, show (TL.tl (Str.ofString "(")).length = 1 by decide +kernel, show (TL.tl (Str.ofString ",")).length = 1 by decide +kernel]; omega)
          have f3 : ∀ x : Str, (TL.tl x).length ≤ 10 → addF (.str ((Str.ofString "(" ++ numS a) ++ Str.ofString ",")) (.str x) = some (.dat (.str (((Str.ofString "(" ++ numS a) ++ Str.ofString ",") ++ x))) ∧ addF (.str (((Str.ofString "(" ++ numS a) ++ Str.ofString ",") ++ x)) (.str (Str.ofString ")")) = some (.dat (.str ((((Str.ofString "(" ++ numS a) ++ Str.ofString ",") ++ x) ++ Str.ofString ")"))) := fun x hx => ⟨add_strs (by rw [app_len, app_len, TL.len_tl, TL.len_tl, TL.len_tl, TL.len_tl, show (TL.tl (Str.ofString "(")).length = 1 by decide +kernel, show (TL.tl (Str.ofString ",")).length = 1 by decide +kernel]; omega), add_strs (by rw [app_len, app_len, app_len, TL.len_tl, TL.len_tl, TL.len_tl, TL.len_tl, TL.len_tl, show (TL.tl (Str.ofString "(")).length = 1 by decide +kernel, show (TL.tl (Str.ofString ",")).length = 1 by decide +kernel, show (TL.tl (Str.ofString ")")).length = 1 by decide +kernel]; omega)⟩
          cases o with
          | none =>
            obtain ⟨f3, f4⟩ := f3 Str.empty (Nat.zero_le _)
            have hb : strBF .none = some (.str (Str.ofString "None")) := rfl
            rw [show dueD none = PyData.none from rfl]
            walk_at "go"
            rw [hs]
            walk_at "go"
            rw [f1]
            walk_at "go"
            rw [f2]
            walk_at "go"
            rw [hb]
            walk_at "go"
            rw [f3]
            walk_at "go"
            rw [f4]
            walk_at "go"
            refine ⟨by rw [List.length_map]; omega, ws2 ++ [partS (a, none)], .dat (.int a), .dat .none, (hw2.add pw).mono (by omega), ?_⟩
            rw [List.map_append]
            rfl
          | some u =>
            have hb : strBF (.int u) = some (.str (numS u)) := hb
            obtain ⟨f3, f4⟩ := f3 (numS u) (P.b u rfl).len
            rw [show dueD (some u) = PyData.int u from rfl]
            walk_at "go"
            rw [hs]
            walk_at "go"
            rw [f1]
            walk_at "go"
            rw [f2]
            walk_at "go"
            rw [hb]
            walk_at "go"
            rw [f3]
            walk_at "go"
            rw [f4]
            walk_at "go"
            refine ⟨by rw [List.length_map]; omega, ws2 ++ [partS (a, some u)], .dat (.int a), .dat (.int u), (hw2.add pw).mono (by omega), ?_⟩
            rw [List.map_append]
            rfl
        · rintro _ ⟨ws2, x6, x7, hw2, rfl⟩
          exact ⟨ws2, _, x6, x7, hw2.mono (by rw [hsi]; show _ ≤ _ + (_ + 16 * (ps.map ptD).length); rw [List.length_map]; omega), rfl⟩
    · rintro _ ⟨ws, x5, x6, x7, hws, rfl⟩
      rw [List.take_length] at hws
      exact ⟨ws, x5, x6, x7, hws.mono (by omega), rfl⟩
  rintro _ ⟨ws, x5, x6, x7, hws, rfl⟩
  have jv := joinN (y := Str.ofString " ") (by decide +kernel) hws.jl (by decide)
  obtain ⟨u1, u2, u3, u4⟩ := row_join hws.jl hws.fg hws.no hws.asc
  walk_at "go"
  rw [jv]
  walk_at "go"
  exact ⟨_, ⟨u1, u2, u3, u4⟩, rfl⟩
end

section
/-! ### k63: the law -/
theorem rows_tb {L c m : Nat} {ps : List Str} (h : ∀ p ∈ ps, (TL.tl p).length ≤ L ∧ runs m 0 (TL.tl p) = true ∧ 10 ∉ TL.tl p ∧ ∀ x ∈ TL.tl p, x < 128) (hc : ps.length ≤ c) : Rows (c * (L + 1)) m c ps := by
  refine ⟨?_, fun p hp => (h p hp).2.1, fun p hp => (h p hp).2.2.1, fun p hp => (h p hp).2.2.2, hc⟩
  have key : ∀ l : List Str, (∀ p ∈ l, (TL.tl p).length ≤ L) → jl (l.map TL.tl) ≤ l.length * (L + 1) := by
    intro l
    induction l with
    | nil => intro _; exact Nat.zero_le _
    | cons a l ih =>
      intro h
      have h1 := h a List.mem_cons_self
      have h2 := ih fun p hp => h p (List.mem_cons_of_mem _ hp)
      rw [List.map_cons, jl_cons, List.length_cons, Nat.succ_mul]
      omega
  exact Nat.le_trans (key ps fun p hp => (h p hp).1) (Nat.mul_le_mul_right _ hc)
theorem Tb.tw {L m c : Nat} {t : Str} (h : Tb L m c t) (h1 : L ≤ 3400) (h2 : m ≤ 100) (h3 : c ≤ 62) : Tw t := ⟨⟨by have := h.len; omega, runs_mono h2 (Nat.le_refl _) h.fg, h.asc⟩, Nat.le_trans h.len h1, Nat.le_trans h.nl h3⟩
theorem l_lines_text {ds : List PyData} (h : ∀ d ∈ ds, lineP2 d) (hl : ds.length ≤ 5) : ∃ t : Str, Tb 800 21 4 t ∧ run 100000 (n + 2) ._law_lines_text [.dat (.list ds)] = .ret (.dat (.str t)) [] := by
  have el : ∀ (d : PyData) (k : Nat), d ∈ ds → k < 10 → ∃ t : Str, W1 154 t ∧ run 100000 (n + 1) ._law_line_text [.dat (.int (k : Int)), .dat d] = .ret (.dat (.str t)) [] := fun d k hd hk => l_line_text (n := n) (h d hd) hk
  suffices hh : WR (run 100000 (n + 2) ._law_lines_text [.dat (.list ds)]) (fun r os => ∃ t : Str, Tb 800 21 4 t ∧ r = .dat (.str t) ∧ os = []) fun _ _ => False by
    obtain ⟨r, os, e, t, ht, rfl, rfl⟩ := wr_iff hh
    exact ⟨t, ht, e⟩
  rw [en__law_lines_text]
  unfold b__law_lines_text
  rw [wr_fin]
  generalize run 100000 (n + 1) = Φ at *
  walk_at "go"
  refine ⟨⟨by omega, by omega⟩, ?_⟩
  refine we_lcI (fun i acc e' => ∃ ts : List Str, acc = ts.map .str ∧ ts.length = i ∧ (∀ t ∈ ts, W1 154 t) ∧ e' = [.o (.dat (.list ds)), .o .un]) ⟨[], rfl, rfl, fun _ h => (nomatch h), rfl⟩ (by rw [rngL_0]; omega) ?_ ?_ ?_
  · rintro i acc e' ⟨ts, rfl, hl, _, _⟩
    rw [List.length_map]; omega
  · rintro i acc e' d hd ⟨ts, rfl, hl2, hts, rfl⟩
    obtain ⟨hi, rfl⟩ := rngL_at hd
    have hil : i < ds.length := by omega
    obtain ⟨t, ht, e⟩ := el ds[i] i (List.getElem_mem hil) (by omega)
    have ha : atI ds (i : Int) = some ds[i] := by
      rw [atI_nat (by omega), Int.toNat_natCast]
      exact List.getElem?_eq_getElem hil
    rw [Int.zero_add]
    walk_at "go"
    rw [ha]
    walk_at "go"
    rw [e]
    walk_at "go"
    refine ⟨ts ++ [t], by rw [List.map_append]; rfl, by rw [List.length_append, List.length_singleton]; omega, fun v hv => (List.mem_append.mp hv).elim (hts v) fun z => by rw [List.mem_singleton.mp z]; exact ht⟩
  · rintro acc e' ⟨ts, rfl, hl2, hts, rfl⟩
    rw [rngL_0] at hl2
    have R := rows_tb (L := 154) (c := 5) (m := 21) (ps := ts) (fun p hp => ⟨(hts p hp).len, (hts p hp).fg, (hts p hp).no, (hts p hp).asc⟩) (by omega)
    have j := joinN (y := Str.ofString "\n") (by decide +kernel) R.jl (by decide)
    have T := (R.mono (L' := 800) (c' := 4 + 1) (by decide) (Nat.le_refl _) (by decide)).tb
    walk_at "go"
    rw [j]
    walk_at "go"
    exact ⟨_, T, rfl⟩
theorem readL_ok : ∀ {rs : List Str} {acc : List PyData} {k : Nat}, (∀ d ∈ acc, Shp d 4) → (∀ r ∈ rs, Wd r) → (∀ l, readL acc k rs = .inl l → (∀ d ∈ l, Shp d 4) ∧ szAll l ≤ szAll acc + 1000 * rs.length + 212 * jl (rs.map TL.tl)) ∧ ∀ m, readL acc k rs = .inr m → m ≤ k + rs.length
  | [], acc, k, h, _ => ⟨fun l e => by cases e; exact ⟨h, by omega⟩, fun m e => nomatch e⟩
  | r :: rs, acc, k, h, hw => by
    cases hq : lineO k r with
    | none =>
      rw [readL_none hq]
      exact ⟨fun l e => (nomatch e), fun m e => by cases e; rw [List.length_cons]; omega⟩
    | some d =>
      obtain ⟨s1, s2⟩ := line_sh (hw r List.mem_cons_self) hq
      obtain ⟨a, b⟩ := readL_ok (rs := rs) (acc := acc ++ [d]) (k := k + 1) (fun x hx => (List.mem_append.mp hx).elim (h x) fun z => by rw [List.mem_singleton.mp z]; exact s1) fun x hx => hw x (List.mem_cons_of_mem _ hx)
      rw [readL_some hq]
      refine ⟨fun l e => ?_, fun m e => ?_⟩
      · obtain ⟨c1, c2⟩ := a l e
        refine ⟨c1, ?_⟩
        rw [szAll_app, szAll_cons] at c2
        have : szAll [] = 0 := rfl
        rw [List.length_cons, List.map_cons, jl_cons]
        omega
      · have := b m e
        rw [List.length_cons]
        omega
def dataA : List PyData ⊕ Nat → PyData
  | .inl l => .list l
  | .inr k => .int (k : Int)
theorem repA {t : Str} (h : Tw t) : ∃ z : Str, reprF (dataA (readT t)) = some (.str z) := by
  have hr := tw_rows h
  have hj : jl ((pcs 10 t).map TL.tl) ≤ 3401 := by rw [pcs_jl]; have := h.len; omega
  have key : (∀ l, readT t = .inl l → (∀ d ∈ l, Shp d 4) ∧ szAll l ≤ 900000) ∧ ∀ m, readT t = .inr m → m ≤ 63 := by
    by_cases hne : t = Str.ofString ""
    · rw [hne, readT_nil]
      exact ⟨fun l e => by cases e; exact ⟨fun _ z => (nomatch z), Nat.zero_le _⟩, fun m e => nomatch e⟩
    · rw [readT_ne hne]
      obtain ⟨a, b⟩ := readL_ok (rs := pcs 10 t) (acc := []) (k := 0) (fun _ z => nomatch z) fun r hr => pcs_wd fig10 h.w hr
      refine ⟨fun l e => ?_, fun m e => by have := b m e; omega⟩
      obtain ⟨c1, c2⟩ := a l e
      have : szAll [] = 0 := rfl
      exact ⟨c1, by omega⟩
  cases hR : readT t with
  | inl l =>
    obtain ⟨c1, c2⟩ := key.1 l hR
    have s := shp_lst c1
    have z := sz_lst (ds := l)
    unfold szD at z
    refine ⟨_, show showF (.list l) = some (.str (PyData.list l).shown) from ?_⟩
    unfold showF
    rw [if_pos]
    rw [show isSeq (.list l) = true from rfl, s.sh, s.nd]
    have := s.dp
    simp only [lenOk, Bool.and_eq_true, decide_eq_true_eq, Bool.not_false, and_true, true_and]
    omega
  | inr m =>
    have := key.2 m hR
    exact ⟨_, if_pos (by rw [Int.natAbs_natCast]; omega)⟩
def oA : List Str := ["", "\n", "0:",
  "0: none", "0: none given",
  "1: none given", "0: none given\n",
  "00: none given"]
def oB : List Str := ["0: none given\n0: none given", "0: free 0 >= 1 given", "0: free 0 <= 1 given", "0 none given"]
def oC : List Str := ["0: due 0 <= -0 given", "0: due 0 <= -1 given", "0: due -1 <= 1 given", "0: none later -1"]
def oD : List Str := ["0: none sooner -3", "0: none sooner", "0: none full 1", "0: none full 1 2 (1,)(2,)", " 0: none given"]
def oE : List Str := ["0: none full 1 2 (1, 2)", "0: none full 1 2 (1,-2)", "0: none weaker 0 (1,)"]
def oF : List Str := ["0: free 0 >= +1 given", "0: free 0 >= 1_0 given", "0: none later +0", "0: none given (1,)"]
def oG : List Str := ["0: free 0 >= 1 given (0,2) (3,)", "0: none sooner 3 (1_0,)", "0: none sooner +3", "0: none later 1_0"]
def oH : List Str := ["0: none later -1\nx", "1: none given\n0: none x", "0: none full -1 -2 (0,)", "0: none sooner -0"]
def odd63 : List Str := oA ++ oB ++ oC ++ oD ++ oE ++ oF ++ oG ++ oH
theorem odd63_ok : ∀ t ∈ odd63, (TL.tl t).length ≤ 100 ∧ runs 30 0 (TL.tl t) = true ∧ (TL.tl t).count 10 ≤ 62 ∧ ∀ x ∈ TL.tl t, x < 128 := by decide +kernel
theorem odd63_tw {t : Str} (h : t ∈ odd63) : Tw t := by
  obtain ⟨a, b, c, d⟩ := odd63_ok t h
  exact ⟨⟨by omega, runs_mono (by decide) (Nat.le_refl _) b, d⟩, by omega, c⟩
local macro_rules | `(tactic| walk_at "sr") => `(tactic| simp -dsimp -implicitDefEqProofs only [mkNew_pile, sl_o, outs_nil, isUn_pile])
set_option maxHeartbeats 16000000 in
theorem plain (ns : List Int) (hl : ns.length ≤ 63) : ∃ os, run 100000 40 .law [.scr ns] = .ret (.dat (.bool true)) os := by
  rw [show (40 : Nat) = 39 + 1 from rfl, en_law]
  suffices h : WR (finR [0] (b_law 100000 (run 100000 39) [.o (.scr ns), .o .un, .o .un, .o .un, .o .un, .o .un, .o .un, .o .un, .o .un])) (fun t os => t = .dat (.bool true)) fun _ _ => False by
    obtain ⟨t, os, e, rfl⟩ := wr_iff h
    exact ⟨os, e⟩
  have ep : ∀ {k : Nat}, k < 1000 → ∃ p : Int, run 100000 39 ._law_pile [.scr ns, .dat (.int (k : Int))] = .ret (pileT p) [.scr ns] := fun h => r_pile (n := 37) h
  have et : ∀ p s : Int, 0 < s → s < 1000000 → ∃ d q : Int, 0 ≤ d ∧ d < s ∧ run 100000 39 ._law_take [pileT p, .dat (.int s)] = .ret (.dat (.int d)) [pileT q] := fun p s h0 h1 => l_take61 (n := 38) h0 h1
  have ed : ∀ p : Int, ∃ (d : PyData) (q : Int), lineP2 d ∧ run 100000 39 ._law_drawn_line [pileT p] = .ret (.dat d) [pileT q] := fun p => r_line (n := 36)
  have etx : ∀ {ds : List PyData}, (∀ d ∈ ds, lineP2 d) → ds.length ≤ 5 → ∃ t : Str, Tb 800 21 4 t ∧ run 100000 39 ._law_lines_text [.dat (.list ds)] = .ret (.dat (.str t)) [] := fun h h2 => l_lines_text (n := 37) h h2
  have eb : ∀ {t : Str} {p : Int} {L m c : Nat}, Tb L m c t → L ≤ 100000 → 2 ≤ m → c ≤ 1000 → ∃ (t' : Str) (q : Int), run 100000 39 ._law_bent [pileT p, .dat (.str t)] = .ret (.dat (.str t')) [pileT q] ∧ Tb (2 * L + 41) (2 * m + 3) (c + 1) t' := fun h h1 h2 h3 => l_bent63 (n := 37) h h1 h2 h3
  have ea : ∀ {t : Str}, Tw t → run 100000 39 ._law_answer [.dat (.str t)] = .ret (treeA (readT t)) [] := fun h => l_answer (n := 33) h
  have er : ∀ {t : Str}, Tw t → run 100000 39 ._law_read [.dat (.str t)] = .ret (treeA (readT t)) [] := fun h => l_read (n := 34) h
  unfold b_law
  rw [wr_fin]
  generalize run 100000 39 = Φ at *
  refine ws_cut (fun e' => ∃ (x1 x2 x3 x4 x5 x6 : Tr), (x3 = .un ∨ ∃ d, x3 = .dat d) ∧ e' = [.o (.scr ns), .o x1, .o x2, .o x3, .o x4, .o x5, .o x6, .o .un, .o .un]) ?_ ?_
  · walk_at "go"
    refine ⟨⟨by omega, by omega⟩, ?_⟩
    refine ws_forF (fun i e' => ∃ (x1 x2 x3 x4 x5 x6 : Tr), (x3 = .un ∨ ∃ d, x3 = .dat d) ∧ e' = [.o (.scr ns), .o x1, .o x2, .o x3, .o x4, .o x5, .o x6, .o .un, .o .un]) ⟨.un, .un, .un, .un, .un, .un, .inl rfl, rfl⟩ ?_ fun e he => he
    rintro i e' d hd ⟨x1, x2, x3, x4, x5, x6, h3, rfl⟩
    obtain ⟨hi, rfl⟩ := rngL_at hd
    walk_at "bd"
    rw [Int.zero_add]
    obtain ⟨p, ep⟩ := ep (k := i) (by omega)
    refine ws_cut (fun e' => e' = [.o (.scr ns), .o (.dat (.int (i : Int))), .o (pileT p), .o x3, .o x4, .o x5, .o x6, .o .un, .o .un]) ?_ ?_
    · walk_at "go"
      rw [ep]
      walk_at "go"
    rintro _ rfl
    refine ws_cut (fun e' => ∃ (t : Str) (q : Int), Tb 800 21 4 t ∧ e' = [.o (.scr ns), .o (.dat (.int (i : Int))), .o (pileT q), .o (.dat (.str t)), .o x4, .o x5, .o x6, .o .un, .o .un]) ?_ ?_
    · obtain ⟨c, q, c0, c1, e⟩ := et p 5 (by decide) (by decide)
      walk_at "go"
      rw [e]
      walk_at "go"
      refine ⟨⟨by omega, by omega⟩, ?_⟩
      refine we_lcI (fun i2 acc e' => ∃ (q : Int), acc.length = i2 ∧ (∀ d ∈ acc, lineP2 d) ∧ e' = [.o (.scr ns), .o (.dat (.int (i : Int))), .o (pileT q), .o x3, .o x4, .o x5, .o x6, .o .un, .o .un]) ⟨q, rfl, fun _ h => (nomatch h), rfl⟩ (by rw [rngL_0]; omega) ?_ ?_ ?_
      · rintro i2 acc e' ⟨q, hl, _, _⟩
        omega
      · rintro i2 acc e' d hd ⟨q, hl2, hac, rfl⟩
        obtain ⟨hi2, rfl⟩ := rngL_at hd
        obtain ⟨d, q2, hd2, e2⟩ := ed q
        walk_at "go"
        rw [e2]
        walk_at "go"
        exact ⟨q2, by rw [List.length_append, List.length_singleton]; omega, fun v hv => (List.mem_append.mp hv).elim (hac v) fun z => by rw [List.mem_singleton.mp z]; exact hd2, rfl⟩
      · rintro acc e' ⟨q, hl2, hac, rfl⟩
        rw [rngL_0] at hl2
        obtain ⟨t, hT, e2⟩ := etx hac (by omega)
        walk_at "go"
        rw [e2]
        walk_at "go"
        exact ⟨t, q, hT, rfl⟩
    rintro _ ⟨t0, q, hT, rfl⟩
    walk_at "bd"
    refine ws_forF (fun i' e' => ∃ (q : Int) (x4 x5 x6 : Tr), e' = [.o (.scr ns), .o (.dat (.int (i : Int))), .o (pileT q), .o (.dat (.str t0)), .o x4, .o x5, .o x6, .o .un, .o .un]) ⟨q, x4, x5, x6, rfl⟩ ?_ fun e' he => by obtain ⟨q, x4, x5, x6, rfl⟩ := he; exact ⟨_, _, _, _, _, _, .inr ⟨_, rfl⟩, rfl⟩
    rintro i' e' d hd ⟨q, x4, x5, x6, rfl⟩
    obtain ⟨hi', rfl⟩ := rngL_at hd
    obtain ⟨t1, q1, eb1, hb1⟩ := eb (p := q) hT (by decide) (by decide) (by decide)
    obtain ⟨t2, q2, eb2, hb2⟩ := eb (p := q1) hb1 (by decide) (by decide) (by decide)
    have w1 : Tw t1 := hb1.tw (by decide) (by decide) (by decide)
    have w2 : Tw t2 := hb2.tw (by decide) (by decide) (by decide)
    walk_at "bd"
    refine ws_cut (fun e' => ∃ x4, e' = [.o (.scr ns), .o (.dat (.int (i : Int))), .o (pileT q1), .o (.dat (.str t0)), .o x4, .o (.dat (.str t1)), .o x6, .o .un, .o .un]) ?_ ?_
    · walk_at "go"
      rw [eb1]
      walk_at "go"
      exact ⟨_, rfl⟩
    rintro _ ⟨x4', rfl⟩
    walk_at "go"
    rw [eb2]
    walk_at "go"
    refine ws_forMap (l := [t1, t2]) (q := PyData.str) (fun i' e' => ∃ (x6 : Tr), e' = [.o (.scr ns), .o (.dat (.int (i : Int))), .o (pileT q2), .o (.dat (.str t0)), .o x4', .o (.dat (.str t1)), .o x6, .o .un, .o .un]) ⟨x6, rfl⟩ ?_ fun e' he => by obtain ⟨x6, rfl⟩ := he; exact ⟨_, _, _, _, rfl⟩
    rintro i' e' t ht ⟨x6, rfl⟩
    have w : Tw t := by
      have hm := List.mem_of_getElem? ht
      simp only [List.mem_cons, List.not_mem_nil, or_false] at hm
      rcases hm with rfl | rfl
      · exact w1
      · exact w2
    have ea := ea w
    have er := er w
    obtain ⟨z, hz⟩ := repA w
    generalize readT t = A at ea er hz
    cases A with
    | inl j2 =>
      have hz : reprF (.list j2) = some (.str z) := hz
      have ea : Φ ._law_answer [.dat (.str t)] = .ret (.own j2) [] := ea
      have er : Φ ._law_read [.dat (.str t)] = .ret (.own j2) [] := er
      walk_at "go"
      rw [ea]
      walk_at "go"
      rw [hz]
      walk_at "go"
      rw [er]
      walk_at "go"
      rw [hz]
      walk_at "go"
      exact ⟨_, rfl⟩
    | inr k2 =>
      have hz : reprF (.int (k2 : Int)) = some (.str z) := hz
      have ea : Φ ._law_answer [.dat (.str t)] = .ret (.dat (.int (k2 : Int))) [] := ea
      have er : Φ ._law_read [.dat (.str t)] = .ret (.dat (.int (k2 : Int))) [] := er
      walk_at "go"
      rw [ea]
      walk_at "go"
      rw [hz]
      walk_at "go"
      rw [er]
      walk_at "go"
      rw [hz]
      walk_at "go"
      exact ⟨_, rfl⟩
  rintro _ ⟨x1, x2, x3, x4, x5, x6, h3, rfl⟩
  refine ws_cut (fun e' => e' = [.o (.scr ns), .o x1, .o x2, .o x3, .o x4, .o x5, .o x6, .o (.own (oA.map .str)), .o .un]) ?_ ?_
  · walk_at "go"
    rfl
  rintro _ rfl
  refine ws_cut (fun e' => e' = [.o (.scr ns), .o x1, .o x2, .o x3, .o x4, .o x5, .o x6, .o (.own ((oA ++ oB).map .str)), .o .un]) ?_ ?_
  · walk_at "go"
    rw [add60 (by rw [List.length_map]; decide)]
    walk_at "go"
    rfl
  rintro _ rfl
  refine ws_cut (fun e' => e' = [.o (.scr ns), .o x1, .o x2, .o x3, .o x4, .o x5, .o x6, .o (.own ((oA ++ oB ++ oC).map .str)), .o .un]) ?_ ?_
  · walk_at "go"
    rw [add60 (by rw [List.length_map]; decide)]
    walk_at "go"
    rfl
  rintro _ rfl
  refine ws_cut (fun e' => e' = [.o (.scr ns), .o x1, .o x2, .o x3, .o x4, .o x5, .o x6, .o (.own ((oA ++ oB ++ oC ++ oD).map .str)), .o .un]) ?_ ?_
  · walk_at "go"
    rw [add60 (by rw [List.length_map]; decide)]
    walk_at "go"
    rfl
  rintro _ rfl
  refine ws_cut (fun e' => e' = [.o (.scr ns), .o x1, .o x2, .o x3, .o x4, .o x5, .o x6, .o (.own ((oA ++ oB ++ oC ++ oD ++ oE).map .str)), .o .un]) ?_ ?_
  · walk_at "go"
    rw [add60 (by rw [List.length_map]; decide)]
    walk_at "go"
    rfl
  rintro _ rfl
  refine ws_cut (fun e' => e' = [.o (.scr ns), .o x1, .o x2, .o x3, .o x4, .o x5, .o x6, .o (.own ((oA ++ oB ++ oC ++ oD ++ oE ++ oF).map .str)), .o .un]) ?_ ?_
  · walk_at "go"
    rw [add60 (by rw [List.length_map]; decide)]
    walk_at "go"
    rfl
  rintro _ rfl
  refine ws_cut (fun e' => e' = [.o (.scr ns), .o x1, .o x2, .o x3, .o x4, .o x5, .o x6, .o (.own ((oA ++ oB ++ oC ++ oD ++ oE ++ oF ++ oG).map .str)), .o .un]) ?_ ?_
  · walk_at "go"
    rw [add60 (by rw [List.length_map]; decide)]
    walk_at "go"
    rfl
  rintro _ rfl
  refine ws_cut (fun e' => e' = [.o (.scr ns), .o x1, .o x2, .o x3, .o x4, .o x5, .o x6, .o (.own ((odd63).map .str)), .o .un]) ?_ ?_
  · walk_at "go"
    rw [add60 (by rw [List.length_map]; decide)]
    walk_at "go"
    rfl
  rintro _ rfl
  walk_at "go"
  refine ⟨by rcases h3 with rfl | ⟨d, rfl⟩ <;> rfl, ?_⟩
  refine we_lcFil (fun _ => false) PyData.str (by decide) (fun t ht => ?_) ?_
  · have w := odd63_tw ht
    have ea := ea w
    have er := er w
    obtain ⟨z, hz⟩ := repA w
    generalize readT t = A at ea er hz
    cases A with
    | inl j2 =>
      have hz : reprF (.list j2) = some (.str z) := hz
      have ea : Φ ._law_answer [.dat (.str t)] = .ret (.own j2) [] := ea
      have er : Φ ._law_read [.dat (.str t)] = .ret (.own j2) [] := er
      walk_at "go"
      rw [ea]
      walk_at "go"
      rw [hz]
      walk_at "go"
      rw [er]
      walk_at "go"
      rw [hz]
      walk_at "go"
    | inr k2 =>
      have hz : reprF (.int (k2 : Int)) = some (.str z) := hz
      have ea : Φ ._law_answer [.dat (.str t)] = .ret (.dat (.int (k2 : Int))) [] := ea
      have er : Φ ._law_read [.dat (.str t)] = .ret (.dat (.int (k2 : Int))) [] := er
      walk_at "go"
      rw [ea]
      walk_at "go"
      rw [hz]
      walk_at "go"
      rw [er]
      walk_at "go"
      rw [hz]
      walk_at "go"
  have hf : (odd63.filter fun _ => false) = [] := List.filter_eq_nil_iff.mpr fun _ _ z => nomatch z
  rw [hf, List.map_nil]
  walk_at "go"
  rw [show eqF (.list []) (.list []) = some (.bool true) from rfl]
  walk_at "go"
end

end R

theorem PySem.Challenge.cw_duepairs_k63_texts_of_no_lines_holds : PySem.Challenge.rw_duepairs_k63_texts_of_no_lines.Holds :=
  Hd.main_of R.plain
