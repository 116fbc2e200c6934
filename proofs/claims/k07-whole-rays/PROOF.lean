import PyProof.Rows.All
import Wide.All
import OpenK.AllK
import Wide.FinOn
import HandS.ForMost
import HandS.Walk
import HandS.Lambda
import HandS.Wide
import HandS.IsInst
import HandS.Deep
import HandS.StrMore
import HandS.Conv
import KE.DatumOrd
import KE.KTupSum
import KE.GoesMore
import HandS.IterVal
import KE.GoesEnum
import HandS.Defaults
import HandS.WordsExc
import PySem.Challenge.RW_meetfolk_k07_whole_rays
import KE.KExcSuper
import HandS.ExcInit
import HandS.Exc
import HandS.ExcOwn
import HandS.RaiseMore
import KE.KDictDisplayH
import HandS.Dict
import HandS.Style
import HandS.Star
import HandS.SortKw
import HandS.Keys
import KE.SortKeyHeap
import HandS.TupSets
import HandS.Set
import HandS.TryMany
import HandS.ExcField
import KE.KExcIs
import KE.KDflt
import HandS.EndTab
set_option Elab.async false
set_option linter.all false
set_option maxRecDepth 100000
set_option maxHeartbeats 2000000
/-! Meetfolk, the data layer: pure data, how it lies in a heap, and what a reading comes to, told of data alone. -/
namespace Mf
open PySem L2

/-! ### data -/
inductive D where
  | non | bl (b : Bool) | int (i : Int) | str (x : Str) | tup (l : List D) | lst (l : List D) | ref (a : Addr) | ty (n : String) | own (a : Addr) (R : Hp → Prop)

mutual
inductive Rep (F : Hp) : D → V → Prop
  | non : Rep F .non .non
  | bl (b : Bool) : Rep F (.bl b) (.bl b)
  | int (i : Int) : Rep F (.int i) (.int i)
  | str (x : Str) : Rep F (.str x) (.str x)
  | tup {a : Addr} {xs : List V} {l : List D} : F a = some (.tup xs) → RepL F l xs → Rep F (.tup l) (.ref a)
  | lst {a : Addr} {xs : List V} {l : List D} : F a = some (.lst xs) → RepL F l xs → Rep F (.lst l) (.ref a)
  | ref (a : Addr) : Rep F (.ref a) (.ref a)
  | ty (n : String) : Rep F (.ty n) (.ty n)
  | own {a : Addr} {R : Hp → Prop} : (∀ F', Same F F' → R F') → Rep F (.own a R) (.ref a)
inductive RepL (F : Hp) : List D → List V → Prop
  | nil : RepL F [] []
  | cons {d : D} {v : V} {ds : List D} {vs : List V} : Rep F d v → RepL F ds vs → RepL F (d :: ds) (v :: vs)
end

mutual
theorem Rep.mono {F F' : Hp} (e : Same F F') : ∀ {d : D} {v : V}, Rep F d v → Rep F' d v
  | _, _, .non => .non
  | _, _, .bl b => .bl b
  | _, _, .int i => .int i
  | _, _, .str x => .str x
  | _, _, .tup h r => .tup (e _ _ h) (RepL.mono e r)
  | _, _, .lst h r => .lst (e _ _ h) (RepL.mono e r)
  | _, _, .ref a => .ref a
  | _, _, .ty n => .ty n
  | _, _, .own h => .own fun F'' e'' => h F'' (e.trans e'')
theorem RepL.mono {F F' : Hp} (e : Same F F') : ∀ {ds : List D} {vs : List V}, RepL F ds vs → RepL F' ds vs
  | _, _, .nil => .nil
  | _, _, .cons h r => .cons (Rep.mono e h) (RepL.mono e r)
end
theorem RepL.len {F : Hp} : ∀ {ds : List D} {vs : List V}, RepL F ds vs → ds.length = vs.length
  | _, _, .nil => rfl
  | _, _, .cons _ r => by
    rw [List.length_cons, List.length_cons, RepL.len r]
theorem RepL.get {F : Hp} : ∀ {ds : List D} {vs : List V} {i : Nat} {d : D}, RepL F ds vs → ds[i]? = some d → ∃ v, vs[i]? = some v ∧ Rep F d v
  | _, _, 0, d, .cons h r, e => by
    cases e
    exact ⟨_, rfl, h⟩
  | _, _, i + 1, d, .cons h r, e => RepL.get (i := i) r (by simpa using e)
theorem RepL.getV {F : Hp} : ∀ {ds : List D} {vs : List V} {i : Nat} {v : V}, RepL F ds vs → vs[i]? = some v → ∃ d, ds[i]? = some d ∧ Rep F d v
  | _, _, 0, v, .cons h r, e => by
    cases e
    exact ⟨_, rfl, h⟩
  | _, _, i + 1, v, .cons h r, e => RepL.getV (i := i) r (by simpa using e)
theorem RepL.app {F : Hp} : ∀ {ds es : List D} {vs ws : List V}, RepL F ds vs → RepL F es ws → RepL F (ds ++ es) (vs ++ ws)
  | _, _, _, _, .nil, r => r
  | _, _, _, _, .cons h t, r => .cons h (RepL.app t r)
theorem RepL.one {F : Hp} {d : D} {v : V} (h : Rep F d v) : RepL F [d] [v] := .cons h .nil
theorem RepL.snoc {F : Hp} {ds : List D} {vs : List V} {d : D} {v : V} (r : RepL F ds vs) (h : Rep F d v) : RepL F (ds ++ [d]) (vs ++ [v]) := r.app (.one h)
theorem RepL.take {F : Hp} : ∀ (n : Nat) {ds : List D} {vs : List V}, RepL F ds vs → RepL F (ds.take n) (vs.take n)
  | 0, _, _, _ => by
    rw [List.take_zero, List.take_zero]
    exact .nil
  | n + 1, _, _, .nil => .nil
  | n + 1, _, _, .cons h r => .cons h (RepL.take n r)
theorem RepL.drop {F : Hp} : ∀ (n : Nat) {ds : List D} {vs : List V}, RepL F ds vs → RepL F (ds.drop n) (vs.drop n)
  | 0, _, _, r => r
  | n + 1, _, _, .nil => .nil
  | n + 1, _, _, .cons h r => RepL.drop n r
theorem RepL.setN {F : Hp} : ∀ (n : Nat) {ds : List D} {vs : List V} {d : D} {v : V}, RepL F ds vs → Rep F d v → RepL F (ds.set n d) (vs.set n v)
  | _, _, _, _, _, .nil, _ => .nil
  | 0, _, _, _, _, .cons h r, q => .cons q r
  | n + 1, _, _, _, _, .cons h r, q => .cons h (RepL.setN n r q)
theorem RepL.ints {F : Hp} : ∀ {ns : List Int} {vs : List V}, RepL F (ns.map D.int) vs → vs = ns.map V.int
  | [], _, .nil => rfl
  | n :: ns, _, .cons h r => by
    cases h
    rw [RepL.ints r] <;> rfl
theorem RepL.strs {F : Hp} : ∀ {ns : List Str} {vs : List V}, RepL F (ns.map D.str) vs → vs = ns.map V.str
  | [], _, .nil => rfl
  | n :: ns, _, .cons h r => by
    cases h
    rw [RepL.strs r] <;> rfl
theorem RepL.bls {F : Hp} : ∀ {ns : List Bool} {vs : List V}, RepL F (ns.map D.bl) vs → vs = ns.map V.bl
  | [], _, .nil => rfl
  | n :: ns, _, .cons h r => by
    cases h
    rw [RepL.bls r] <;> rfl
theorem RepL.ofInts {F : Hp} : ∀ (ns : List Int), RepL F (ns.map D.int) (ns.map V.int)
  | [] => .nil
  | n :: ns => .cons (.int n) (RepL.ofInts ns)
theorem RepL.ofStrs {F : Hp} : ∀ (ns : List Str), RepL F (ns.map D.str) (ns.map V.str)
  | [] => .nil
  | n :: ns => .cons (.str n) (RepL.ofStrs ns)
theorem RepL.nil_iff {F : Hp} {ds : List D} {vs : List V} (r : RepL F ds vs) : ds = [] ↔ vs = [] := by
  cases r with
  | nil => exact ⟨fun _ => rfl, fun _ => rfl⟩
  | cons h r => exact ⟨fun e => (by cases e), fun e => (by cases e)⟩

/-! ### worlds: F frozen, M the rest that is ours or our callers' -/
/-- the tables of code objects, and whose they are -/
class Tt where
  T : List (Addr × Str)
variable [Tt]
def Ours : HO → Prop
  | .lst _ => True
  | .dT _ => True
  | _ => False
structure Wd (F M H : Hp) : Prop where
  f : Same F H
  m : Same M H
  d : ∀ a, F a = none ∨ M a = none
  t : LamX.Tabs Tt.T H
  ft : ∀ a ps, F a ≠ some (.tbl ps)
  mm : ∀ a o, M a = some o → Ours o
theorem Wd.mt {F M H : Hp} (w : Wd F M H) : ∀ a ps, M a ≠ some (.tbl ps) := fun a ps e => w.mm a _ e
theorem Wd.mu {F M H : Hp} (w : Wd F M H) : ∀ a ps, M a ≠ some (.tup ps) := fun a ps e => w.mm a _ e
theorem Wd.mx {F M H : Hp} (w : Wd F M H) : ∀ a ps, M a ≠ some (.ext ps) := fun a ps e => w.mm a _ e
theorem ours_upd {M : Hp} {p : Addr} {o : HO} (h : ∀ a o, M a = some o → Ours o) (ho : Ours o) : ∀ a u, upd M p o a = some u → Ours u := fun a u e => by
  by_cases q : a = p
  · subst q
    rw [upd_same] at e
    cases e
    exact ho
  · rw [upd_ne q] at e
    exact h a u e
theorem not_tbl {F : Hp} {p : Addr} {o : HO} (h : ∀ a ps, F a ≠ some (.tbl ps)) (ho : ∀ ps, o ≠ .tbl ps) : ∀ a ps, upd F p o a ≠ some (.tbl ps) := fun a ps e => by
  by_cases q : a = p
  · subst q
    rw [upd_same] at e
    exact ho ps (Option.some.inj e)
  · rw [upd_ne q] at e
    exact h a ps e
theorem not_tup {F : Hp} {p : Addr} {o : HO} (h : ∀ a ps, F a ≠ some (.tup ps)) (ho : ∀ ps, o ≠ .tup ps) : ∀ a ps, upd F p o a ≠ some (.tup ps) := fun a ps e => by
  by_cases q : a = p
  · subst q
    rw [upd_same] at e
    exact ho ps (Option.some.inj e)
  · rw [upd_ne q] at e
    exact h a ps e
theorem tabs_write {T : List (Addr × Str)} {H : Hp} {p : Addr} {o u : HO} (t : LamX.Tabs T H) (h : H p = some u) (h1 : ∀ ps, u ≠ .tbl ps) (h2 : ∀ f, u ≠ .ext f) : LamX.Tabs T (upd H p o) := fun q hq => by
  obtain ⟨ps, a, b, c⟩ := t q hq
  refine ⟨ps, ?_, b, fun pos cv hc => ?_⟩
  · rw [upd_ne fun e => by
      rw [e, h] at a
      exact h1 ps (Option.some.inj a)]
    exact a
  · obtain ⟨d, e1, e2⟩ := c pos cv hc
    refine ⟨d, e1, ?_⟩
    rw [upd_ne fun e => by
      rw [e, h] at e2
      exact h2 _ (Option.some.inj e2)]
    exact e2
theorem same_upd {H : Hp} {p : Addr} {o : HO} (h : H p = none) : Same H (upd H p o) := fun b x e => by
  rw [upd_ne (ne_of_none e h)]
  exact e
theorem same_upd2 {F H : Hp} {p : Addr} {o : HO} (e : Same F H) : Same (upd F p o) (upd H p o) := fun b x h => by
  by_cases q : b = p
  · subst q
    rw [upd_same] at h ⊢
    exact h
  · rw [upd_ne q] at h ⊢
    exact e _ _ h
section
variable {F M H F2 M2 H2 : Hp} {p : Addr} {o u : HO}
theorem Wd.freeF (w : Wd F M H) (h : H p = none) : F p = none := w.f.free h
theorem Wd.freeM (w : Wd F M H) (h : H p = none) : M p = none := w.m.free h
/-- a new frozen thing -/
theorem Wd.new (w : Wd F M H) (h : H p = none) (ho : ∀ ps, o ≠ .tbl ps := by intro _ h; cases h) : Wd (upd F p o) M (upd H p o) := by
  refine ⟨same_upd2 w.f, w.m.trans (same_upd h), fun a => ?_, w.t.ext (same_upd h), not_tbl w.ft ho, w.mm⟩
  by_cases q : a = p
  · subst q
    exact .inr (w.freeM h)
  · rw [upd_ne q]
    exact w.d a
theorem Wd.newS (w : Wd F M H) (h : H p = none) : Same F (upd F p o) := same_upd (w.freeF h)
/-- a new thing of ours -/
theorem Wd.newM (w : Wd F M H) (h : H p = none) (ho : Ours o := by trivial) : Wd F (upd M p o) (upd H p o) := by
  refine ⟨w.f.trans (same_upd h), same_upd2 w.m, fun a => ?_, w.t.ext (same_upd h), w.ft, ours_upd w.mm ho⟩
  by_cases q : a = p
  · subst q
    exact .inl (w.freeF h)
  · rw [upd_ne q]
    exact w.d a
/-- ours is written -/
theorem Wd.write (w : Wd F M H) (h : M p = some u) (ho : Ours o := by trivial) : Wd F (upd M p o) (upd H p o) := by
  have hF : F p = none := by
    rcases w.d p with q | q
    · exact q
    · rw [h] at q
      cases q
  refine ⟨fun b x e => ?_, same_upd2 w.m, fun a => ?_, tabs_write w.t (w.m _ _ h) (fun ps e => w.mt p ps (h.trans (congrArg some e))) (fun ps e => w.mx p ps (h.trans (congrArg some e))), w.ft, ours_upd w.mm ho⟩
  · have q : b ≠ p := ne_of_none e hF
    rw [upd_ne q]
    exact w.f _ _ e
  · by_cases q : a = p
    · subst q
      exact .inl hF
    · rw [upd_ne q]
      exact w.d a
def del (M : Hp) (p : Addr) : Hp := fun b => if b = p then none else M b
theorem del_same {M : Hp} : del M p p = none := if_pos rfl
theorem del_ne {M : Hp} {b : Addr} (h : b ≠ p) : del M p b = M b := if_neg h
/-- ours is frozen -/
theorem Wd.freeze (w : Wd F M H) (h : M p = some o) : Wd (upd F p o) (del M p) H ∧ Same F (upd F p o) := by
  have hF : F p = none := by
    rcases w.d p with q | q
    · exact q
    · rw [h] at q
      cases q
  refine ⟨⟨fun b x e => ?_, fun b x e => ?_, fun a => ?_, w.t, not_tbl w.ft fun ps e => w.mt p ps (h.trans (congrArg some e)), fun a ps e => ?_⟩, same_upd hF⟩
  · by_cases q : b = p
    · subst q
      rw [upd_same] at e
      cases e
      exact w.m _ _ h
    · rw [upd_ne q] at e
      exact w.f _ _ e
  · by_cases q : b = p
    · subst q
      rw [del_same] at e
      cases e
    · rw [del_ne q] at e
      exact w.m _ _ e
  · by_cases q : a = p
    · subst q
      exact .inr del_same
    · rw [upd_ne q, del_ne q]
      exact w.d a
  · by_cases q : a = p
    · subst q
      rw [del_same] at e
      cases e
    · rw [del_ne q] at e
      exact w.mm a ps e
/-- fewer of ours -/
theorem Wd.less (w : Wd F M H) (h : Same M2 M) : Wd F M2 H := ⟨w.f, h.trans w.m, fun a => by
  rcases w.d a with q | q
  · exact .inl q
  · exact .inr (h.free q), w.t, w.ft, fun a ps e => w.mm a ps (h _ _ e)⟩
/-- a thing of the heap is told from now on -/
theorem Wd.adoptO (w : Wd F M H) (h : H p = some o) (ho : ¬ Ours o) (ht : ∀ ps, o ≠ .tbl ps) : Wd (upd F p o) M H ∧ Same F (upd F p o) := by
  refine ⟨⟨fun b x e => ?_, w.m, fun a => ?_, w.t, not_tbl w.ft ht, w.mm⟩, fun b x e => ?_⟩
  · by_cases q : b = p
    · subst q
      rw [upd_same] at e
      cases e
      exact h
    · rw [upd_ne q] at e
      exact w.f _ _ e
  · by_cases q : a = p
    · subst q
      right
      cases e : M a with
      | none => rfl
      | some u =>
        have := w.m _ _ e
        rw [h] at this
        cases this
        exact absurd (w.mm a _ e) ho
    · rw [upd_ne q]
      exact w.d a
  · by_cases q : b = p
    · subst q
      have := w.f _ _ e
      rw [h] at this
      cases this
      exact upd_same
    · rw [upd_ne q]
      exact e
theorem Wd.adopt {xs : List V} (w : Wd F M H) (h : H p = some (.tup xs)) : Wd (upd F p (.tup xs)) M H ∧ Same F (upd F p (.tup xs)) := w.adoptO h (fun q => q) (by intro _ h; cases h)
theorem Wd.adoptE {f : Heap → Prop} (w : Wd F M H) (h : H p = some (.ext f)) : Wd (upd F p (.ext f)) M H ∧ Same F (upd F p (.ext f)) := w.adoptO h (fun q => q) (by intro _ h; cases h)
/-- a lambda is made: only tables grow -/
theorem Wd.lam (w : Wd F M H) (e : LamX.ExtN H H2) (t : LamX.Tabs Tt.T H2) : Wd F M H2 :=
  ⟨fun b o h => e b o (w.f _ _ h) fun ps q => w.ft b ps (h.trans (congrArg some q)), fun b o h => e b o (w.m _ _ h) fun ps q => w.mt b ps (h.trans (congrArg some q)), w.d, t, w.ft, w.mm⟩
/-- one of ours, new a moment ago, frozen -/
theorem Wd.freezeNew (w : Wd F (upd M p o) H) (hM : M p = none) : Wd (upd F p o) M H ∧ Same F (upd F p o) := by
  obtain ⟨a, b⟩ := w.freeze (p := p) (o := o) upd_same
  refine ⟨a.less fun c x e => ?_, b⟩
  have q : c ≠ p := ne_of_none e hM
  rw [del_ne q, upd_ne q]
  exact e
end

/-! ### slots -/
abbrev DEnv := List (Option D)
structure RepS (F : Hp) (ρ : DEnv) (σ : L2.St) : Prop where
  len : ρ.length = σ.length
  at_ : ∀ (i : Nat) (d : D), ρ[i]? = some (some d) → ∃ v, σ[i]? = some (some v) ∧ Rep F d v
theorem RepS.mono {F F' : Hp} {ρ : DEnv} {σ : L2.St} (e : Same F F') (r : RepS F ρ σ) : RepS F' ρ σ :=
  ⟨r.len, fun i d h => by
    obtain ⟨v, a, b⟩ := r.at_ i d h
    exact ⟨v, a, b.mono e⟩⟩
theorem RepS.set {F : Hp} {ρ : DEnv} {σ : L2.St} {d : D} {v : V} (r : RepS F ρ σ) (j : Nat) (h : Rep F d v) : RepS F (ρ.set j (some d)) (σ.set j (some v)) := by
  refine ⟨by rw [List.length_set, List.length_set, r.len], fun i e hi => ?_⟩
  rw [List.getElem?_set] at hi
  rw [List.getElem?_set]
  by_cases q : j = i
  · rw [if_pos q] at hi ⊢
    have hl := r.len
    by_cases hj : j < ρ.length
    · rw [if_pos (by omega)] at hi ⊢
      cases hi
      exact ⟨v, rfl, h⟩
    · rw [if_neg (by omega)] at hi
      cases hi
  · rw [if_neg q] at hi ⊢
    exact r.at_ i e hi
theorem RepS.forget {F : Hp} {ρ : DEnv} {σ : L2.St} (r : RepS F ρ σ) (j : Nat) (x : Option V) : RepS F (ρ.set j none) (σ.set j x) := by
  refine ⟨by rw [List.length_set, List.length_set, r.len], fun i e hi => ?_⟩
  rw [List.getElem?_set] at hi
  rw [List.getElem?_set]
  by_cases q : j = i
  · rw [if_pos q] at hi
    split at hi <;> cases hi
  · rw [if_neg q] at hi ⊢
    exact r.at_ i e hi
/-- what the slots hold, some of it forgotten -/
def DLe (ρ' ρ : DEnv) : Prop := ρ'.length = ρ.length ∧ ∀ (i : Nat) (d : D), ρ'[i]? = some (some d) → ρ[i]? = some (some d)
theorem RepS.le {F : Hp} {ρ ρ' : DEnv} {σ : L2.St} (r : RepS F ρ σ) (h : DLe ρ' ρ) : RepS F ρ' σ := ⟨h.1.trans r.len, fun i d e => r.at_ i d (h.2 i d e)⟩
def dwipe (ρ : DEnv) : List Nat → DEnv
  | [] => ρ
  | v :: vs => (dwipe ρ vs).set v none
theorem RepS.wipe {F : Hp} {ρ : DEnv} {σ : L2.St} (r : RepS F ρ σ) : ∀ vs : List Nat, RepS F (dwipe ρ vs) (L2.wipe σ vs)
  | [] => r
  | v :: vs => (RepS.wipe r vs).forget v none
theorem wipe_get (σ : L2.St) : ∀ (vs : List Nat) (i : Nat), (L2.wipe σ vs)[i]? = if i ∈ vs then σ[i]?.map (fun _ => none) else σ[i]?
  | [], i => by simp [L2.wipe]
  | v :: vs, i => by
    show ((L2.wipe σ vs).set v none)[i]? = _
    by_cases q : v = i
    · subst q
      rw [if_pos (List.mem_cons_self)]
      by_cases hl : v < σ.length
      · rw [List.getElem?_set_self (by rw [wipe_length]; exact hl), List.getElem?_eq_getElem hl]
        rfl
      · rw [List.getElem?_eq_none (by rw [List.length_set, wipe_length]; omega), List.getElem?_eq_none (by omega)]
        rfl
    · rw [List.getElem?_set_ne q, wipe_get σ vs i]
      by_cases hi : i ∈ vs
      · rw [if_pos hi, if_pos (List.mem_cons_of_mem _ hi)]
      · rw [if_neg hi, if_neg (fun m => by
          rcases List.mem_cons.mp m with e | e
          · exact q e.symm
          · exact hi e)]
theorem wipe_eq {σ σ' : L2.St} {vs : List Nat} (hl : σ'.length = σ.length) (h : ∀ i, i ∉ vs → σ'[i]? = σ[i]?) : L2.wipe σ' vs = L2.wipe σ vs := by
  refine List.ext_getElem? fun i => ?_
  rw [wipe_get, wipe_get]
  by_cases hi : i ∈ vs
  · rw [if_pos hi, if_pos hi]
    by_cases q : i < σ.length
    · rw [List.getElem?_eq_getElem q, List.getElem?_eq_getElem (by omega)]
      rfl
    · rw [List.getElem?_eq_none (by omega), List.getElem?_eq_none (by omega)]
  · rw [if_neg hi, if_neg hi]
    exact h i hi
theorem wipe_wipe (σ : L2.St) (vs : List Nat) : L2.wipe (L2.wipe σ vs) vs = L2.wipe σ vs :=
  wipe_eq (wipe_length σ vs) fun i hi => by
    rw [wipe_get, if_neg hi]

/-! ### what of ours is told -/
/-- a list, or a dict whose keys are crowds -/
inductive MC where
  | l (l : List D) | d (ks : List (List Int))
abbrev Mu := Addr → Option MC
def mu0 : Mu := fun _ => none
def mput (μ : Mu) (p : Addr) (c : MC) : Mu := fun b => if b = p then some c else μ b
abbrev mset (μ : Mu) (p : Addr) (l : List D) : Mu := mput μ p (.l l)
def mdel (μ : Mu) (p : Addr) : Mu := fun b => if b = p then none else μ b
theorem mput_same {μ : Mu} {p : Addr} {c : MC} : mput μ p c p = some c := if_pos rfl
theorem mput_ne {μ : Mu} {p b : Addr} {c : MC} (h : b ≠ p) : mput μ p c b = μ b := if_neg h
theorem mset_same {μ : Mu} {p : Addr} {l : List D} : mset μ p l p = some (.l l) := if_pos rfl
theorem mset_ne {μ : Mu} {p b : Addr} {l : List D} (h : b ≠ p) : mset μ p l b = μ b := if_neg h
theorem mdel_same {μ : Mu} {p : Addr} : mdel μ p p = none := if_pos rfl
theorem mdel_ne {μ : Mu} {p b : Addr} (h : b ≠ p) : mdel μ p b = μ b := if_neg h
theorem mdel_mput {μ : Mu} {p : Addr} {c : MC} (h : μ p = none) : mdel (mput μ p c) p = μ := by
  funext b
  by_cases q : b = p
  · rw [q, mdel_same, h]
  · rw [mdel_ne q, mput_ne q]
theorem mdel_mset {μ : Mu} {p : Addr} {l : List D} (h : μ p = none) : mdel (mset μ p l) p = μ := mdel_mput h
theorem mput_mput {μ : Mu} {p : Addr} {c c' : MC} : mput (mput μ p c) p c' = mput μ p c' := by
  funext b
  by_cases q : b = p
  · rw [q, mput_same, mput_same]
  · rw [mput_ne q, mput_ne q, mput_ne q]
theorem mset_mset {μ : Mu} {p : Addr} {l l' : List D} : mset (mset μ p l) p l' = mset μ p l' := mput_mput
def MCell (F : Hp) : MC → HO → Prop
  | .l l, o => ∃ xs, o = .lst xs ∧ RepL F l xs
  | .d ks, o => o = .dT (ks.map fun k => (k.map Sum.inl, V.bl true))
theorem MCell.mono {F F' : Hp} (e : Same F F') : ∀ {c : MC} {o : HO}, MCell F c o → MCell F' c o
  | .l l, o, ⟨xs, h, r⟩ => ⟨xs, h, r.mono e⟩
  | .d ks, o, h => h
def RepM (F M : Hp) (μ : Mu) : Prop := ∀ a c, μ a = some c → ∃ o, M a = some o ∧ MCell F c o
theorem RepM.l {F M : Hp} {μ : Mu} (r : RepM F M μ) {p : Addr} {l : List D} (h : μ p = some (.l l)) : ∃ xs, M p = some (.lst xs) ∧ RepL F l xs := by
  obtain ⟨o, h1, xs, rfl, h2⟩ := r p _ h
  exact ⟨xs, h1, h2⟩
theorem RepM.mono {F F' M : Hp} {μ : Mu} (e : Same F F') (r : RepM F M μ) : RepM F' M μ := fun a c h => by
  obtain ⟨o, p, q⟩ := r a c h
  exact ⟨o, p, q.mono e⟩
theorem repM0 {F M : Hp} : RepM F M mu0 := fun a l h => by
  cases h
theorem RepM.newM {F M : Hp} {μ : Mu} {p : Addr} {o : HO} (r : RepM F M μ) (h : M p = none) : RepM F (upd M p o) μ := fun a c e => by
  obtain ⟨u, q, t⟩ := r a c e
  exact ⟨u, by rw [upd_ne (ne_of_none q h)]; exact q, t⟩
theorem RepM.none_of {F M : Hp} {μ : Mu} {p : Addr} (r : RepM F M μ) (h : M p = none) : μ p = none := by
  cases e : μ p with
  | none => rfl
  | some c =>
    obtain ⟨o, q, _⟩ := r p c e
    rw [h] at q
    cases q
/-- one cell of ours is put -/
theorem RepM.put {F F' M : Hp} {μ : Mu} {p : Addr} {c : MC} {o : HO} (r : RepM F M μ) (e : Same F F') (h : MCell F' c o) : RepM F' (upd M p o) (mput μ p c) := fun a c' e' => by
  by_cases q : a = p
  · subst q
    rw [mput_same] at e'
    cases e'
    exact ⟨o, upd_same, h⟩
  · rw [mput_ne q] at e'
    obtain ⟨u, h1, h2⟩ := r a c' e'
    exact ⟨u, by rw [upd_ne q]; exact h1, h2.mono e⟩

/-! ### what a reading comes to -/
def Ev (μ : Mu) (te : TE) (ρ : DEnv) (d : D) : Prop := ∀ (σ : L2.St) (F M H : Hp), RepS F ρ σ → RepM F M μ → Wd F M H →
  ∀ Q : VK, (∀ v F2 H2, Same F F2 → Wd F2 M H2 → Rep F2 d v → Q v H2) → te σ H Q
def EvT (μ : Mu) (tt : TT) (ρ : DEnv) (b : Bool) : Prop := ∀ (σ : L2.St) (F M H : Hp), RepS F ρ σ → RepM F M μ → Wd F M H →
  ∀ Q : Bool → Hp → Prop, (∀ F2 H2, Same F F2 → Wd F2 M H2 → Q b H2) → tt σ H Q
def EvA (μ : Mu) (ta : TA) (ρ : DEnv) (ds : List D) : Prop := ∀ (σ : L2.St) (F M H : Hp), RepS F ρ σ → RepM F M μ → Wd F M H →
  ∀ Q : List V → Hp → Prop, (∀ vs F2 H2, Same F F2 → Wd F2 M H2 → RepL F2 ds vs → Q vs H2) → ta σ H Q
def EvO (μ : Mu) (to : TO) (ρ : DEnv) (o : Option Int) : Prop := ∀ (σ : L2.St) (F M H : Hp), RepS F ρ σ → RepM F M μ → Wd F M H →
  ∀ Q : Option Int → Hp → Prop, (∀ F2 H2, Same F F2 → Wd F2 M H2 → Q o H2) → to σ H Q
/-- operations on values -/
def RD (μ : Mu) (r : R2) (x y z : D) : Prop := ∀ (F M H : Hp) (v w : V), Rep F x v → Rep F y w → RepM F M μ → Wd F M H →
  ∀ Q : VK, (∀ u F2 H2, Same F F2 → Wd F2 M H2 → Rep F2 z u → Q u H2) → r v w H Q
def UD (μ : Mu) (r : V → Hp → VK → Prop) (x z : D) : Prop := ∀ (F M H : Hp) (v : V), Rep F x v → RepM F M μ → Wd F M H →
  ∀ Q : VK, (∀ u F2 H2, Same F F2 → Wd F2 M H2 → Rep F2 z u → Q u H2) → r v H Q
def CD (μ : Mu) (r : List V → Hp → VK → Prop) (ds : List D) (z : D) : Prop := ∀ (F M H : Hp) (vs : List V), RepL F ds vs → RepM F M μ → Wd F M H →
  ∀ Q : VK, (∀ u F2 H2, Same F F2 → Wd F2 M H2 → Rep F2 z u → Q u H2) → r vs H Q
def BD (μ : Mu) (K : PySem.W.Frag) (T : String) (r : V → List V → Hp → VK → Prop) (x : D) (ds : List D) (z : D) : Prop := ∀ (F M H : Hp) (v : V), Rep F x v → RepM F M μ → Wd F M H →
  tyV K T v H ∧ ∀ (F1 H1 : Hp) (vs : List V), Same F F1 → Wd F1 M H1 → RepL F1 ds vs → ∀ Q : VK, (∀ u F2 H2, Same F1 F2 → Wd F2 M H2 → Rep F2 z u → Q u H2) → r v vs H1 Q
def SlD (μ : Mu) (r : V → Option Int → Option Int → Hp → VK → Prop) (x : D) (lo hi : Option Int) (z : D) : Prop := ∀ (F M H : Hp) (v : V), Rep F x v → RepM F M μ → Wd F M H →
  ∀ Q : VK, (∀ u F2 H2, Same F F2 → Wd F2 M H2 → Rep F2 z u → Q u H2) → r v lo hi H Q
/-- a promise, told of data -/
def SpD (sp : Sp) (ds : List D) (d : D) : Prop := ∀ (F M H : Hp) (vs : List V) (E : XK), RepL F ds vs → Wd F M H →
  ∀ Q : VK, (∀ v F2 H2, Same F F2 → Wd F2 M H2 → Rep F2 d v → Q v H2) → sp vs H Q E
def spF (f : List D → D → Prop) : Sp := fun vs H Q _ => ∃ (F M : Hp) (ds : List D) (d : D), Wd F M H ∧ RepL F ds vs ∧ f ds d ∧ ∀ v F2 H2, Same F F2 → Wd F2 M H2 → Rep F2 d v → Q v H2
theorem spD {f : List D → D → Prop} {ds : List D} {d : D} (h : f ds d) : SpD (spF f) ds d := fun F M H vs E r w Q q => ⟨F, M, ds, d, w, r, h, q⟩

section
variable {μ : Mu} {ρ ρ' : DEnv} {ta tb te tc : TE} {t u : TT} {x y z d : D} {r r' : R2} {K : PySem.W.Frag}
theorem Ev.up (h : Ev mu0 te ρ d) : Ev μ te ρ d := fun σ F M H rs _ w Q q => h σ F M H rs repM0 w Q q
theorem Ev.is (h : Ev μ te ρ x) (e : x = y) : Ev μ te ρ y := e ▸ h
theorem EvT.is {a b : Bool} (h : EvT μ t ρ a) (e : a = b) : EvT μ t ρ b := e ▸ h
theorem EvA.is {xs ys : List D} {a : TA} (h : EvA μ a ρ xs) (e : xs = ys) : EvA μ a ρ ys := e ▸ h
theorem ev_var {i : Nat} (h : ρ[i]? = some (some d)) : Ev μ (tVar i) ρ d := fun σ F M H rs _ w Q q => by
  obtain ⟨v, a, b⟩ := rs.at_ i d h
  exact ⟨v, a, q v F H (Same.refl F) w b⟩
theorem ev_int {i : Int} : Ev μ (tC (.int i)) ρ (.int i) := fun σ F M H _ _ w Q q => q _ F H (Same.refl F) w (.int i)
theorem ev_bl {i : Bool} : Ev μ (tC (.bl i)) ρ (.bl i) := fun σ F M H _ _ w Q q => q _ F H (Same.refl F) w (.bl i)
theorem ev_str {i : Str} : Ev μ (tC (.str i)) ρ (.str i) := fun σ F M H _ _ w Q q => q _ F H (Same.refl F) w (.str i)
theorem ev_non : Ev μ (tC .non) ρ .non := fun σ F M H _ _ w Q q => q _ F H (Same.refl F) w .non
theorem ev_op (ha : Ev μ ta ρ x) (hb : Ev μ tb ρ y) (hr : RD μ r x y z) : Ev μ (tOp r ta tb) ρ z := fun σ F M H rs rm w Q q =>
  ha σ F M H rs rm w _ fun v F1 H1 e1 w1 r1 => hb σ F1 M H1 (rs.mono e1) (rm.mono e1) w1 _ fun v' F2 H2 e2 w2 r2 =>
    hr F2 M H2 v v' (r1.mono e2) r2 (rm.mono (e1.trans e2)) w2 Q fun u F3 H3 e3 w3 r3 => q u F3 H3 ((e1.trans e2).trans e3) w3 r3
theorem ev_un {r : V → Hp → VK → Prop} (ha : Ev μ ta ρ x) (hr : UD μ r x z) : Ev μ (tUn r ta) ρ z := fun σ F M H rs rm w Q q =>
  ha σ F M H rs rm w _ fun v F1 H1 e1 w1 r1 => hr F1 M H1 v r1 (rm.mono e1) w1 Q fun u F2 H2 e2 w2 r2 => q u F2 H2 (e1.trans e2) w2 r2
theorem ea_nil : EvA μ tNil ρ [] := fun σ F M H _ _ w Q q => q [] F H (Same.refl F) w .nil
theorem ea_cons {tr : TA} {ds : List D} (h : Ev μ ta ρ x) (hr : EvA μ tr ρ ds) : EvA μ (tCons ta tr) ρ (x :: ds) := fun σ F M H rs rm w Q q =>
  h σ F M H rs rm w _ fun v F1 H1 e1 w1 r1 => hr σ F1 M H1 (rs.mono e1) (rm.mono e1) w1 _ fun vs F2 H2 e2 w2 r2 => q (v :: vs) F2 H2 (e1.trans e2) w2 (.cons (r1.mono e2) r2)
theorem ev_tup {tr : TA} {ds : List D} (h : EvA μ tr ρ ds) (hl : ds.length ≤ 100000) : Ev μ (tTup tr) ρ (.tup ds) := fun σ F M H rs rm w Q q =>
  h σ F M H rs rm w _ fun vs F1 H1 e1 w1 r1 => ⟨Nat.le_trans (by rw [← r1.len]; exact hl) (by decide), fun p hp => q _ _ _ (e1.trans (w1.newS hp)) (w1.new hp) (.tup upd_same (r1.mono (w1.newS hp)))⟩
theorem ev_lst {tr : TA} {ds : List D} (h : EvA μ tr ρ ds) (hl : ds.length ≤ 100000) : Ev μ (tLst tr) ρ (.lst ds) := fun σ F M H rs rm w Q q =>
  h σ F M H rs rm w _ fun vs F1 H1 e1 w1 r1 => ⟨Nat.le_trans (by rw [← r1.len]; exact hl) (by decide), fun p hp => q _ _ _ (e1.trans (w1.newS hp)) (w1.new hp) (.lst upd_same (r1.mono (w1.newS hp)))⟩
theorem eo_none : EvO μ tNoPart ρ none := fun σ F M H _ _ w Q q => q F H (Same.refl F) w
theorem eo_some {i : Int} (h : Ev μ te ρ (.int i)) : EvO μ (tPart te) ρ (some i) := fun σ F M H rs rm w Q q =>
  h σ F M H rs rm w _ fun v F1 H1 e1 w1 r1 => by
    cases r1
    exact ⟨i, rfl, q F1 H1 e1 w1⟩
theorem ev_sl {rr : V → Option Int → Option Int → Hp → VK → Prop} {tl th : TO} {lo hi : Option Int} (h : Ev μ te ρ x) (h1 : EvO μ tl ρ lo) (h2 : EvO μ th ρ hi) (hr : SlD μ rr x lo hi z) : Ev μ (tSl rr te tl th) ρ z := fun σ F M H rs rm w Q q =>
  h σ F M H rs rm w _ fun v F1 H1 e1 w1 r1 => h1 σ F1 M H1 (rs.mono e1) (rm.mono e1) w1 _ fun F2 H2 e2 w2 => h2 σ F2 M H2 (rs.mono (e1.trans e2)) (rm.mono (e1.trans e2)) w2 _ fun F3 H3 e3 w3 =>
    hr F3 M H3 v (r1.mono (e2.trans e3)) (rm.mono ((e1.trans e2).trans e3)) w3 Q fun u F4 H4 e4 w4 r4 => q u F4 H4 (((e1.trans e2).trans e3).trans e4) w4 r4
theorem ev_cb {rr : List V → Hp → VK → Prop} {tr : TA} {ds : List D} (h : EvA μ tr ρ ds) (hr : CD μ rr ds z) : Ev μ (tCB rr tr) ρ z := fun σ F M H rs rm w Q q =>
  h σ F M H rs rm w _ fun vs F1 H1 e1 w1 r1 => hr F1 M H1 vs r1 (rm.mono e1) w1 Q fun u F2 H2 e2 w2 r2 => q u F2 H2 (e1.trans e2) w2 r2
theorem ev_bm {T : String} {rr : V → List V → Hp → VK → Prop} {tr : TA} {ds : List D} (h : Ev μ ta ρ x) (h2 : EvA μ tr ρ ds) (hr : BD μ K T rr x ds z) : Ev μ (tBM K T rr ta tr) ρ z := fun σ F M H rs rm w Q q =>
  h σ F M H rs rm w _ fun v F1 H1 e1 w1 r1 => by
    obtain ⟨a, b⟩ := hr F1 M H1 v r1 (rm.mono e1) w1
    exact ⟨a, h2 σ F1 M H1 (rs.mono e1) (rm.mono e1) w1 _ fun vs F2 H2 e2 w2 r2 => b F2 H2 vs e2 w2 r2 Q fun u F3 H3 e3 w3 r3 => q u F3 H3 ((e1.trans e2).trans e3) w3 r3⟩
theorem ev_bm0 {T : String} {rr : V → List V → Hp → VK → Prop} (h : Ev μ ta ρ x) (hr : BD μ K T rr x [] z) : Ev μ (tBM0 K T rr ta) ρ z := fun σ F M H rs rm w Q q =>
  h σ F M H rs rm w _ fun v F1 H1 e1 w1 r1 => by
    obtain ⟨a, b⟩ := hr F1 M H1 v r1 (rm.mono e1) w1
    exact ⟨a, b F1 H1 [] (Same.refl F1) w1 .nil Q fun u F3 H3 e3 w3 r3 => q u F3 H3 (e1.trans e3) w3 r3⟩
theorem ev_call {sp : Sp} {dvs : List V} {dds ds : List D} {E : XK} {tr : TA} (h : EvA μ tr ρ ds) (hd : RepL (fun _ => none) dds dvs) (hs : SpD sp (ds ++ dds) z) : Ev μ (tCall sp dvs E tr) ρ z := fun σ F M H rs rm w Q q =>
  h σ F M H rs rm w _ fun vs F1 H1 e1 w1 r1 => hs F1 M H1 (vs ++ dvs) E (r1.app (hd.mono fun a o e => (by cases e))) w1 Q fun u F2 H2 e2 w2 r2 => q u F2 H2 (e1.trans e2) w2 r2
theorem ev_call0 {sp : Sp} {ds : List D} {E : XK} {tr : TA} (h : EvA μ tr ρ ds) (hs : SpD sp ds z) : Ev μ (tCall sp [] E tr) ρ z := ev_call (dds := []) h .nil (by rw [List.append_nil]; exact hs)
/-! tests -/
theorem et_test {b : Bool} (h : Ev μ te ρ (.bl b)) : EvT μ (tTest te) ρ b := fun σ F M H rs rm w Q q =>
  h σ F M H rs rm w _ fun v F1 H1 e1 w1 r1 => by
    cases r1
    exact ⟨b, rfl, q F1 H1 e1 w1⟩
theorem et_B {b : Bool} (h : Ev μ te ρ (.bl b)) : EvT μ (tB te) ρ b := et_test h
theorem et_yes : EvT μ tYes ρ true := fun σ F M H _ _ w Q q => q F H (Same.refl F) w
theorem et_not {a : Bool} (h : EvT μ t ρ a) : EvT μ (tNot t) ρ (!a) := fun σ F M H rs rm w Q q => h σ F M H rs rm w _ fun F1 H1 e1 w1 => q F1 H1 e1 w1
theorem et_and {a b : Bool} (h1 : EvT μ t ρ a) (h2 : a = true → EvT μ u ρ b) : EvT μ (tAnd t u) ρ (a && b) := fun σ F M H rs rm w Q q =>
  h1 σ F M H rs rm w _ fun F1 H1 e1 w1 => by
    cases a with
    | true =>
      show u σ H1 Q
      exact h2 rfl σ F1 M H1 (rs.mono e1) (rm.mono e1) w1 Q fun F2 H2 e2 w2 => q F2 H2 (e1.trans e2) w2
    | false =>
      show Q false H1
      exact q F1 H1 e1 w1
theorem et_or {a b : Bool} (h1 : EvT μ t ρ a) (h2 : a = false → EvT μ u ρ b) : EvT μ (tOr t u) ρ (a || b) := fun σ F M H rs rm w Q q =>
  h1 σ F M H rs rm w _ fun F1 H1 e1 w1 => by
    cases a with
    | true =>
      show Q true H1
      exact q F1 H1 e1 w1
    | false =>
      show u σ H1 Q
      exact h2 rfl σ F1 M H1 (rs.mono e1) (rm.mono e1) w1 Q fun F2 H2 e2 w2 => q F2 H2 (e1.trans e2) w2
theorem ev_andV {a b : Bool} (h1 : Ev μ ta ρ (.bl a)) (h2 : a = true → Ev μ tb ρ (.bl b)) : Ev μ (tAndV ta tb) ρ (.bl (a && b)) := fun σ F M H rs rm w Q q =>
  h1 σ F M H rs rm w _ fun v F1 H1 e1 w1 r1 => by
    cases r1
    refine ⟨a, rfl, ?_⟩
    cases a with
    | true =>
      show tb σ H1 Q
      exact h2 rfl σ F1 M H1 (rs.mono e1) (rm.mono e1) w1 Q fun v F2 H2 e2 w2 r2 => q v F2 H2 (e1.trans e2) w2 r2
    | false =>
      show Q (.bl false) H1
      exact q _ F1 H1 e1 w1 (.bl false)
theorem ev_orV {a b : Bool} (h1 : Ev μ ta ρ (.bl a)) (h2 : a = false → Ev μ tb ρ (.bl b)) : Ev μ (tOrV ta tb) ρ (.bl (a || b)) := fun σ F M H rs rm w Q q =>
  h1 σ F M H rs rm w _ fun v F1 H1 e1 w1 r1 => by
    cases r1
    refine ⟨a, rfl, ?_⟩
    cases a with
    | true =>
      show Q (.bl true) H1
      exact q _ F1 H1 e1 w1 (.bl true)
    | false =>
      show tb σ H1 Q
      exact h2 rfl σ F1 M H1 (rs.mono e1) (rm.mono e1) w1 Q fun v F2 H2 e2 w2 r2 => q v F2 H2 (e1.trans e2) w2 r2
theorem ev_notV {a : Bool} (h1 : Ev μ ta ρ (.bl a)) : Ev μ (tNotV ta) ρ (.bl (!a)) := fun σ F M H rs rm w Q q =>
  h1 σ F M H rs rm w _ fun v F1 H1 e1 w1 r1 => by
    cases r1
    exact ⟨a, rfl, q _ F1 H1 e1 w1 (.bl _)⟩
theorem ev_if {b : Bool} (h : EvT μ t ρ b) (h1 : b = true → Ev μ ta ρ d) (h2 : b = false → Ev μ tb ρ d) : Ev μ (tIf t ta tb) ρ d := fun σ F M H rs rm w Q q =>
  h σ F M H rs rm w _ fun F1 H1 e1 w1 => by
    cases b with
    | true =>
      show ta σ H1 Q
      exact h1 rfl σ F1 M H1 (rs.mono e1) (rm.mono e1) w1 Q fun v F2 H2 e2 w2 r2 => q v F2 H2 (e1.trans e2) w2 r2
    | false =>
      show tb σ H1 Q
      exact h2 rfl σ F1 M H1 (rs.mono e1) (rm.mono e1) w1 Q fun v F2 H2 e2 w2 r2 => q v F2 H2 (e1.trans e2) w2 r2
theorem ev_chain {a b : Bool} (hx : Ev μ ta ρ x) (hy : Ev μ tb ρ y) (h1 : RD μ r x y (.bl a)) (hz : a = true → Ev μ tc ρ z) (h2 : a = true → RD μ r' y z (.bl b)) : Ev μ (tChain r r' ta tb tc) ρ (.bl (a && b)) := fun σ F M H rs rm w Q q =>
  hx σ F M H rs rm w _ fun v F1 H1 e1 w1 r1 => hy σ F1 M H1 (rs.mono e1) (rm.mono e1) w1 _ fun v' F2 H2 e2 w2 r2 =>
    h1 F2 M H2 v v' (r1.mono e2) r2 (rm.mono (e1.trans e2)) w2 _ fun b' F3 H3 e3 w3 r3 => by
      cases r3
      refine ⟨a, rfl, ?_⟩
      have e13 := (e1.trans e2).trans e3
      cases a with
      | true =>
        show tc σ H3 _
        refine hz rfl σ F3 M H3 (rs.mono e13) (rm.mono e13) w3 _ fun v'' F4 H4 e4 w4 r4 => ?_
        exact h2 rfl F4 M H4 v' v'' (r2.mono (e3.trans e4)) r4 (rm.mono (e13.trans e4)) w4 Q fun u F5 H5 e5 w5 r5 => q u F5 H5 ((e13.trans e4).trans e5) w5 r5
      | false =>
        show Q (.bl false) H3
        exact q _ F3 H3 e13 w3 (.bl false)
end
end Mf
set_option maxRecDepth 100000
set_option maxHeartbeats 2000000
/-! Meetfolk, the data layer: targets, what is walked, comprehensions, statements, defs. -/
namespace Mf
open PySem L2
variable [Tt]

/-! ### targets -/
def Asg (g : TG) (js : List Nat) (ρ : DEnv) (d : D) (ρ' : DEnv) : Prop := ∀ (σ : L2.St) (F M H : Hp) (v : V), RepS F ρ σ → Wd F M H → Rep F d v →
  ∀ Q : L2.St → Hp → Prop, (∀ σ', RepS F ρ' σ' → (∀ vs : List Nat, (∀ j ∈ js, j ∈ vs) → L2.wipe σ' vs = L2.wipe σ vs) → Q σ' H) → g v σ H Q
theorem wipe_set {σ : L2.St} {j : Nat} {x : Option V} {vs : List Nat} (h : j ∈ vs) : L2.wipe (σ.set j x) vs = L2.wipe σ vs :=
  wipe_eq (by rw [List.length_set]) fun i hi => List.getElem?_set_ne (fun e => hi (by rw [← e]; exact h))
theorem asg_name {ρ : DEnv} {d : D} {j : Nat} : Asg (gName j) [j] ρ d (ρ.set j (some d)) := fun σ F M H v rs w r Q q =>
  q _ (rs.set j r) fun vs h => wipe_set (h j (List.mem_singleton.mpr rfl))
theorem asg_tup2 {ρ : DEnv} {d1 d2 : D} {i j : Nat} {K : PySem.W.Frag} : Asg (gTup K 2 (gCons (gName i) (gCons (gName j) gNil))) [i, j] ρ (.tup [d1, d2]) ((ρ.set i (some d1)).set j (some d2)) := fun σ F M H v rs w r Q q => by
  cases r with
  | tup h t =>
    cases t with
    | cons h1 t =>
      cases t with
      | cons h2 t =>
        cases t
        refine ⟨_, _, rfl, Or.inl (Or.inl (w.f _ _ h)), rfl, _, _, rfl, _, _, rfl, rfl, ?_⟩
        refine q _ ((rs.set i h1).set j h2) fun vs hv => ?_
        rw [wipe_set (hv j (by simp)), wipe_set (hv i (by simp))]
theorem asg_tup3 {ρ : DEnv} {d1 d2 d3 : D} {i j k : Nat} {K : PySem.W.Frag} : Asg (gTup K 3 (gCons (gName i) (gCons (gName j) (gCons (gName k) gNil)))) [i, j, k] ρ (.tup [d1, d2, d3]) (((ρ.set i (some d1)).set j (some d2)).set k (some d3)) := fun σ F M H v rs w r Q q => by
  cases r with
  | tup h t =>
    cases t with
    | cons h1 t =>
      cases t with
      | cons h2 t =>
        cases t with
        | cons h3 t =>
          cases t
          refine ⟨_, _, rfl, Or.inl (Or.inl (w.f _ _ h)), rfl, _, _, rfl, _, _, rfl, _, _, rfl, rfl, ?_⟩
          refine q _ (((rs.set i h1).set j h2).set k h3) fun vs hv => ?_
          rw [wipe_set (hv k (by simp)), wipe_set (hv j (by simp)), wipe_set (hv i (by simp))]

/-! ### what is walked -/
def Fix (μ : Mu) (M M' : Hp) : Prop := ∀ a l, μ a = some l → M' a = M a
theorem Fix.refl {μ : Mu} {M : Hp} : Fix μ M M := fun _ _ _ => rfl
theorem Fix.zero {M M' : Hp} : Fix mu0 M M' := fun _ _ h => by
  cases h
/-- J walks ds, in each later world -/
def Wk (μ : Mu) (J : It) (ds : List D) (F M : Hp) : Prop := ∀ (F3 M3 H3 : Hp), Same F F3 → Wd F3 M3 H3 → Fix μ M M3 →
  J.stop ds.length H3 ∧ ∀ i d, ds[i]? = some d → J.go i H3 ∧ ∀ x H4, J.yld i H3 x H4 → ∃ F4, Same F3 F4 ∧ Wd F4 M3 H4 ∧ Rep F4 d x
def EvI (μ : Mu) (wi : TI) (ρ : DEnv) (ds : List D) : Prop := ∀ (σ : L2.St) (F M H : Hp), RepS F ρ σ → RepM F M μ → Wd F M H →
  ∀ R : It → Hp → Prop, (∀ J F2 H2, Same F F2 → Wd F2 M H2 → Wk μ J ds F2 M → R J H2) → wi σ H R
section
variable {μ : Mu} {ρ : DEnv} {te : TE} {K : PySem.W.Frag} {ds : List D}
theorem EvI.is {wi : TI} {es : List D} (h : EvI μ wi ρ ds) (e : ds = es) : EvI μ wi ρ es := e ▸ h
theorem wk_list {a : Addr} {xs : List V} {F M : Hp} (h : ∀ M3 H3 F3, Same F F3 → Wd F3 M3 H3 → Fix μ M M3 → H3 a = some (.lst xs)) (r : RepL F ds xs) : Wk μ (Itl K a) ds F M := fun F3 M3 H3 e w f => by
  have hs : SqL K H3 a xs := Or.inl (Or.inl (h M3 H3 F3 e w f))
  refine ⟨⟨xs, hs, by rw [r.len]; exact Nat.le_refl _⟩, fun i d hd => ?_⟩
  obtain ⟨v, hv, rv⟩ := r.get hd
  exact ⟨⟨xs, v, hs, hv⟩, fun x H4 y => by
    obtain ⟨rfl, y⟩ := y
    have e2 : x = v := Option.some.inj ((y xs hs).symm.trans hv)
    exact ⟨F3, Same.refl F3, w, by rw [e2]; exact rv.mono e⟩⟩
theorem wk_tup {a : Addr} {xs : List V} {F M : Hp} (h : F a = some (.tup xs)) (r : RepL F ds xs) : Wk μ (Itt K a) ds F M := fun F3 M3 H3 e w f => by
  have hs : SqT K H3 a xs := Or.inl (Or.inl (w.f _ _ (e _ _ h)))
  refine ⟨⟨xs, hs, by rw [r.len]; exact Nat.le_refl _⟩, fun i d hd => ?_⟩
  obtain ⟨v, hv, rv⟩ := r.get hd
  exact ⟨⟨xs, v, hs, hv⟩, fun x H4 y => by
    obtain ⟨rfl, y⟩ := y
    have e2 : x = v := Option.some.inj ((y xs hs).symm.trans hv)
    exact ⟨F3, Same.refl F3, w, by rw [e2]; exact rv.mono e⟩⟩
theorem ei_list (h : Ev μ te ρ (.lst ds)) : EvI μ (iList K te) ρ ds := fun σ F M H rs rm w R q =>
  h σ F M H rs rm w _ fun v F2 H2 e2 w2 r2 => by
    cases r2 with
    | lst h1 h2 => exact ⟨_, rfl, ⟨_, Or.inl (Or.inl (w2.f _ _ h1))⟩, q _ F2 H2 e2 w2 (wk_list (fun M3 H3 F3 e w f => w.f _ _ (e _ _ h1)) h2)⟩
/-- over one of ours, in its turns it stays as it is -/
theorem ei_mine {p : Addr} (h : Ev μ te ρ (.ref p)) (hm : μ p = some (.l ds)) : EvI μ (iList K te) ρ ds := fun σ F M H rs rm w R q =>
  h σ F M H rs rm w _ fun v F2 H2 e2 w2 r2 => by
    cases r2
    obtain ⟨xs, h1, h2⟩ := rm.l hm
    exact ⟨_, rfl, ⟨xs, Or.inl (Or.inl (w2.m _ _ h1))⟩, q _ F2 H2 e2 w2 (wk_list (fun M3 H3 F3 e w f => w.m _ _ ((f p _ hm).trans h1)) (h2.mono e2))⟩
theorem ei_tup (h : Ev μ te ρ (.tup ds)) : EvI μ (iTup K te) ρ ds := fun σ F M H rs rm w R q =>
  h σ F M H rs rm w _ fun v F2 H2 e2 w2 r2 => by
    cases r2 with
    | tup h1 h2 => exact ⟨_, rfl, ⟨_, Or.inl (Or.inl (w2.f _ _ h1))⟩, q _ F2 H2 e2 w2 (wk_tup h1 h2)⟩
/-- the signs of a text -/
def signs (x : Str) : List Str := x.cps.toList.map fun c => ⟨#[c]⟩
theorem ei_str {x : Str} (h : Ev μ te ρ (.str x)) : EvI μ (iStr te) ρ ((signs x).map D.str) := fun σ F M H rs rm w R q =>
  h σ F M H rs rm w _ fun v F2 H2 e2 w2 r2 => by
    cases r2
    refine ⟨_, rfl, q _ F2 H2 e2 w2 fun F3 M3 H3 e w f => ⟨?_, fun i d hd => ?_⟩⟩
    · show x.cps.size ≤ _
      rw [List.length_map, signs, List.length_map, Array.length_toList]
      exact Nat.le_refl _
    · rw [List.getElem?_map, signs, List.getElem?_map, Array.getElem?_toList] at hd
      obtain ⟨s, hs, rfl⟩ := Option.map_eq_some_iff.mp hd
      obtain ⟨c, hc, rfl⟩ := Option.map_eq_some_iff.mp hs
      refine ⟨(Array.getElem?_eq_some_iff.mp hc).1, fun y H4 hy => ?_⟩
      obtain ⟨rfl, c', hc', rfl⟩ := hy
      rw [hc] at hc'
      cases hc'
      exact ⟨F3, Same.refl F3, w, .str _⟩
/-- lo, lo + 1, .. -/
def upTo (lo : Int) (n : Nat) : List D := (List.range n).map fun i => D.int (lo + (i : Nat))
theorem wk_rng {lo : Int} {n : Nat} {F M : Hp} : Wk μ (Itr lo n) (upTo lo n) F M := fun F3 M3 H3 e w f => by
  refine ⟨by show n ≤ _; rw [upTo, List.length_map, List.length_range]; exact Nat.le_refl _, fun i d hd => ?_⟩
  rw [upTo, List.getElem?_map] at hd
  obtain ⟨k, hk, rfl⟩ := Option.map_eq_some_iff.mp hd
  obtain ⟨h1, h2⟩ := List.getElem?_eq_some_iff.mp hk
  rw [List.length_range] at h1
  rw [List.getElem_range] at h2
  subst h2
  exact ⟨h1, fun x H4 y => ⟨F3, Same.refl F3, by rw [y.1]; exact w, by rw [y.2]; exact .int _⟩⟩
theorem ei_rng1 {ta : TA} {n : Int} (h : EvA μ ta ρ [.int n]) (h1 : -100000 ≤ n) (h2 : n ≤ 100000) : EvI μ (iRng1 ta) ρ (upTo 0 n.toNat) := fun σ F M H rs rm w R q =>
  h σ F M H rs rm w _ fun vs F2 H2 e2 w2 r2 => by
    cases r2 with
    | cons a b =>
      cases a
      cases b
      exact ⟨n, rfl, by omega, by omega, q _ F2 H2 e2 w2 wk_rng⟩
theorem ei_rng2 {ta : TA} {lo n : Int} (h : EvA μ ta ρ [.int lo, .int n]) (h1 : -100000 ≤ lo ∧ lo ≤ 100000) (h2 : -100000 ≤ n ∧ n ≤ 100000) : EvI μ (iRng2 ta) ρ (upTo lo (n - lo).toNat) := fun σ F M H rs rm w R q =>
  h σ F M H rs rm w _ fun vs F2 H2 e2 w2 r2 => by
    cases r2 with
    | cons a b =>
      cases a
      cases b with
      | cons a b =>
        cases a
        cases b
        exact ⟨lo, n, rfl, ⟨by omega, by omega, by omega, by omega⟩, q _ F2 H2 e2 w2 wk_rng⟩
end

/-! ### comprehensions -/
theorem sz_lt {n : Nat} (h : n ≤ 100000) : n < sizeLine := Nat.lt_of_le_of_lt h (by decide)
section
variable {μ : Mu} {ρ : DEnv} {wi wi1 : TI} {g g1 : TG} {tt tt1 : TT} {te : TE} {vs vs1 js js1 : List Nat} {α β : Type} {xs : List α} {enc : α → D}
theorem acc_yes {f : α → Bool} {h : α → D} {i : Nat} (hi : i < xs.length) (hf : f xs[i] = true) : ((xs.take (i + 1)).filter f).map h = ((xs.take i).filter f).map h ++ [h xs[i]] := by
  rw [List.take_add_one, List.getElem?_eq_getElem hi, List.filter_append, List.map_append]
  congr 1
  simp [hf]
theorem acc_no {f : α → Bool} {h : α → D} {i : Nat} (hi : i < xs.length) (hf : f xs[i] = false) : ((xs.take (i + 1)).filter f).map h = ((xs.take i).filter f).map h := by
  rw [List.take_add_one, List.getElem?_eq_getElem hi, List.filter_append, List.map_append]
  simp [hf]
theorem fix_new {M : Hp} {F : Hp} {p : Addr} {o : HO} (rm : RepM F M μ) (h : M p = none) : Fix μ M (upd M p o) := fun a l e => by
  obtain ⟨xs, q, _⟩ := rm a l e
  exact upd_ne (ne_of_none q h)
/-- at one state: hi tells what is walked there -/
theorem lc_at {f : α → Bool} {h : α → D} {ρ' : α → DEnv} {σ : L2.St} {F M H : Hp} (rs : RepS F ρ σ) (rm : RepM F M μ)
    (hi : ∀ R : It → Hp → Prop, (∀ J F2 H2, Same F F2 → Wd F2 M H2 → Wk μ J (xs.map enc) F2 M → R J H2) → wi σ H R) (hj : ∀ j ∈ js, j ∈ vs) (ha : ∀ x ∈ xs, Asg g js (dwipe ρ vs) (enc x) (ρ' x))
    (ht : ∀ x ∈ xs, EvT μ tt (ρ' x) (f x)) (he : ∀ x ∈ xs, f x = true → Ev μ te (ρ' x) (h x)) (hl : xs.length ≤ 100000) : ∀ Q : VK, (∀ v F2 H2, Same F F2 → Wd F2 M H2 → Rep F2 (.lst ((xs.filter f).map h)) v → Q v H2) → tLc wi g tt te vs σ H Q := fun Q q =>
  hi _ fun J F2 H2 e2 w2 st => by
    intro Dl hD
    have hM : M Dl = none := w2.freeM hD
    refine ⟨fun i m H' => m = xs.length - i ∧ i ≤ xs.length ∧ ∃ F' ac, Same F2 F' ∧ Wd F' (upd M Dl (.lst ac)) H' ∧ RepL F' (((xs.take i).filter f).map h) ac,
      ⟨xs.length, rfl, Nat.zero_le _, F2, [], Same.refl F2, w2.newM hD, by rw [List.take_zero]; exact .nil⟩, ?_⟩
    rintro i m H' ⟨rfl, hle, F', ac, eF, wF, rA⟩
    obtain ⟨s1, s2⟩ := st F' _ H' eF wF (fix_new (rm.mono e2) hM)
    by_cases hlt : i < xs.length
    · right
      have hx : (xs.map enc)[i]? = some (enc xs[i]) := by
        rw [List.getElem?_map, List.getElem?_eq_getElem hlt]
        rfl
      have hm : xs[i] ∈ xs := List.getElem_mem hlt
      obtain ⟨go, yl⟩ := s2 i _ hx
      refine ⟨go, fun H' => ∃ F' ac, Same F2 F' ∧ Wd F' (upd M Dl (.lst ac)) H' ∧ RepL F' (((xs.take (i + 1)).filter f).map h) ac, fun H3 p3 => ⟨xs.length - (i + 1), by omega, rfl, by omega, p3⟩, fun x H3 y => ?_⟩
      obtain ⟨F3, e3, w3, r3⟩ := yl x H3 y
      have e23 : Same F F3 := e2.trans (eF.trans e3)
      refine ha _ hm (L2.wipe σ vs) F3 _ H3 x ((rs.mono e23).wipe vs) w3 r3 _ fun σ2 rs2 hw => ⟨by rw [hw vs hj, wipe_wipe], ?_⟩
      refine ht _ hm σ2 F3 _ H3 rs2 ((rm.mono e23).newM hM) w3 _ fun F4 H4 e4 w4 => ?_
      cases hf : f xs[i] with
      | true =>
        show te σ2 H4 _
        refine he _ hm hf σ2 F4 _ H4 (rs2.mono e4) ((rm.mono (e23.trans e4)).newM hM) w4 _ fun v F5 H5 e5 w5 r5 => ⟨ac, w5.m Dl _ upd_same, ?_, F5, ac ++ [v], eF.trans (e3.trans (e4.trans e5)), ?_, ?_⟩
        · refine sz_lt ?_
          have h1 := rA.len
          have h2 := List.length_filter_le f (xs.take i)
          rw [List.length_map] at h1
          rw [List.length_take] at h2
          omega
        · have z := w5.write (p := Dl) (o := .lst (ac ++ [v])) upd_same
          rw [upd_upd] at z
          exact z
        · rw [acc_yes hlt hf]
          exact (rA.mono (e3.trans (e4.trans e5))).snoc r5
      | false =>
        show ∃ F' ac, _
        exact ⟨F4, ac, eF.trans (e3.trans e4), w4, by rw [acc_no hlt hf]; exact rA.mono (e3.trans e4)⟩
    · left
      have ei : i = xs.length := by omega
      subst ei
      rw [List.length_map] at s1
      obtain ⟨w5, e5⟩ := wF.freezeNew hM
      refine ⟨s1, q _ _ H' (e2.trans (eF.trans e5)) w5 (.lst upd_same ?_)⟩
      rw [List.take_length] at rA
      exact rA.mono e5
theorem ev_lc {f : α → Bool} {h : α → D} {ρ' : α → DEnv} (hi : EvI μ wi ρ (xs.map enc)) (hj : ∀ j ∈ js, j ∈ vs) (ha : ∀ x ∈ xs, Asg g js (dwipe ρ vs) (enc x) (ρ' x))
    (ht : ∀ x ∈ xs, EvT μ tt (ρ' x) (f x)) (he : ∀ x ∈ xs, f x = true → Ev μ te (ρ' x) (h x)) (hl : xs.length ≤ 100000) : Ev μ (tLc wi g tt te vs) ρ (.lst ((xs.filter f).map h)) := fun σ F M H rs rm w Q q =>
  lc_at rs rm (fun R r => hi σ F M H rs rm w R r) hj ha ht he hl Q q
/-- without a test -/
theorem ev_lc1 {h : α → D} {ρ' : α → DEnv} (hi : EvI μ wi ρ (xs.map enc)) (hj : ∀ j ∈ js, j ∈ vs) (ha : ∀ x ∈ xs, Asg g js (dwipe ρ vs) (enc x) (ρ' x))
    (he : ∀ x ∈ xs, Ev μ te (ρ' x) (h x)) (hl : xs.length ≤ 100000) : Ev μ (tLc wi g tYes te vs) ρ (.lst (xs.map h)) :=
  (ev_lc (f := fun _ => true) hi hj ha (fun _ _ => et_yes) (fun x hx _ => he x hx) hl).is (by rw [List.filter_eq_self.mpr (fun _ _ => rfl)])
/-- two clauses, the first without a test -/
theorem ev_lc2 {ys : α → List β} {enc1 : α → β → D} {f : α → β → Bool} {h : α → β → D} {ρ1 : α → DEnv} {ρ2 : α → β → DEnv} (hi : EvI μ wi ρ (xs.map enc)) (hj : ∀ j ∈ js, j ∈ vs) (ha : ∀ x ∈ xs, Asg g js (dwipe ρ vs) (enc x) (ρ1 x))
    (hi1 : ∀ x ∈ xs, EvI μ wi1 (ρ1 x) ((ys x).map (enc1 x))) (hj1 : ∀ j ∈ js1, j ∈ vs1) (ha1 : ∀ x ∈ xs, ∀ y ∈ ys x, Asg g1 js1 (dwipe (ρ1 x) vs1) (enc1 x y) (ρ2 x y))
    (ht : ∀ x ∈ xs, ∀ y ∈ ys x, EvT μ tt1 (ρ2 x y) (f x y)) (he : ∀ x ∈ xs, ∀ y ∈ ys x, f x y = true → Ev μ te (ρ2 x y) (h x y)) (hl : (xs.flatMap fun x => ((ys x).filter (f x)).map (h x)).length ≤ 100000) :
    Ev μ (tLc2 wi g tYes wi1 g1 tt1 te vs vs1) ρ (.lst (xs.flatMap fun x => ((ys x).filter (f x)).map (h x))) := fun σ F M H rs rm w Q q =>
  hi σ F M H rs rm w _ fun J F2 H2 e2 w2 st => by
    intro Dl hD
    have hM : M Dl = none := w2.freeM hD
    let A : Nat → List D := fun i => (xs.take i).flatMap fun x => ((ys x).filter (f x)).map (h x)
    have hA : ∀ (i : Nat) (hlt : i < xs.length), A (i + 1) = A i ++ ((ys xs[i]).filter (f xs[i])).map (h xs[i]) := fun i hlt => by
      show (xs.take (i + 1)).flatMap _ = (xs.take i).flatMap _ ++ _
      rw [List.take_add_one, List.getElem?_eq_getElem hlt, List.flatMap_append]
      simp
    have hAl : ∀ i, i ≤ xs.length → (A i).length ≤ 100000 := fun i hle => by
      refine Nat.le_trans ?_ hl
      show ((xs.take i).flatMap _).length ≤ _
      conv => rhs; rw [← List.take_append_drop i xs]
      rw [List.flatMap_append, List.length_append]
      exact Nat.le_add_right _ _
    refine ⟨fun i m H' => m = xs.length - i ∧ i ≤ xs.length ∧ ∃ F' ac, Same F2 F' ∧ Wd F' (upd M Dl (.lst ac)) H' ∧ RepL F' (A i) ac,
      ⟨xs.length, rfl, Nat.zero_le _, F2, [], Same.refl F2, w2.newM hD, .nil⟩, ?_⟩
    rintro i m H' ⟨rfl, hle, F', ac, eF, wF, rA⟩
    obtain ⟨s1, s2⟩ := st F' _ H' eF wF (fix_new (rm.mono e2) hM)
    by_cases hlt : i < xs.length
    · right
      have hx : (xs.map enc)[i]? = some (enc xs[i]) := by
        rw [List.getElem?_map, List.getElem?_eq_getElem hlt]
        rfl
      have hm : xs[i] ∈ xs := List.getElem_mem hlt
      obtain ⟨go, yl⟩ := s2 i _ hx
      refine ⟨go, fun H' => ∃ F' ac, Same F2 F' ∧ Wd F' (upd M Dl (.lst ac)) H' ∧ RepL F' (A (i + 1)) ac, fun H3 p3 => ⟨xs.length - (i + 1), by omega, rfl, by omega, p3⟩, fun x H3 y => ?_⟩
      obtain ⟨F3, e3, w3, r3⟩ := yl x H3 y
      have e23 : Same F F3 := e2.trans (eF.trans e3)
      refine ha _ hm (L2.wipe σ vs) F3 _ H3 x ((rs.mono e23).wipe vs) w3 r3 _ fun σ2 rs2 hw => ⟨by rw [hw vs hj, wipe_wipe], ?_⟩
      show wi1 σ2 H3 _
      refine hi1 _ hm σ2 F3 _ H3 rs2 ((rm.mono e23).newM hM) w3 _ fun J1 F4 H4 e4 w4 st1 => ?_
      refine ⟨fun j m H' => m = (ys xs[i]).length - j ∧ j ≤ (ys xs[i]).length ∧ ∃ F' ac, Same F4 F' ∧ Wd F' (upd M Dl (.lst ac)) H' ∧ RepL F' (A i ++ (((ys xs[i]).take j).filter (f xs[i])).map (h xs[i])) ac,
        ⟨(ys xs[i]).length, rfl, Nat.zero_le _, F4, ac, Same.refl F4, w4, by rw [List.take_zero]; simpa using rA.mono (e3.trans e4)⟩, ?_⟩
      rintro j m H5 ⟨rfl, hle1, F5, ac1, e5, w5, rA1⟩
      obtain ⟨t1, t2⟩ := st1 F5 _ H5 e5 w5 (fun a l e => by
        obtain ⟨zs, z1, _⟩ := rm a l e
        rw [upd_ne (ne_of_none z1 hM), upd_ne (ne_of_none z1 hM)])
      by_cases hlt1 : j < (ys xs[i]).length
      · right
        have hx1 : ((ys xs[i]).map (enc1 xs[i]))[j]? = some (enc1 xs[i] (ys xs[i])[j]) := by
          rw [List.getElem?_map, List.getElem?_eq_getElem hlt1]
          rfl
        have hm1 : (ys xs[i])[j] ∈ ys xs[i] := List.getElem_mem hlt1
        obtain ⟨go1, yl1⟩ := t2 j _ hx1
        refine ⟨go1, fun H' => ∃ F' ac, Same F4 F' ∧ Wd F' (upd M Dl (.lst ac)) H' ∧ RepL F' (A i ++ (((ys xs[i]).take (j + 1)).filter (f xs[i])).map (h xs[i])) ac, fun H6 p6 => ⟨(ys xs[i]).length - (j + 1), by omega, rfl, by omega, p6⟩, fun x1 H6 y1 => ?_⟩
        obtain ⟨F6, e6, w6, r6⟩ := yl1 x1 H6 y1
        have e36 : Same F3 F6 := e4.trans (e5.trans e6)
        refine ha1 _ hm _ hm1 (L2.wipe σ2 vs1) F6 _ H6 x1 ((rs2.mono e36).wipe vs1) w6 r6 _ fun σ3 rs3 hw1 => ⟨by rw [hw1 vs1 hj1, wipe_wipe], ?_⟩
        refine ht _ hm _ hm1 σ3 F6 _ H6 rs3 ((rm.mono (e23.trans e36)).newM hM) w6 _ fun F7 H7 e7 w7 => ?_
        cases hf : f xs[i] (ys xs[i])[j] with
        | true =>
          show te σ3 H7 _
          refine he _ hm _ hm1 hf σ3 F7 _ H7 (rs3.mono e7) ((rm.mono (e23.trans (e36.trans e7))).newM hM) w7 _ fun v F8 H8 e8 w8 r8 => ⟨ac1, w8.m Dl _ upd_same, ?_, F8, ac1 ++ [v], e5.trans (e6.trans (e7.trans e8)), ?_, ?_⟩
          · refine sz_lt ?_
            have h1 := rA1.len
            have h2 := hAl (i + 1) (by omega)
            rw [hA i hlt, List.length_append] at h2
            rw [List.length_append] at h1
            have h3 : ((((ys xs[i]).take j).filter (f xs[i])).map (h xs[i])).length ≤ (((ys xs[i]).filter (f xs[i])).map (h xs[i])).length := by
              rw [List.length_map, List.length_map]
              exact List.Sublist.length_le ((List.take_sublist _ _).filter _)
            omega
          · have z := w8.write (p := Dl) (o := .lst (ac1 ++ [v])) upd_same
            rw [upd_upd] at z
            exact z
          · rw [acc_yes hlt1 hf, ← List.append_assoc]
            exact (rA1.mono (e6.trans (e7.trans e8))).snoc r8
        | false =>
          show ∃ F' ac, _
          exact ⟨F7, ac1, e5.trans (e6.trans e7), w7, by rw [acc_no hlt1 hf]; exact rA1.mono (e6.trans e7)⟩
      · left
        have ej : j = (ys xs[i]).length := by omega
        subst ej
        rw [List.length_map] at t1
        refine ⟨t1, F5, ac1, eF.trans (e3.trans (e4.trans e5)), w5, ?_⟩
        rw [List.take_length] at rA1
        rw [hA i hlt]
        exact rA1
    · left
      have ei : i = xs.length := by omega
      subst ei
      rw [List.length_map] at s1
      obtain ⟨w5, e5⟩ := wF.freezeNew hM
      refine ⟨s1, q _ _ H' (e2.trans (eF.trans e5)) w5 (.lst upd_same ?_)⟩
      have : A xs.length = xs.flatMap fun x => ((ys x).filter (f x)).map (h x) := by
        show (xs.take xs.length).flatMap _ = _
        rw [List.take_length]
      rw [← this]
      exact rA.mono e5
end

/-! ### what is raised -/
/-- an exception of the class at cls, with one field or none -/
structure XD where
  cls : Addr
  fld : Option (Str × Int) := none
def XD.At (x : XD) (d : Option Addr) (H : Hp) : Prop := match x.fld with
  | none => d = none
  | some q => ∃ a, d = some a ∧ H a = some (.xd [(q.1, V.int q.2)])
/-- what is wanted of an exception that leaves -/
class Xw where
  E : XK
variable [Xw]
def XWish (x : XD) (F M : Hp) : Prop := ∀ F2 H2 d, Same F F2 → Wd F2 M H2 → x.At d H2 → Xw.E (.ref x.cls) d H2
/-! ### statements -/
structure Stp (F M : Hp) (μ : Mu) (F2 M2 H2 : Hp) (μ2 : Mu) : Prop where
  ex : Same F F2
  wd : Wd F2 M2 H2
  rm : RepM F2 M2 μ2
  fr : ∀ a o, M a = some o → μ a = none → M2 a = some o ∧ μ2 a = none
theorem Stp.trans {F M F2 M2 H2 F3 M3 H3 : Hp} {μ μ2 μ3 : Mu} (a : Stp F M μ F2 M2 H2 μ2) (b : Stp F2 M2 μ2 F3 M3 H3 μ3) : Stp F M μ F3 M3 H3 μ3 :=
  ⟨a.ex.trans b.ex, b.wd, b.rm, fun p o h1 h2 => by
    obtain ⟨h3, h4⟩ := a.fr p o h1 h2
    exact b.fr p o h3 h4⟩
/-- nothing of ours was written -/
theorem Stp.pure {F M F2 H2 : Hp} {μ : Mu} (rm : RepM F M μ) (e : Same F F2) (w : Wd F2 M H2) : Stp F M μ F2 M H2 μ := ⟨e, w, rm.mono e, fun _ _ h1 h2 => ⟨h1, h2⟩⟩
structure Kt where
  nx : Mu → DEnv → Prop := fun _ _ => False
  rt : Mu → D → Prop := fun _ _ => False
  bk : Mu → DEnv → Prop := fun _ _ => False
  ct : Mu → DEnv → Prop := fun _ _ => False
  ex : Mu → XD → Prop := fun _ _ => False
structure Tak (K : Kt) (F M : Hp) (μ : Mu) (E : Ends) : Prop where
  nx : ∀ μ' ρ' σ' F2 M2 H2, K.nx μ' ρ' → Stp F M μ F2 M2 H2 μ' → RepS F2 ρ' σ' → E.nx σ' H2
  rt : ∀ μ' d v F2 M2 H2, K.rt μ' d → Stp F M μ F2 M2 H2 μ' → Rep F2 d v → E.rt v H2
  bk : ∀ μ' ρ' σ' F2 M2 H2, K.bk μ' ρ' → Stp F M μ F2 M2 H2 μ' → RepS F2 ρ' σ' → E.bk σ' H2
  ct : ∀ μ' ρ' σ' F2 M2 H2, K.ct μ' ρ' → Stp F M μ F2 M2 H2 μ' → RepS F2 ρ' σ' → E.ct σ' H2
  ex : ∀ μ' x F2 M2 H2 d, K.ex μ' x → Stp F M μ F2 M2 H2 μ' → x.At d H2 → Xw.E (.ref x.cls) d H2
theorem Tak.step {K : Kt} {F M F2 M2 H2 : Hp} {μ μ2 : Mu} {E : Ends} (t : Tak K F M μ E) (s : Stp F M μ F2 M2 H2 μ2) : Tak K F2 M2 μ2 E :=
  ⟨fun μ' ρ' σ' F3 M3 H3 k s2 r => t.nx μ' ρ' σ' F3 M3 H3 k (s.trans s2) r, fun μ' d v F3 M3 H3 k s2 r => t.rt μ' d v F3 M3 H3 k (s.trans s2) r,
   fun μ' ρ' σ' F3 M3 H3 k s2 r => t.bk μ' ρ' σ' F3 M3 H3 k (s.trans s2) r, fun μ' ρ' σ' F3 M3 H3 k s2 r => t.ct μ' ρ' σ' F3 M3 H3 k (s.trans s2) r, fun μ' x F3 M3 H3 d k s2 r => t.ex μ' x F3 M3 H3 d k (s.trans s2) r⟩
def Sv (μ : Mu) (ts : TS) (ρ : DEnv) (K : Kt) : Prop := ∀ (σ : L2.St) (F M H : Hp), RepS F ρ σ → RepM F M μ → Wd F M H → ∀ E : Ends, Tak K F M μ E → ts E σ H
section
variable {μ : Mu} {ρ ρ' : DEnv} {te ta : TE} {g : TG} {K : Kt} {t u v : TS} {c : TT} {d : D} {js : List Nat} {Kf : PySem.W.Frag}
theorem sv_next (h : K.nx μ ρ) : Sv μ tNext ρ K := fun σ F M H rs rm w E tk => tk.nx μ ρ σ F M H h (Stp.pure rm (Same.refl F) w) rs
theorem sv_asg (h : Ev μ te ρ d) (ha : Asg g js ρ d ρ') (k : K.nx μ ρ') : Sv μ (tAsg te g) ρ K := fun σ F M H rs rm w E tk =>
  h σ F M H rs rm w _ fun x F2 H2 e2 w2 r2 => ha σ F2 M H2 x (rs.mono e2) w2 r2 _ fun σ' rs' _ => tk.nx μ ρ' σ' F2 M H2 k (Stp.pure rm e2 w2) rs'
theorem q_asg (h : Ev μ te ρ d) (ha : Asg g js ρ d ρ') (k : Sv μ u ρ' K) : Sv μ (tSeq (tAsg te g) u) ρ K := fun σ F M H rs rm w E tk =>
  h σ F M H rs rm w _ fun x F2 H2 e2 w2 r2 => ha σ F2 M H2 x (rs.mono e2) w2 r2 _ fun σ' rs' _ => k σ' F2 M H2 rs' (rm.mono e2) w2 E (tk.step (Stp.pure rm e2 w2))
theorem sv_ret (h : Ev μ te ρ d) (k : K.rt μ d) : Sv μ (tRet te) ρ K := fun σ F M H rs rm w E tk =>
  h σ F M H rs rm w _ fun x F2 H2 e2 w2 r2 => tk.rt μ d x F2 M H2 k (Stp.pure rm e2 w2) r2
theorem q_ret (h : Sv μ (tRet te) ρ K) : Sv μ (tSeq (tRet te) u) ρ K := h
theorem q_next (h : Sv μ u ρ K) : Sv μ (tSeq tNext u) ρ K := h
theorem sv_drop (h : Ev μ te ρ d) (k : K.nx μ ρ) : Sv μ (tDrop te) ρ K := fun σ F M H rs rm w E tk =>
  h σ F M H rs rm w _ fun x F2 H2 e2 w2 r2 => tk.nx μ ρ σ F2 M H2 k (Stp.pure rm e2 w2) (rs.mono e2)
theorem q_drop (h : Ev μ te ρ d) (k : Sv μ u ρ K) : Sv μ (tSeq (tDrop te) u) ρ K := fun σ F M H rs rm w E tk =>
  h σ F M H rs rm w _ fun x F2 H2 e2 w2 r2 => k σ F2 M H2 (rs.mono e2) (rm.mono e2) w2 E (tk.step (Stp.pure rm e2 w2))
theorem sv_if {b : Bool} (h : EvT μ c ρ b) (h1 : b = true → Sv μ t ρ K) (h2 : b = false → Sv μ u ρ K) : Sv μ (tIfS c t u) ρ K := fun σ F M H rs rm w E tk =>
  h σ F M H rs rm w _ fun F2 H2 e2 w2 => by
    cases b with
    | true =>
      show t E σ H2
      exact h1 rfl σ F2 M H2 (rs.mono e2) (rm.mono e2) w2 E (tk.step (Stp.pure rm e2 w2))
    | false =>
      show u E σ H2
      exact h2 rfl σ F2 M H2 (rs.mono e2) (rm.mono e2) w2 E (tk.step (Stp.pure rm e2 w2))
theorem q_if {b : Bool} (h : EvT μ c ρ b) (h1 : b = true → Sv μ (tSeq t v) ρ K) (h2 : b = false → Sv μ (tSeq u v) ρ K) : Sv μ (tSeq (tIfS c t u) v) ρ K := fun σ F M H rs rm w E tk =>
  h σ F M H rs rm w _ fun F2 H2 e2 w2 => by
    cases b with
    | true =>
      show t { E with nx := v E } σ H2
      exact h1 rfl σ F2 M H2 (rs.mono e2) (rm.mono e2) w2 E (tk.step (Stp.pure rm e2 w2))
    | false =>
      show u { E with nx := v E } σ H2
      exact h2 rfl σ F2 M H2 (rs.mono e2) (rm.mono e2) w2 E (tk.step (Stp.pure rm e2 w2))
theorem q_seq (h : Sv μ (tSeq t (tSeq u v)) ρ K) : Sv μ (tSeq (tSeq t u) v) ρ K := h
theorem sv_seq {N : Mu → DEnv → Prop} (h : Sv μ t ρ { K with nx := N }) (k : ∀ μ' ρ', N μ' ρ' → Sv μ' u ρ' K) : Sv μ (tSeq t u) ρ K := fun σ F M H rs rm w E tk =>
  h σ F M H rs rm w { E with nx := u E } ⟨fun μ' ρ' σ' F2 M2 H2 hn s rs' => k μ' ρ' hn σ' F2 M2 H2 rs' s.rm s.wd E (tk.step s), tk.rt, tk.bk, tk.ct, tk.ex⟩
/-- weaker slots -/
theorem Sv.le (h : Sv μ t ρ' K) (e : DLe ρ' ρ) : Sv μ t ρ K := fun σ F M H rs rm w E tk => h σ F M H (rs.le e) rm w E tk
/-- a list of ours, new -/
theorem q_newL {tr : TA} {ds : List D} {i : Nat} (h : EvA μ tr ρ ds) (hl : ds.length ≤ 100000) (k : ∀ p, μ p = none → Sv (mset μ p ds) u (ρ.set i (some (.ref p))) K) : Sv μ (tSeq (tAsg (tLst tr) (gName i)) u) ρ K := fun σ F M H rs rm w E tk =>
  h σ F M H rs rm w _ fun vs F2 H2 e2 w2 r2 => ⟨Nat.le_trans (by rw [← r2.len]; exact hl) (by decide), fun p hp => by
    have hM := w2.freeM hp
    have hm : μ p = none := rm.none_of hM
    have s : Stp F M μ F2 (upd M p (.lst vs)) (upd H2 p (.lst vs)) (mset μ p ds) := ⟨e2, w2.newM hp, rm.put e2 ⟨vs, rfl, r2⟩, fun a o h1 h3 => by
      have q : a ≠ p := ne_of_none h1 hM
      rw [upd_ne q, mset_ne q]
      exact ⟨h1, h3⟩⟩
    exact k p hm _ F2 _ _ ((rs.mono e2).set i (.ref p)) s.rm s.wd E (tk.step s)⟩
theorem stp_write {F M H : Hp} {p : Addr} {l l' : List D} {xs xs' : List V} (rm : RepM F M μ) (w : Wd F M H) (hm : μ p = some (.l l)) (hM : M p = some (.lst xs)) (r : RepL F l' xs') : Stp F M μ F (upd M p (.lst xs')) (upd H p (.lst xs')) (mset μ p l') :=
  ⟨Same.refl F, w.write hM, rm.put (Same.refl F) ⟨xs', rfl, r⟩, fun a o h1 h3 => by
    have q : a ≠ p := fun e => by
      rw [e, hm] at h3
      cases h3
    rw [upd_ne q, mset_ne q]
    exact ⟨h1, h3⟩⟩
/-- xs.append(e) -/
theorem q_app {p : Addr} {l : List D} (ho : Ev μ ta ρ (.ref p)) (hm : μ p = some (.l l)) (h : Ev μ te ρ d) (hz : l.length < 100000) (k : Sv (mset μ p (l ++ [d])) u ρ K) : Sv μ (tSeq (tDrop (tBM Kf "list" rAppend ta (tCons te tNil))) u) ρ K := fun σ F M H rs rm w E tk =>
  ho σ F M H rs rm w _ fun x F1 H1 e1 w1 r1 => by
    cases r1
    obtain ⟨xs, h1, h3⟩ := rm.l hm
    refine ⟨Or.inl ⟨rfl, xs, Or.inl (Or.inl (w1.m _ _ h1))⟩, h σ F1 M H1 (rs.mono e1) (rm.mono e1) w1 _ fun y F2 H2 e2 w2 r2 => ?_⟩
    have s := stp_write (rm.mono (e1.trans e2)) w2 hm h1 ((h3.mono (e1.trans e2)).snoc r2)
    have s0 : Stp F M μ F2 M H2 μ := Stp.pure rm (e1.trans e2) w2
    exact ⟨p, xs, y, rfl, rfl, w2.m _ _ h1, Nat.lt_of_lt_of_le (by rw [← h3.len]; exact hz) (by decide), k σ F2 _ _ (rs.mono (e1.trans e2)) s.rm s.wd E (tk.step (s0.trans s))⟩
theorem sv_app {p : Addr} {l : List D} (ho : Ev μ ta ρ (.ref p)) (hm : μ p = some (.l l)) (h : Ev μ te ρ d) (hz : l.length < 100000) (k : K.nx (mset μ p (l ++ [d])) ρ) : Sv μ (tDrop (tBM Kf "list" rAppend ta (tCons te tNil))) ρ K :=
  q_app (u := tNext) ho hm h hz (sv_next k)
theorem ixN_nat {n j : Nat} (hj : j < n) : ixN n (j : Int) = some j := by
  unfold ixN
  rw [if_pos (by omega), if_pos (by omega)]
  simp
/-- xs[i] = e -/
theorem q_setL {ti : TE} {p : Addr} {l : List D} {j : Nat} (h : Ev μ te ρ d) (ho : Ev μ ta ρ (.ref p)) (hm : μ p = some (.l l)) (hi : Ev μ ti ρ (.int (j : Int))) (hj : j < l.length) (k : Sv (mset μ p (l.set j d)) u ρ K) : Sv μ (tSeq (tAsg te (gSub ta ti rSetL)) u) ρ K := fun σ F M H rs rm w E tk =>
  h σ F M H rs rm w _ fun x F1 H1 e1 w1 r1 => ho σ F1 M H1 (rs.mono e1) (rm.mono e1) w1 _ fun o F2 H2 e2 w2 r2 => by
    cases r2
    refine hi σ F2 M H2 (rs.mono (e1.trans e2)) (rm.mono (e1.trans e2)) w2 _ fun i F3 H3 e3 w3 r3 => ?_
    cases r3
    have e13 := (e1.trans e2).trans e3
    obtain ⟨xs, h1, h3⟩ := rm.l hm
    have s := stp_write (rm.mono e13) w3 hm h1 ((h3.mono e13).setN j (r1.mono (e2.trans e3)))
    have s0 : Stp F M μ F3 M H3 μ := Stp.pure rm e13 w3
    exact ⟨p, xs, (j : Int), j, rfl, rfl, w3.m _ _ h1, by rw [← h3.len]; exact ixN_nat hj, k σ F3 _ _ (rs.mono e13) s.rm s.wd E (tk.step (s0.trans s))⟩
theorem sv_setL {ti : TE} {p : Addr} {l : List D} {j : Nat} (h : Ev μ te ρ d) (ho : Ev μ ta ρ (.ref p)) (hm : μ p = some (.l l)) (hi : Ev μ ti ρ (.int (j : Int))) (hj : j < l.length) (k : K.nx (mset μ p (l.set j d)) ρ) : Sv μ (tAsg te (gSub ta ti rSetL)) ρ K :=
  q_setL (u := tNext) h ho hm hi hj (sv_next k)
/-- one of ours is frozen -/
theorem sv_freeze {p : Addr} {l : List D} {i : Nat} (h : ρ[i]? = some (some (.ref p))) (hm : μ p = some (.l l)) (k : Sv (mdel μ p) t (ρ.set i (some (.lst l))) K) : Sv μ t ρ K := fun σ F M H rs rm w E tk => by
  obtain ⟨xs, h1, h2⟩ := rm.l hm
  obtain ⟨w2, e2⟩ := w.freeze h1
  have s : Stp F M μ (upd F p (.lst xs)) (del M p) H (mdel μ p) := ⟨e2, w2, fun a z e => by
    by_cases q : a = p
    · subst q
      rw [mdel_same] at e
      cases e
    · rw [mdel_ne q] at e
      obtain ⟨ys, h3, h4⟩ := rm a z e
      exact ⟨ys, by rw [del_ne q]; exact h3, h4.mono e2⟩, fun a o h3 h4 => by
    have q : a ≠ p := fun e => by
      rw [e, hm] at h4
      cases h4
    rw [del_ne q, mdel_ne q]
    exact ⟨h3, h4⟩⟩
  obtain ⟨x, hx, rx⟩ := rs.at_ i _ h
  cases rx
  have rs2 := (rs.mono e2).set i (Rep.lst (F := upd F p (.lst xs)) upd_same (h2.mono e2))
  have es : σ.set i (some (.ref p)) = σ := by
    obtain ⟨hl, hx⟩ := List.getElem?_eq_some_iff.mp hx
    rw [← hx]
    exact List.set_getElem_self hl
  rw [es] at rs2
  exact k σ _ _ H rs2 s.rm s.wd E (tk.step s)
/-- for -/
theorem q_for {wi : TI} {tb : TS} {ds : List D} (hi : EvI mu0 wi ρ ds) (Iv : Nat → Mu → DEnv → Prop) (h0 : Iv 0 μ ρ)
    (hs : ∀ i d μ' ρ', ds[i]? = some d → Iv i μ' ρ' → ∃ js ρ1, Asg g js ρ' d ρ1 ∧ Sv μ' tb ρ1 { nx := Iv (i + 1), ct := Iv (i + 1), rt := K.rt, ex := K.ex })
    (hd : ∀ μ' ρ', Iv ds.length μ' ρ' → Sv μ' u ρ' K) : Sv μ (tSeq (tFor wi g tb) u) ρ K := fun σ F M H rs rm w E tk =>
  hi σ F M H rs repM0 w _ fun J F2 H2 e2 w2 st => by
    refine ⟨fun i m σ' H' => m = ds.length - i ∧ i ≤ ds.length ∧ ∃ μ' ρ' F' M', Iv i μ' ρ' ∧ Same F2 F' ∧ Stp F M μ F' M' H' μ' ∧ RepS F' ρ' σ', ⟨ds.length, rfl, Nat.zero_le _, μ, ρ, F2, M, h0, Same.refl F2, Stp.pure rm e2 w2, rs.mono e2⟩, ?_⟩
    rintro i m σ' H' ⟨rfl, hle, μ', ρ', F', M', hI, eF, s, rs'⟩
    obtain ⟨s1, s2⟩ := st F' M' H' eF s.wd Fix.zero
    by_cases hlt : i < ds.length
    · right
      obtain ⟨go, yl⟩ := s2 i _ (List.getElem?_eq_getElem hlt)
      refine ⟨go, fun σ' H' => ∃ μ' ρ' F' M', Iv (i + 1) μ' ρ' ∧ Same F2 F' ∧ Stp F M μ F' M' H' μ' ∧ RepS F' ρ' σ', fun σ3 H3 p3 => ⟨ds.length - (i + 1), by omega, rfl, by omega, p3⟩, fun x H3 y => ?_⟩
      obtain ⟨F3, e3, w3, r3⟩ := yl x H3 y
      obtain ⟨js, ρ1, ha, hb⟩ := hs i _ μ' ρ' (List.getElem?_eq_getElem hlt) hI
      refine ha σ' F3 M' H3 x (rs'.mono e3) w3 r3 _ fun σ2 rs2 _ => ?_
      have s3 : Stp F M μ F3 M' H3 μ' := s.trans (Stp.pure s.rm e3 w3)
      refine hb σ2 F3 M' H3 rs2 s3.rm w3 _ ⟨?_, ?_, ?_, ?_, ?_⟩
      · exact fun μ4 ρ4 σ4 F4 M4 H4 h4 s4 rs4 => ⟨μ4, ρ4, F4, M4, h4, eF.trans (e3.trans s4.ex), s3.trans s4, rs4⟩
      · exact fun μ4 d4 v4 F4 M4 H4 h4 s4 r4 => tk.rt μ4 d4 v4 F4 M4 H4 h4 (s3.trans s4) r4
      · exact fun _ _ _ _ _ _ h4 => h4.elim
      · exact fun μ4 ρ4 σ4 F4 M4 H4 h4 s4 rs4 => ⟨μ4, ρ4, F4, M4, h4, eF.trans (e3.trans s4.ex), s3.trans s4, rs4⟩
      · exact fun μ4 x4 F4 M4 H4 d4 h4 s4 r4 => tk.ex μ4 x4 F4 M4 H4 d4 h4 (s3.trans s4) r4
    · left
      have ei : i = ds.length := by omega
      subst ei
      exact ⟨s1, hd μ' ρ' hI σ' F' M' H' rs' s.rm s.wd E (tk.step s)⟩
theorem sv_for {wi : TI} {tb : TS} {ds : List D} (hi : EvI mu0 wi ρ ds) (Iv : Nat → Mu → DEnv → Prop) (h0 : Iv 0 μ ρ)
    (hs : ∀ i d μ' ρ', ds[i]? = some d → Iv i μ' ρ' → ∃ js ρ1, Asg g js ρ' d ρ1 ∧ Sv μ' tb ρ1 { nx := Iv (i + 1), ct := Iv (i + 1), rt := K.rt, ex := K.ex })
    (hd : ∀ μ' ρ', Iv ds.length μ' ρ' → K.nx μ' ρ') : Sv μ (tFor wi g tb) ρ K :=
  q_for (u := tNext) hi Iv h0 hs fun μ' ρ' h => sv_next (hd μ' ρ' h)
/-- while -/
theorem q_while {tb : TS} (Iv : Nat → Mu → DEnv → Prop) (m0 : Nat) (h0 : Iv m0 μ ρ)
    (hs : ∀ m μ' ρ', Iv m μ' ρ' → ∃ b, EvT μ' c ρ' b ∧ (b = true → Sv μ' tb ρ' { nx := fun μ2 ρ2 => ∃ m', m' < m ∧ Iv m' μ2 ρ2, ct := fun μ2 ρ2 => ∃ m', m' < m ∧ Iv m' μ2 ρ2, rt := K.rt, ex := K.ex }) ∧ (b = false → Sv μ' u ρ' K)) :
    Sv μ (tSeq (tWhile c tb) u) ρ K := fun σ F M H rs rm w E tk => by
  refine ⟨fun m σ' H' => ∃ μ' ρ' F' M', Iv m μ' ρ' ∧ Stp F M μ F' M' H' μ' ∧ RepS F' ρ' σ', ⟨m0, μ, ρ, F, M, h0, Stp.pure rm (Same.refl F) w, rs⟩, ?_⟩
  rintro m σ' H' ⟨μ', ρ', F', M', hI, s, rs'⟩
  obtain ⟨b, hb, h1, h2⟩ := hs m μ' ρ' hI
  refine hb σ' F' M' H' rs' s.rm s.wd _ fun F2 H2 e2 w2 => ?_
  have s2 : Stp F M μ F2 M' H2 μ' := s.trans (Stp.pure s.rm e2 w2)
  cases b with
  | true =>
    show ∃ N, _
    refine ⟨fun σ3 H3 => ∃ m', m' < m ∧ ∃ μ' ρ' F' M', Iv m' μ' ρ' ∧ Stp F M μ F' M' H3 μ' ∧ RepS F' ρ' σ3, fun σ3 H3 h3 => h3, ?_⟩
    refine h1 rfl σ' F2 M' H2 (rs'.mono e2) s2.rm w2 _ ⟨?_, ?_, ?_, ?_, ?_⟩
    · rintro μ4 ρ4 σ4 F4 M4 H4 ⟨m', hm, h4⟩ s4 rs4
      exact ⟨m', hm, μ4, ρ4, F4, M4, h4, s2.trans s4, rs4⟩
    · exact fun μ4 d4 v4 F4 M4 H4 h4 s4 r4 => tk.rt μ4 d4 v4 F4 M4 H4 h4 (s2.trans s4) r4
    · exact fun _ _ _ _ _ _ h4 => h4.elim
    · rintro μ4 ρ4 σ4 F4 M4 H4 ⟨m', hm, h4⟩ s4 rs4
      exact ⟨m', hm, μ4, ρ4, F4, M4, h4, s2.trans s4, rs4⟩
    · exact fun μ4 x4 F4 M4 H4 d4 h4 s4 r4 => tk.ex μ4 x4 F4 M4 H4 d4 h4 (s2.trans s4) r4
  | false =>
    show u E σ' H2
    exact h2 rfl σ' F2 M' H2 (rs'.mono e2) s2.rm w2 E (tk.step s2)
end

/-! ### a def -/
def start0 (n : Nat) (ds : List D) : DEnv := ds.map some ++ List.replicate (n - ds.length) none
theorem repS_start {F : Hp} {N : List Str} {ds : List D} {vs : List V} (r : RepL F ds vs) : RepS F (start0 N.length ds) (L2.start N vs) := by
  have hl := r.len
  refine ⟨by simp [start0, L2.start, hl], fun i d h => ?_⟩
  by_cases q : i < ds.length
  · rw [start0, List.getElem?_append_left (by simpa using q), List.getElem?_map] at h
    obtain ⟨d', h1, h2⟩ := Option.map_eq_some_iff.mp h
    cases h2
    obtain ⟨v, hv, rv⟩ := r.get h1
    refine ⟨v, ?_, rv⟩
    rw [L2.start, List.getElem?_append_left (by simp; omega), List.getElem?_map, hv]
    rfl
  · rw [start0, List.getElem?_append_right (by simp; omega), List.getElem?_replicate] at h
    split at h <;> cases h
/-- how a body keeps the promise of data -/
theorem run_sv {f : List D → D → Prop} {t : TS} {N : List Str} {vs : List V} {H : Hp} {Q : VK} {E : XK} (hs : spF f vs H Q E)
    (hb : ∀ ds d, f ds d → Sv mu0 t (start0 N.length ds) { nx := fun _ _ => d = .non, rt := fun _ d' => d' = d }) : t { nx := fun _ H' => Q .non H', rt := Q } (L2.start N vs) H := by
  obtain ⟨F, M, ds, d, w, r, hf, q⟩ := hs
  refine hb ds d hf _ F M H (repS_start r) repM0 w _ ⟨?_, ?_, ?_, ?_, ?_⟩
  · rintro μ' ρ' σ' F2 M2 H2 rfl s _
    exact q _ F2 H2 s.ex (s.wd.less fun a o h => (s.fr a o h rfl).1) .non
  · rintro μ' d' v F2 M2 H2 rfl s r2
    exact q _ F2 H2 s.ex (s.wd.less fun a o h => (s.fr a o h rfl).1) r2
  · exact fun _ _ _ _ _ _ h => h.elim
  · exact fun _ _ _ _ _ _ h => h.elim
  · exact fun _ _ _ _ _ _ h => h.elim
/-! ### expressions that raise -/
def EvR (μ : Mu) (te : TE) (ρ : DEnv) (x : XD) : Prop := ∀ (σ : L2.St) (F M H : Hp), RepS F ρ σ → RepM F M μ → Wd F M H → XWish x F M → ∀ Q : VK, te σ H Q
theorem Tak.wish {K : Kt} {F M : Hp} {μ : Mu} {E : Ends} {x : XD} (t : Tak K F M μ E) (rm : RepM F M μ) (k : K.ex μ x) : XWish x F M := fun F2 H2 d e w a => t.ex μ x F2 M H2 d k (Stp.pure rm e w) a
theorem XWish.mono {x : XD} {F F2 M : Hp} (h : XWish x F M) (e : Same F F2) : XWish x F2 M := fun F3 H3 d e3 w a => h F3 H3 d (e.trans e3) w a
section
variable {μ : Mu} {ρ : DEnv} {te ta tb : TE} {g : TG} {K : Kt} {t u : TS} {x : XD} {r : R2} {d : D}
theorem er_op (h : EvR μ ta ρ x) : EvR μ (tOp r ta tb) ρ x := fun σ F M H rs rm w wx Q => h σ F M H rs rm w wx _
theorem sv_asgR (h : EvR μ te ρ x) (k : K.ex μ x) : Sv μ (tAsg te g) ρ K := fun σ F M H rs rm w E tk => h σ F M H rs rm w (tk.wish rm k) _
theorem q_asgR (h : EvR μ te ρ x) (k : K.ex μ x) : Sv μ (tSeq (tAsg te g) u) ρ K := fun σ F M H rs rm w E tk => h σ F M H rs rm w (tk.wish rm k) _
theorem sv_retR (h : EvR μ te ρ x) (k : K.ex μ x) : Sv μ (tRet te) ρ K := fun σ F M H rs rm w E tk => h σ F M H rs rm w (tk.wish rm k) _
/-! a promise that may raise -/
inductive Out where
  | val (d : D) | exc (x : XD)
def OutOk (o : Out) (F M : Hp) (Q : VK) (E : XK) : Prop := match o with
  | .val d => ∀ v F2 H2, Same F F2 → Wd F2 M H2 → Rep F2 d v → Q v H2
  | .exc x => ∀ F2 H2 d, Same F F2 → Wd F2 M H2 → x.At d H2 → E (.ref x.cls) d H2
def spX (f : List D → Out → Prop) : Sp := fun vs H Q E => ∃ (F M : Hp) (ds : List D) (o : Out), Wd F M H ∧ RepL F ds vs ∧ f ds o ∧ OutOk o F M Q E
theorem spXD {f : List D → Out → Prop} {ds : List D} {d : D} (h : f ds (.val d)) : SpD (spX f) ds d := fun F M H vs E r w Q q => ⟨F, M, ds, .val d, w, r, h, q⟩
theorem er_call0 {f : List D → Out → Prop} {tr : TA} {ds : List D} (h : EvA μ tr ρ ds) (hf : f ds (.exc x)) : EvR μ (tCall (spX f) [] Xw.E tr) ρ x := fun σ F M H rs rm w wx Q =>
  h σ F M H rs rm w _ fun vs F1 H1 e1 w1 r1 => by
    rw [List.append_nil]
    exact ⟨F1, M, ds, .exc x, w1, r1, hf, fun F2 H2 d e2 w2 a => wx F2 H2 d (e1.trans e2) w2 a⟩
end
omit [Xw] in
/-- how a body keeps such a promise; the wish of exceptions is the caller's -/
theorem run_svX {f : List D → Out → Prop} {t : TS} {N : List Str} {vs : List V} {H : Hp} {Q : VK} {E : XK} (hs : spX f vs H Q E)
    (hb : letI : Xw := ⟨E⟩; ∀ ds o, f ds o → Sv mu0 t (start0 N.length ds) { nx := fun _ _ => o = .val .non, rt := fun _ d' => o = .val d', ex := fun _ x => o = .exc x }) : t { nx := fun _ H' => Q .non H', rt := Q } (L2.start N vs) H := by
  letI : Xw := ⟨E⟩
  obtain ⟨F, M, ds, o, w, r, hf, q⟩ := hs
  refine hb ds o hf _ F M H (repS_start r) repM0 w _ (@Tak.mk _ ⟨E⟩ _ _ _ _ _ ?_ ?_ ?_ ?_ ?_)
  · rintro μ' ρ' σ' F2 M2 H2 rfl s _
    exact q _ F2 H2 s.ex (s.wd.less fun a o h => (s.fr a o h rfl).1) .non
  · rintro μ' d' v F2 M2 H2 rfl s r2
    exact q _ F2 H2 s.ex (s.wd.less fun a o h => (s.fr a o h rfl).1) r2
  · exact fun _ _ _ _ _ _ h => h.elim
  · exact fun _ _ _ _ _ _ h => h.elim
  · rintro μ' x F2 M2 H2 d rfl s a
    exact q F2 H2 d s.ex (s.wd.less fun a o h => (s.fr a o h rfl).1) a
end Mf
set_option maxRecDepth 100000
set_option maxHeartbeats 2000000
/-! Meetfolk: one rule an operator, whatever the operands are, and what it comes to on data. -/
namespace Mf
open PySem L2 PyProof.Rows
variable [Tt] [Xw]

/-! ### rules by the union of the layer's -/
def rRepS : R2 := fun x y H Q => ∃ z k, x = .str z ∧ y = .int k ∧ 0 ≤ k ∧ k ≤ 100 ∧ z.length ≤ 100 ∧ Q (.str ⟨(List.replicate k.toNat z.cps.toList).flatten.toArray⟩) H
theorem fold_rep (z : Array Nat) : ∀ (k : Nat) (acc : List Nat), List.foldl (fun (x1 x2 : Array Nat) => x1 ++ x2) acc.toArray (List.replicate k z) = (acc ++ (List.replicate k z.toList).flatten).toArray
  | 0, acc => by simp
  | k + 1, acc => by
    rw [List.replicate_succ, List.foldl_cons, List.replicate_succ, List.flatten_cons]
    have e : acc.toArray ++ z = (acc ++ z.toList).toArray := by simp
    rw [e, fold_rep z k, List.append_assoc]
section
variable {X : Cx}
theorem op_repS : OpR X (binaryOp .Mult) rRepS := by
  intro pins s σ H x y v u Q I r1 r2 h
  obtain ⟨z, k, rfl, rfl, h0, h1, hz, q⟩ := h
  obtain ⟨t, rfl⟩ := r1
  obtain ⟨t', rfl⟩ := r2
  have hzl : z.cps.size ≤ 100 := hz
  refine PySem.P.mul_str ?_ (fun h1' h2' => ?_) (fun _ _ => ?_) ?_
  · rw [decide_eq_false (by omega), decide_eq_false (by omega)] <;> rfl
  · have hk : 0 < k := by omega
    have : (100 : Int) ≤ (2 ^ 63 - 1) / k := by
      rw [Int.le_ediv_iff_mul_le hk]
      omega
    omega
  · have h3 : z.length * k.toNat ≤ 100 * 100 := Nat.mul_le_mul hz (by omega)
    have h4 : z.length * k.toNat ≤ sizeLine := Nat.le_trans h3 (by decide)
    exact decide_eq_false (Nat.not_lt.mpr h4)
  · by_cases hk : k < 1
    · rw [if_pos hk]
      have ek : k = 0 := by omega
      subst ek
      exact ⟨by decide, .str _, H, I.tok _, ⟨_, rfl⟩, q⟩
    · rw [if_neg hk]
      by_cases hb : (k == 1 || z.length == 0) = true
      · rw [if_pos hb]
        have e : (⟨(List.replicate k.toNat z.cps.toList).flatten.toArray⟩ : Str) = z := by
          rw [Bool.or_eq_true, beq_iff_eq, beq_iff_eq] at hb
          refine TL.ext_tl ?_
          show ((List.replicate k.toNat z.cps.toList).flatten.toArray).toList = z.cps.toList
          rcases hb with hb | hb
          · subst hb
            simp
          · have e0 : z.cps.toList = [] := by
              have hs : z.cps.size = 0 := hb
              rw [← List.length_eq_zero_iff, Array.length_toList]
              exact hs
            rw [e0]
            simp
        rw [e] at q
        exact ⟨.str z, H, I, ⟨_, rfl⟩, q⟩
      · rw [if_neg hb]
        have e : (List.replicate k.toNat z.cps).foldl (fun (x1 x2 : Array Nat) => x1 ++ x2) #[] = (List.replicate k.toNat z.cps.toList).flatten.toArray := by
          have := fold_rep z.cps k.toNat []
          simpa using this
        refine ⟨?_, ?_⟩
        · rw [e]
          show ((List.replicate k.toNat z.cps.toList).flatten.toArray).size ≤ sizeLine
          rw [List.size_toArray, List.length_flatten, List.map_replicate, List.sum_replicate_nat, Array.length_toList]
          exact Nat.le_trans (Nat.mul_le_mul (show k.toNat ≤ 100 by omega) hzl) (by decide)
        · rw [e]
          exact ⟨.str _, H, I.tok _, ⟨_, rfl⟩, q⟩
def rAddS : R2 := fun x y H Q => ∃ i j, x = .str i ∧ y = .str j ∧ i.length + j.length ≤ sizeLine ∧ Q (.str (i ++ j)) H
def rAddU : R2 := fun x y H Q => rI0 (fun i j => .int (i + j)) x y H Q ∨ (rAddS x y H Q ∨ rCat x y H Q)
theorem op_addU : OpR X (binaryOp .Add) rAddU := op_add.or (OpR.or (r := rAddS) op_add_str op_cat)
def rMulU : R2 := fun x y H Q => rI CMulW (fun i j => .int (i * j)) x y H Q ∨ (rRep x y H Q ∨ rRepS x y H Q)
theorem op_mulU : OpR X (binaryOp .Mult) rMulU := op_mulW.or (op_rep.or op_repS)
def rSubU : R2 := rI0 fun i j => .int (i - j)
theorem op_subU : OpR X (binaryOp .Sub) rSubU := op_sub
def rDivU : R2 := rI CDivW fun i j => .int (i / j)
theorem op_divU : OpR X (binaryOp .FloorDiv) rDivU := op_fdivW
def rModU : R2 := rI (fun _ j => 0 < j) fun i j => .int (i % j)
theorem op_modU : OpR X (binaryOp .Mod) rModU := op_mod
def rPowU : R2 := rI CPow fun i j => .int (i ^ j.toNat)
theorem op_powU : OpR X (binaryOp .Pow) rPowU := op_pow
def rNegU : V → Hp → VK → Prop := rU fun i => .int (-i)
theorem un_negU : UnR X (unaryOp .USub) rNegU := un_neg
def rS2 (f : Str → Str → Bool) : R2 := fun x y H Q => ∃ i j, x = .str i ∧ y = .str j ∧ Q (.bl (f i j)) H
def sLt (i j : Str) : Bool := decide (i.cps.toList < j.cps.toList)
def rLtU : R2 := fun x y H Q => rI0 (fun i j => .bl (decide (i < j))) x y H Q ∨ rS2 sLt x y H Q
theorem op_ltU : OpR X (compareOp .Lt) rLtU := op_lt.or (r' := rS2 sLt) op_lt_str
def rLeU : R2 := fun x y H Q => rI0 (fun i j => .bl (decide (i ≤ j))) x y H Q ∨ rS2 (fun i j => !sLt j i) x y H Q
theorem op_leU : OpR X (compareOp .LtE) rLeU := op_le.or (r' := rS2 (fun i j => !sLt j i)) op_le_str
def rGtU : R2 := fun x y H Q => rI0 (fun i j => .bl (decide (j < i))) x y H Q ∨ rS2 (fun i j => sLt j i) x y H Q
theorem op_gtU : OpR X (compareOp .Gt) rGtU := op_gt.or (r' := rS2 (fun i j => sLt j i)) op_gt_str
def rGeU : R2 := fun x y H Q => rI0 (fun i j => .bl (decide (j ≤ i))) x y H Q ∨ rS2 (fun i j => !sLt i j) x y H Q
theorem op_geU : OpR X (compareOp .GtE) rGeU := op_ge.or (r' := rS2 (fun i j => !sLt i j)) op_ge_str
def rSgn (neg : Bool) : R2 := fun x y H Q => ∃ (c : Nat) (z : Str), x = .str ⟨#[c]⟩ ∧ y = .str z ∧ Q (.bl (if neg then !decide (c ∈ z.cps.toList) else decide (c ∈ z.cps.toList))) H
def rInU (K : PySem.W.Frag) (neg : Bool) : R2 := fun x y H Q => rSgn neg x y H Q ∨ rIn K neg x y H Q
theorem op_inU : OpR X (compareOp .In) (rInU X.K false) := OpR.or (r := rSgn false) op_in_sign op_in_seq
theorem op_notInU : OpR X (compareOp .NotIn) (rInU X.K true) := OpR.or (r := rSgn true) op_notIn_sign op_notIn_seq
def rSlU (K : PySem.W.Frag) : V → Option Int → Option Int → Hp → VK → Prop := fun x lo hi H Q => rSlL K x lo hi H Q ∨ rSlS x lo hi H Q
theorem sl_U : SlR X (rSlU X.K) := sl_list.or sl_str
def rLenU (K : PySem.W.Frag) : List V → Hp → VK → Prop := fun xs H Q => ∃ x n, xs = [x] ∧ LenV K x H n ∧ Q (.int n) H
theorem call_lenU : CallR X (.builtin "len") (rLenU X.K) := call_len
def rAbs : List V → Hp → VK → Prop := fun xs H Q => ∃ i, xs = [.int i] ∧ Q (.int (if i < 0 then -i else i)) H
theorem call_absU : CallR X (.builtin "abs") rAbs := call_abs
def rInt1 : List V → Hp → VK → Prop := fun xs H Q => (∃ i, xs = [.int i] ∧ Q (.int i) H) ∨ ∃ k, xs = [.bl k] ∧ Q (.int (if k then 1 else 0)) H
theorem call_intU : CallR X (.type "int") rInt1 := call_int1
/-! list(x), tuple(x) -/
def rListT : List V → Hp → VK → Prop := fun xs H Q => ∃ x, xs = [.str x] ∧ x.length ≤ 100000 ∧ ∀ p, H p = none → Q (.ref p) (upd H p (.lst ((signs x).map V.str)))
theorem call_listT (hc : X.calm = true) : CallR X (.type "list") rListT := by
  intro pins s σ H xs us Q I r h
  obtain ⟨x, e, hz, q⟩ := h
  subst e
  obtain ⟨u, eu, rx⟩ := vals1 r
  subst eu
  obtain ⟨t, rfl⟩ := rx
  have hn : x.cps.size ≤ sizeLine := Nat.le_trans hz (by decide)
  refine call_list_str (I.ok.hd hc) x t (hn := hn) fun h' tk acc' c' hk hS hacc => ?_
  refine ⟨.ref s.heap.objs.size, _, I.laid hk (Nat.le_refl _) (show ObjOk X.prog X.w _ _ _ (.lst ((signs x).map V.str)) from ⟨?_, acc'.toList, c', ?_, ?_⟩), rfl, q _ (I.hok.fresh (Nat.le_refl _))⟩
  · rw [List.length_map, signs, List.length_map, Array.length_toList]
    exact hn
  · refine vals_of_at (by rw [List.length_map, signs, List.length_map, Array.length_toList, Array.length_toList, hacc.1]) fun j y w' h1 h2 => ?_
    obtain ⟨c, t', h3, rfl⟩ := hacc.2 j w' (by rw [← Array.getElem?_toList]; exact h2)
    rw [List.getElem?_map, signs, List.getElem?_map, Array.getElem?_toList, h3] at h1
    cases h1
    exact ⟨_, rfl⟩
  · exact hS
def rListS (K : PySem.W.Frag) : List V → Hp → VK → Prop := fun xs H Q => ∃ p ys, xs = [.ref p] ∧ (SqL K H p ys ∨ SqT K H p ys) ∧ ∀ l, H l = none → Q (.ref l) (upd H l (.lst ys))
def rListU (K : PySem.W.Frag) : List V → Hp → VK → Prop := fun xs H Q => rListS K xs H Q ∨ rListT xs H Q
theorem call_listU (hc : X.calm = true) : CallR X (.type "list") (rListU X.K) := CallR.or (r := rListS X.K) call_list_of (call_listT hc)
def rTupU (K : PySem.W.Frag) : List V → Hp → VK → Prop := fun xs H Q => ∃ p ys, xs = [.ref p] ∧ ((SqL K H p ys ∧ ∀ l, H l = none → Q (.ref l) (upd H l (.tup ys))) ∨ (SqT K H p ys ∧ Q (.ref p) H))
theorem call_tupU : CallR X (.type "tuple") (rTupU X.K) := call_tuple_of
/-! max, min, sum of a tuple -/
theorem maxOf_spec : ∀ (xs : List Int) (x : Int), PySem.W.maxOf x xs ∈ x :: xs ∧ ∀ y ∈ x :: xs, y ≤ PySem.W.maxOf x xs
  | [], x => ⟨List.mem_cons_self, fun y hy => by rw [List.mem_singleton.mp hy]; exact Int.le_refl _⟩
  | z :: zs, x => by
    have e : PySem.W.maxOf x (z :: zs) = PySem.W.maxOf (if decide (x < z) = true then z else x) zs := rfl
    obtain ⟨h1, h2⟩ := maxOf_spec zs (if decide (x < z) = true then z else x)
    rw [e]
    by_cases hx : x < z
    · rw [decide_eq_true hx, if_pos rfl] at h1 h2 ⊢
      refine ⟨List.mem_cons_of_mem _ h1, fun y hy => ?_⟩
      rcases List.mem_cons.mp hy with q | q
      · subst q
        exact Int.le_trans (Int.le_of_lt hx) (h2 z List.mem_cons_self)
      · exact h2 y q
    · rw [decide_eq_false hx, if_neg Bool.false_ne_true] at h1 h2 ⊢
      refine ⟨?_, fun y hy => ?_⟩
      · rcases List.mem_cons.mp h1 with q | q
        · rw [q]
          exact List.mem_cons_self
        · exact List.mem_cons_of_mem _ (List.mem_cons_of_mem _ q)
      · rcases List.mem_cons.mp hy with q | q
        · subst q
          exact h2 _ List.mem_cons_self
        · rcases List.mem_cons.mp q with q | q
          · subst q
            exact Int.le_trans (Int.not_lt.mp hx) (h2 _ List.mem_cons_self)
          · exact h2 y (List.mem_cons_of_mem _ q)
theorem minOf_spec : ∀ (xs : List Int) (x : Int), PySem.W.minOf x xs ∈ x :: xs ∧ ∀ y ∈ x :: xs, PySem.W.minOf x xs ≤ y
  | [], x => ⟨List.mem_cons_self, fun y hy => by rw [List.mem_singleton.mp hy]; exact Int.le_refl _⟩
  | z :: zs, x => by
    have e : PySem.W.minOf x (z :: zs) = PySem.W.minOf (if decide (z < x) = true then z else x) zs := rfl
    obtain ⟨h1, h2⟩ := minOf_spec zs (if decide (z < x) = true then z else x)
    rw [e]
    by_cases hx : z < x
    · rw [decide_eq_true hx, if_pos rfl] at h1 h2 ⊢
      refine ⟨List.mem_cons_of_mem _ h1, fun y hy => ?_⟩
      rcases List.mem_cons.mp hy with q | q
      · subst q
        exact Int.le_trans (h2 z List.mem_cons_self) (Int.le_of_lt hx)
      · exact h2 y q
    · rw [decide_eq_false hx, if_neg Bool.false_ne_true] at h1 h2 ⊢
      refine ⟨?_, fun y hy => ?_⟩
      · rcases List.mem_cons.mp h1 with q | q
        · rw [q]
          exact List.mem_cons_self
        · exact List.mem_cons_of_mem _ (List.mem_cons_of_mem _ q)
      · rcases List.mem_cons.mp hy with q | q
        · subst q
          exact h2 _ List.mem_cons_self
        · rcases List.mem_cons.mp q with q | q
          · subst q
            exact Int.le_trans (h2 _ List.mem_cons_self) (Int.not_lt.mp hx)
          · exact h2 y (List.mem_cons_of_mem _ q)
def rMaxT (K : PySem.W.Frag) : List V → Hp → VK → Prop := fun vs H Q => ∃ (a : Addr) (ns : List Int), vs = [V.ref a] ∧ SqT K H a (ns.map V.int) ∧ 0 < ns.length ∧ ∀ m, m ∈ ns → (∀ y, y ∈ ns → y ≤ m) → Q (.int m) H
def rMinT (K : PySem.W.Frag) : List V → Hp → VK → Prop := fun vs H Q => ∃ (a : Addr) (ns : List Int), vs = [V.ref a] ∧ SqT K H a (ns.map V.int) ∧ 0 < ns.length ∧ ∀ m, m ∈ ns → (∀ y, y ∈ ns → m ≤ y) → Q (.int m) H
def rSumT (K : PySem.W.Frag) : List V → Hp → VK → Prop := fun vs H Q => ∃ (a : Addr) (ns : List Int), vs = [V.ref a] ∧ SqT K H a (ns.map V.int) ∧ Q (.int ns.sum) H
theorem ints_at : ∀ {us : List Value} {ns : List Int} {i : Nat} {v : Value}, IntsAre us ns → us[i]? = some v → ∃ n t, v = .int n t
  | _, _, 0, v, .cons n t r, h => ⟨n, t, (Option.some.inj h).symm⟩
  | _, _, i + 1, v, .cons n t r, h => ints_at (i := i) r (by simpa using h)
theorem holds_of_int {h : Heap} {n : Int} {t : Tok} {m : Int} (H : PySem.W.Holds h (.int n t) m) : n = m := by
  obtain ⟨as, r⟩ := H
  cases r
  rfl
theorem cr_maxT (hc : X.calm = true) (hu : X.A.units + 1 < cLine) : CallR X (.builtin "max") (rMaxT X.K) := by
  intro pins s σ H vs us Q I r h
  obtain ⟨a, ns, rfl, hs, hne, q⟩ := h
  obtain ⟨its, rv, ht, _⟩ := I.tuple hs
  rw [Vals.ref1 r]
  cases ns with
  | nil => cases hne
  | cons x xs =>
    have hi : IntsAre its (x :: xs) := rv.ints
    refine PySem.W.max_tuple_datum (x := x) (xs := xs) (I.ok.hd hc) ht (PySem.W.HoldAll.of_ints (by simpa using hi)) (by show X.A.units + 1 + 0 < cLine; omega) fun i v h' tk hv hh hk => ?_
    obtain ⟨n, t, rfl⟩ := ints_at hi (by rw [← Array.getElem?_toList] at hv; exact hv)
    have e := holds_of_int hh
    obtain ⟨h1, h2⟩ := maxOf_spec xs x
    rw [← e] at h1 h2
    exact ⟨.int n, H, I.kept hk, ⟨_, rfl⟩, q n h1 h2⟩
theorem cr_minT (hc : X.calm = true) (hu : X.A.units + 1 < cLine) : CallR X (.builtin "min") (rMinT X.K) := by
  intro pins s σ H vs us Q I r h
  obtain ⟨a, ns, rfl, hs, hne, q⟩ := h
  obtain ⟨its, rv, ht, _⟩ := I.tuple hs
  rw [Vals.ref1 r]
  cases ns with
  | nil => cases hne
  | cons x xs =>
    have hi : IntsAre its (x :: xs) := rv.ints
    refine PySem.W.min_tuple_datum (x := x) (xs := xs) (I.ok.hd hc) ht (PySem.W.HoldAll.of_ints (by simpa using hi)) (by show X.A.units + 1 + 0 < cLine; omega) fun i v h' tk hv hh hk => ?_
    obtain ⟨n, t, rfl⟩ := ints_at hi (by rw [← Array.getElem?_toList] at hv; exact hv)
    have e := holds_of_int hh
    obtain ⟨h1, h2⟩ := minOf_spec xs x
    rw [← e] at h1 h2
    exact ⟨.int n, H, I.kept hk, ⟨_, rfl⟩, q n h1 h2⟩
theorem cr_sumT (hc : X.calm = true) : CallR X (.builtin "sum") (rSumT X.K) := by
  intro pins s σ H vs us Q I r h
  obtain ⟨a, ns, rfl, hs, q⟩ := h
  obtain ⟨its, rv, ht, _⟩ := I.tuple hs
  rw [Vals.ref1 r]
  have hi : IntsAre its ns := rv.ints
  obtain ⟨xs, e⟩ := hi.allInts.items
  have hn : numsOf (intItems xs).toList = ns := by
    rw [← e]
    exact hi.numsOf
  rw [nums_intItems] at hn
  rw [e] at ht
  refine PySem.W.ktm_sumG (I.ok.hd hc) ht fun h' tk t' hk => ⟨.int ns.sum, H, I.kept hk, ⟨t', ?_⟩, q⟩
  rw [preSum_eq, List.take_of_length_le (by simp), hn]
def rMaxU (K : PySem.W.Frag) : List V → Hp → VK → Prop := fun vs H Q => rMax K vs H Q ∨ rMaxT K vs H Q
theorem call_maxU (hc : X.calm = true) (hu : X.A.units + 1 < cLine) : CallR X (.builtin "max") (rMaxU X.K) := (cr_max hc).or (cr_maxT hc hu)
def rMinU (K : PySem.W.Frag) : List V → Hp → VK → Prop := fun vs H Q => rMin K vs H Q ∨ rMinT K vs H Q
theorem call_minU (hc : X.calm = true) (hu : X.A.units + 1 < cLine) : CallR X (.builtin "min") (rMinU X.K) := (cr_min hc).or (cr_minT hc hu)
def rSumU (K : PySem.W.Frag) : List V → Hp → VK → Prop := fun vs H Q => rSum K vs H Q ∨ rSumT K vs H Q
theorem call_sumU (hc : X.calm = true) : CallR X (.builtin "sum") (rSumU X.K) := (cr_sum hc).or (cr_sumT hc)
def rIsiU (K : PySem.W.Frag) : List V → Hp → VK → Prop := fun vs H Q => rIsi K vs H Q ∨ rIsiT K vs H Q
theorem call_isiU : CallR X (.builtin "isinstance") (rIsiU X.K) := call_isi.or call_isiT
/-! what is walked: a list, a tuple, a text -/
def iSeq (K : PySem.W.Frag) (te : TE) : TI := fun σ H R => iList K te σ H R ∨ (iTup K te σ H R ∨ iStr te σ H R)
theorem pi_seq {tg e : Expr} {te : TE} (h : PE X e te) : PI X tg e (iSeq X.K te) := ⟨fun pins s σ H R I hh => by
  rcases hh with q | q | q
  · exact (pi_list h).run pins s σ H R I q
  · exact (pi_tup h).run pins s σ H R I q
  · exact (pi_str h).run pins s σ H R I q⟩
end
section
variable {μ : Mu} {ρ : DEnv} {te : TE} {K : PySem.W.Frag} {ds : List D}
theorem ei_seqL (h : Ev μ te ρ (.lst ds)) : EvI μ (iSeq K te) ρ ds := fun σ F M H rs rm w R q => Or.inl (ei_list h σ F M H rs rm w R q)
theorem ei_seqM {p : Addr} (h : Ev μ te ρ (.ref p)) (hm : μ p = some (.l ds)) : EvI μ (iSeq K te) ρ ds := fun σ F M H rs rm w R q => Or.inl (ei_mine h hm σ F M H rs rm w R q)
theorem ei_seqT (h : Ev μ te ρ (.tup ds)) : EvI μ (iSeq K te) ρ ds := fun σ F M H rs rm w R q => Or.inr (Or.inl (ei_tup h σ F M H rs rm w R q))
theorem ei_seqS {x : Str} (h : Ev μ te ρ (.str x)) : EvI μ (iSeq K te) ρ ((signs x).map D.str) := fun σ F M H rs rm w R q => Or.inr (Or.inr (ei_str h σ F M H rs rm w R q))
end
end Mf
set_option maxRecDepth 100000
set_option maxHeartbeats 2000000
/-! Meetfolk: what the operators come to on data. -/
namespace Mf
open PySem L2 PyProof.Rows
variable [Tt] [Xw]

theorem le_line {n : Nat} (h : n ≤ 100000) : n ≤ sizeLine := Nat.le_trans h (by decide)
section
variable {μ : Mu} {K : PySem.W.Frag} {i j : Int} {a b : Str} {l m : List D} {d : D} {p : Addr}
theorem rd_addI : RD μ rAddU (.int i) (.int j) (.int (i + j)) := fun F M H v w r1 r2 rm wd Q q => by
  cases r1
  cases r2
  exact Or.inl ⟨i, j, rfl, rfl, q _ F H (Same.refl F) wd (.int _)⟩
theorem rd_addS (h : a.length + b.length ≤ 100000) : RD μ rAddU (.str a) (.str b) (.str (a ++ b)) := fun F M H v w r1 r2 rm wd Q q => by
  cases r1
  cases r2
  exact Or.inr (Or.inl ⟨a, b, rfl, rfl, le_line h, q _ F H (Same.refl F) wd (.str _)⟩)
theorem rd_addL (h : l.length + m.length ≤ 100000) : RD μ rAddU (.lst l) (.lst m) (.lst (l ++ m)) := fun F M H v w r1 r2 rm wd Q q => by
  cases r1 with
  | lst h1 t1 =>
    cases r2 with
    | lst h2 t2 =>
      exact Or.inr (Or.inr ⟨_, _, _, _, rfl, rfl, wd.f _ _ h1, wd.f _ _ h2, by rw [← t1.len, ← t2.len]; exact le_line h, fun p hp => q _ _ _ (wd.newS hp) (wd.new hp) (.lst upd_same ((t1.app t2).mono (wd.newS hp)))⟩)
theorem rd_sub : RD μ rSubU (.int i) (.int j) (.int (i - j)) := fun F M H v w r1 r2 rm wd Q q => by
  cases r1
  cases r2
  exact ⟨i, j, rfl, rfl, q _ F H (Same.refl F) wd (.int _)⟩
theorem rd_mulI (h : CMulW i j) : RD μ rMulU (.int i) (.int j) (.int (i * j)) := fun F M H v w r1 r2 rm wd Q q => by
  cases r1
  cases r2
  exact Or.inl ⟨i, j, rfl, rfl, h, q _ F H (Same.refl F) wd (.int _)⟩
theorem repL_rep {F : Hp} {l : List D} {xs : List V} (r : RepL F l xs) : ∀ n : Nat, RepL F (List.replicate n l).flatten (List.replicate n xs).flatten
  | 0 => .nil
  | n + 1 => by
    rw [List.replicate_succ, List.replicate_succ, List.flatten_cons, List.flatten_cons]
    exact r.app (repL_rep r n)
theorem rd_mulL (h0 : 0 ≤ i) (h1 : i ≤ 1000) (hl : l.length ≤ 100) : RD μ rMulU (.lst l) (.int i) (.lst (List.replicate i.toNat l).flatten) := fun F M H v w r1 r2 rm wd Q q => by
  cases r1 with
  | lst h2 t2 =>
    cases r2
    refine Or.inr (Or.inl ⟨_, i, _, rfl, rfl, wd.f _ _ h2, by omega, by omega, ?_, fun p hp => q _ _ _ (wd.newS hp) (wd.new hp) (.lst upd_same ((repL_rep t2 _).mono (wd.newS hp)))⟩)
    rw [← t2.len]
    exact Nat.le_trans (Nat.mul_le_mul hl (show i.toNat ≤ 1000 by omega)) (by decide)
theorem rd_mulS (h0 : 0 ≤ i) (h1 : i ≤ 100) (hl : a.length ≤ 100) : RD μ rMulU (.str a) (.int i) (.str ⟨(List.replicate i.toNat a.cps.toList).flatten.toArray⟩) := fun F M H v w r1 r2 rm wd Q q => by
  cases r1
  cases r2
  exact Or.inr (Or.inr ⟨a, i, rfl, rfl, h0, h1, hl, q _ F H (Same.refl F) wd (.str _)⟩)
theorem rd_div (h : CDivW i j) : RD μ rDivU (.int i) (.int j) (.int (i / j)) := fun F M H v w r1 r2 rm wd Q q => by
  cases r1
  cases r2
  exact ⟨i, j, rfl, rfl, h, q _ F H (Same.refl F) wd (.int _)⟩
theorem divOk (h0 : 0 < j) (h1 : j < 1000000000) : CDivW i j := wide_div (b := 64) h0 (by omega) (by decide) (by decide)
theorem rd_mod (h : 0 < j) : RD μ rModU (.int i) (.int j) (.int (i % j)) := fun F M H v w r1 r2 rm wd Q q => by
  cases r1
  cases r2
  exact ⟨i, j, rfl, rfl, h, q _ F H (Same.refl F) wd (.int _)⟩
theorem rd_pow (h : CPow i j) : RD μ rPowU (.int i) (.int j) (.int (i ^ j.toNat)) := fun F M H v w r1 r2 rm wd Q q => by
  cases r1
  cases r2
  exact ⟨i, j, rfl, rfl, h, q _ F H (Same.refl F) wd (.int _)⟩
theorem ud_neg : UD μ rNegU (.int i) (.int (-i)) := fun F M H v r1 rm wd Q q => by
  cases r1
  exact ⟨i, rfl, q _ F H (Same.refl F) wd (.int _)⟩
theorem rd_ltI : RD μ rLtU (.int i) (.int j) (.bl (decide (i < j))) := fun F M H v w r1 r2 rm wd Q q => by
  cases r1
  cases r2
  exact Or.inl ⟨i, j, rfl, rfl, q _ F H (Same.refl F) wd (.bl _)⟩
theorem rd_leI : RD μ rLeU (.int i) (.int j) (.bl (decide (i ≤ j))) := fun F M H v w r1 r2 rm wd Q q => by
  cases r1
  cases r2
  exact Or.inl ⟨i, j, rfl, rfl, q _ F H (Same.refl F) wd (.bl _)⟩
theorem rd_gtI : RD μ rGtU (.int i) (.int j) (.bl (decide (j < i))) := fun F M H v w r1 r2 rm wd Q q => by
  cases r1
  cases r2
  exact Or.inl ⟨i, j, rfl, rfl, q _ F H (Same.refl F) wd (.bl _)⟩
theorem rd_geI : RD μ rGeU (.int i) (.int j) (.bl (decide (j ≤ i))) := fun F M H v w r1 r2 rm wd Q q => by
  cases r1
  cases r2
  exact Or.inl ⟨i, j, rfl, rfl, q _ F H (Same.refl F) wd (.bl _)⟩
theorem rd_ltS : RD μ rLtU (.str a) (.str b) (.bl (sLt a b)) := fun F M H v w r1 r2 rm wd Q q => by
  cases r1
  cases r2
  exact Or.inr ⟨a, b, rfl, rfl, q _ F H (Same.refl F) wd (.bl _)⟩
theorem rd_leS : RD μ rLeU (.str a) (.str b) (.bl (!sLt b a)) := fun F M H v w r1 r2 rm wd Q q => by
  cases r1
  cases r2
  exact Or.inr ⟨a, b, rfl, rfl, q _ F H (Same.refl F) wd (.bl _)⟩
/-- one sign in a text -/
theorem rd_inS {c : Nat} : RD μ (rInU K false) (.str ⟨#[c]⟩) (.str a) (.bl (decide (c ∈ a.cps.toList))) := fun F M H v w r1 r2 rm wd Q q => by
  cases r1
  cases r2
  exact Or.inl ⟨c, a, rfl, rfl, q _ F H (Same.refl F) wd (.bl _)⟩
theorem rd_ninS {c : Nat} : RD μ (rInU K true) (.str ⟨#[c]⟩) (.str a) (.bl (!decide (c ∈ a.cps.toList))) := fun F M H v w r1 r2 rm wd Q q => by
  cases r1
  cases r2
  exact Or.inl ⟨c, a, rfl, rfl, q _ F H (Same.refl F) wd (.bl _)⟩
theorem inV_ints (i : Int) : ∀ ns : List Int, inV (.int i) (ns.map V.int) = decide (i ∈ ns)
  | [] => by
    show false = _
    simp
  | n :: ns => by
    show (eqV (.int n) (.int i) || inV (.int i) (ns.map V.int)) = _
    rw [inV_ints i ns]
    show ((n == i) || decide (i ∈ ns)) = _
    by_cases h : n = i
    · subst h
      simp
    · have h2 : ¬ i = n := fun e => h e.symm
      simp [h, h2]
theorem flat_ints (ns : List Int) : (ns.map V.int).all flatV = true := by
  rw [List.all_eq_true]
  intro x hx
  obtain ⟨n, _, rfl⟩ := List.mem_map.mp hx
  rfl
theorem rd_ninI {ns : List Int} : RD μ (rInU K true) (.int i) (.lst (ns.map D.int)) (.bl (!decide (i ∈ ns))) := fun F M H v w r1 r2 rm wd Q q => by
  cases r1
  cases r2 with
  | lst h1 t1 =>
    have e := t1.ints
    subst e
    refine Or.inr ⟨_, _, rfl, Or.inl (Or.inl (Or.inl (wd.f _ _ h1))), rfl, flat_ints ns, ?_⟩
    rw [if_pos rfl, inV_ints]
    exact q _ F H (Same.refl F) wd (.bl _)
/-! subscripts -/
theorem repL_at {F : Hp} {xs : List V} (r : RepL F l xs) (h : atI l i = some d) : ∃ v, atI xs i = some v ∧ Rep F d v := by
  unfold atI at h ⊢
  rw [← r.len]
  cases e : ixN l.length i with
  | none =>
    rw [e] at h
    cases h
  | some k =>
    rw [e] at h
    exact r.get h
theorem rd_ixL (h : atI l i = some d) : RD μ (rIx K) (.lst l) (.int i) d := fun F M H v w r1 r2 rm wd Q q => by
  cases r2
  cases r1 with
  | lst h1 t1 =>
    obtain ⟨v, hv, rv⟩ := repL_at t1 h
    exact Or.inl ⟨_, _, i, v, rfl, rfl, Or.inl (Or.inl (wd.f _ _ h1)), hv, q _ F H (Same.refl F) wd rv⟩
theorem rd_ixT (h : atI l i = some d) : RD μ (rIx K) (.tup l) (.int i) d := fun F M H v w r1 r2 rm wd Q q => by
  cases r2
  cases r1 with
  | tup h1 t1 =>
    obtain ⟨v, hv, rv⟩ := repL_at t1 h
    exact Or.inr (Or.inl ⟨_, _, i, v, rfl, rfl, Or.inl (Or.inl (wd.f _ _ h1)), hv, q _ F H (Same.refl F) wd rv⟩)
theorem rd_ixM (hm : μ p = some (.l l)) (h : atI l i = some d) : RD μ (rIx K) (.ref p) (.int i) d := fun F M H v w r1 r2 rm wd Q q => by
  cases r2
  cases r1
  obtain ⟨xs, h1, t1⟩ := rm.l hm
  obtain ⟨v, hv, rv⟩ := repL_at t1 h
  exact Or.inl ⟨_, _, i, v, rfl, rfl, Or.inl (Or.inl (wd.m _ _ h1)), hv, q _ F H (Same.refl F) wd rv⟩
theorem rd_ixS {c : Nat} (hl : a.length ≤ 100000) (h : atI a.cps.toList i = some c) : RD μ (rIx K) (.str a) (.int i) (.str ⟨#[c]⟩) := fun F M H v w r1 r2 rm wd Q q => by
  cases r2
  cases r1
  exact Or.inr (Or.inr ⟨a, i, c, rfl, rfl, le_line hl, h, q _ F H (Same.refl F) wd (.str _)⟩)
/-! slices -/
def cutD (l : List D) (lo hi : Option Int) : List D := (l.drop (HT.sIx l.length 0 lo)).take (HT.sIx l.length l.length hi - HT.sIx l.length 0 lo)
theorem sd_L {lo hi : Option Int} : SlD μ (rSlU K) (.lst l) lo hi (.lst (cutD l lo hi)) := fun F M H v r1 rm wd Q q => by
  cases r1 with
  | lst h1 t1 =>
    refine Or.inl ⟨_, _, rfl, Or.inl (Or.inl (wd.f _ _ h1)), fun p hp => q _ _ _ (wd.newS hp) (wd.new hp) (.lst upd_same ?_)⟩
    unfold cutV cutD
    rw [← t1.len]
    exact ((t1.drop _).take _).mono (wd.newS hp)
theorem sd_S {lo hi : Option Int} (hl : a.length ≤ 100000) : SlD μ (rSlU K) (.str a) lo hi (.str (cutS a lo hi)) := fun F M H v r1 rm wd Q q => by
  cases r1
  exact Or.inr ⟨a, rfl, le_line hl, q _ F H (Same.refl F) wd (.str _)⟩
theorem cutD_tail {lo : Nat} : cutD l (some (lo : Int)) none = l.drop lo := by
  unfold cutD
  rw [HT.sIx_none, HT.sIx_nat]
  by_cases h : lo ≤ l.length
  · rw [Nat.min_eq_left h]
    exact List.take_of_length_le (by rw [List.length_drop]; exact Nat.le_refl _)
  · rw [Nat.min_eq_right (by omega), Nat.sub_self, List.take_zero, List.drop_eq_nil_of_le (by omega)]
theorem cutD_head {hi : Nat} (h : hi ≤ l.length) : cutD l none (some (hi : Int)) = l.take hi := by
  unfold cutD
  rw [HT.sIx_none, HT.sIx_nat, Nat.min_eq_left h, Nat.sub_zero, List.drop_zero]
theorem cutD_mid {lo hi : Nat} (h : hi ≤ l.length) (h2 : lo ≤ hi) : cutD l (some (lo : Int)) (some (hi : Int)) = (l.drop lo).take (hi - lo) := by
  unfold cutD
  rw [HT.sIx_nat, HT.sIx_nat, Nat.min_eq_left h, Nat.min_eq_left (by omega)]
/-! built-in calls -/
theorem cd_lenL : CD μ (rLenU K) [.lst l] (.int (l.length : Nat)) := fun F M H vs r1 rm wd Q q => by
  cases r1 with
  | cons r1 t =>
    cases t
    cases r1 with
    | lst h1 t1 => exact ⟨_, l.length, rfl, Or.inl ⟨_, Or.inl (Or.inl (wd.f _ _ h1)), t1.len⟩, q _ F H (Same.refl F) wd (.int _)⟩
theorem cd_lenT : CD μ (rLenU K) [.tup l] (.int (l.length : Nat)) := fun F M H vs r1 rm wd Q q => by
  cases r1 with
  | cons r1 t =>
    cases t
    cases r1 with
    | tup h1 t1 => exact ⟨_, l.length, rfl, Or.inr ⟨_, Or.inl (Or.inl (wd.f _ _ h1)), t1.len⟩, q _ F H (Same.refl F) wd (.int _)⟩
theorem cd_lenM (hm : μ p = some (.l l)) : CD μ (rLenU K) [.ref p] (.int (l.length : Nat)) := fun F M H vs r1 rm wd Q q => by
  cases r1 with
  | cons r1 t =>
    cases t
    cases r1
    obtain ⟨xs, h1, t1⟩ := rm.l hm
    exact ⟨_, l.length, rfl, Or.inl ⟨_, Or.inl (Or.inl (wd.m _ _ h1)), t1.len⟩, q _ F H (Same.refl F) wd (.int _)⟩
theorem cd_lenS (hl : a.length ≤ 100000) : CD μ (rLenU K) [.str a] (.int (a.length : Nat)) := fun F M H vs r1 rm wd Q q => by
  cases r1 with
  | cons r1 t =>
    cases t
    cases r1
    exact ⟨_, a.length, rfl, ⟨le_line hl, rfl⟩, q _ F H (Same.refl F) wd (.int _)⟩
theorem cd_abs : CD μ rAbs [.int i] (.int (i.natAbs : Nat)) := fun F M H vs r1 rm wd Q q => by
  cases r1 with
  | cons r1 t =>
    cases t
    cases r1
    refine ⟨i, rfl, ?_⟩
    have e : (if i < 0 then -i else i) = (i.natAbs : Nat) := by
      split <;> omega
    rw [e]
    exact q _ F H (Same.refl F) wd (.int _)
theorem cd_int : CD μ rInt1 [.int i] (.int i) := fun F M H vs r1 rm wd Q q => by
  cases r1 with
  | cons r1 t =>
    cases t
    cases r1
    exact Or.inl ⟨i, rfl, q _ F H (Same.refl F) wd (.int _)⟩
theorem cd_listL : CD μ (rListU K) [.lst l] (.lst l) := fun F M H vs r1 rm wd Q q => by
  cases r1 with
  | cons r1 t =>
    cases t
    cases r1 with
    | lst h1 t1 => exact Or.inl ⟨_, _, rfl, Or.inl (Or.inl (Or.inl (wd.f _ _ h1))), fun p hp => q _ _ _ (wd.newS hp) (wd.new hp) (.lst upd_same (t1.mono (wd.newS hp)))⟩
theorem cd_listT : CD μ (rListU K) [.tup l] (.lst l) := fun F M H vs r1 rm wd Q q => by
  cases r1 with
  | cons r1 t =>
    cases t
    cases r1 with
    | tup h1 t1 => exact Or.inl ⟨_, _, rfl, Or.inr (Or.inl (Or.inl (wd.f _ _ h1))), fun p hp => q _ _ _ (wd.newS hp) (wd.new hp) (.lst upd_same (t1.mono (wd.newS hp)))⟩
theorem cd_listS (hl : a.length ≤ 100000) : CD μ (rListU K) [.str a] (.lst ((signs a).map D.str)) := fun F M H vs r1 rm wd Q q => by
  cases r1 with
  | cons r1 t =>
    cases t
    cases r1
    exact Or.inr ⟨a, rfl, hl, fun p hp => q _ _ _ (wd.newS hp) (wd.new hp) (.lst upd_same (RepL.ofStrs _))⟩
theorem cd_tupL : CD μ (rTupU K) [.lst l] (.tup l) := fun F M H vs r1 rm wd Q q => by
  cases r1 with
  | cons r1 t =>
    cases t
    cases r1 with
    | lst h1 t1 => exact ⟨_, _, rfl, Or.inl ⟨Or.inl (Or.inl (wd.f _ _ h1)), fun p hp => q _ _ _ (wd.newS hp) (wd.new hp) (.tup upd_same (t1.mono (wd.newS hp)))⟩⟩
theorem cd_tupM (hm : μ p = some (.l l)) : CD μ (rTupU K) [.ref p] (.tup l) := fun F M H vs r1 rm wd Q q => by
  cases r1 with
  | cons r1 t =>
    cases t
    cases r1
    obtain ⟨xs, h1, t1⟩ := rm.l hm
    exact ⟨_, _, rfl, Or.inl ⟨Or.inl (Or.inl (wd.m _ _ h1)), fun p hp => q _ _ _ (wd.newS hp) (wd.new hp) (.tup upd_same (t1.mono (wd.newS hp)))⟩⟩
theorem cd_all {bs : List Bool} : CD μ (rAll K) [.lst (bs.map D.bl)] (.bl (bs.all id)) := fun F M H vs r1 rm wd Q q => by
  cases r1 with
  | cons r1 t =>
    cases t
    cases r1 with
    | lst h1 t1 =>
      have e := t1.bls
      subst e
      exact ⟨_, bs, rfl, Or.inl (Or.inl (wd.f _ _ h1)), q _ F H (Same.refl F) wd (.bl _)⟩
theorem cd_any {bs : List Bool} : CD μ (rAny K) [.lst (bs.map D.bl)] (.bl (bs.any id)) := fun F M H vs r1 rm wd Q q => by
  cases r1 with
  | cons r1 t =>
    cases t
    cases r1 with
    | lst h1 t1 =>
      have e := t1.bls
      subst e
      exact ⟨_, bs, rfl, Or.inl (Or.inl (wd.f _ _ h1)), q _ F H (Same.refl F) wd (.bl _)⟩
theorem cd_sumT {ns : List Int} : CD μ (rSumU K) [.tup (ns.map D.int)] (.int ns.sum) := fun F M H vs r1 rm wd Q q => by
  cases r1 with
  | cons r1 t =>
    cases t
    cases r1 with
    | tup h1 t1 =>
      have e := t1.ints
      subst e
      exact Or.inr ⟨_, ns, rfl, Or.inl (Or.inl (wd.f _ _ h1)), q _ F H (Same.refl F) wd (.int _)⟩
def IsMax (ns : List Int) (m : Int) : Prop := m ∈ ns ∧ ∀ y ∈ ns, y ≤ m
def IsMin (ns : List Int) (m : Int) : Prop := m ∈ ns ∧ ∀ y ∈ ns, m ≤ y
theorem IsMax.uniq {ns : List Int} {m m' : Int} (a : IsMax ns m) (b : IsMax ns m') : m' = m := Int.le_antisymm (a.2 _ b.1) (b.2 _ a.1)
theorem IsMin.uniq {ns : List Int} {m m' : Int} (a : IsMin ns m) (b : IsMin ns m') : m' = m := Int.le_antisymm (b.2 _ a.1) (a.2 _ b.1)
theorem pos_of_mem {ns : List Int} {m : Int} (h : m ∈ ns) : 0 < ns.length := List.length_pos_of_mem h
theorem cd_maxT {ns : List Int} {m : Int} (hm : IsMax ns m) : CD μ (rMaxU K) [.tup (ns.map D.int)] (.int m) := fun F M H vs r1 rm wd Q q => by
  cases r1 with
  | cons r1 t =>
    cases t
    cases r1 with
    | tup h1 t1 =>
      have e := t1.ints
      subst e
      refine Or.inr ⟨_, ns, rfl, Or.inl (Or.inl (wd.f _ _ h1)), pos_of_mem hm.1, fun m' h2 h3 => ?_⟩
      rw [hm.uniq ⟨h2, h3⟩]
      exact q _ F H (Same.refl F) wd (.int _)
theorem cd_minT {ns : List Int} {m : Int} (hm : IsMin ns m) : CD μ (rMinU K) [.tup (ns.map D.int)] (.int m) := fun F M H vs r1 rm wd Q q => by
  cases r1 with
  | cons r1 t =>
    cases t
    cases r1 with
    | tup h1 t1 =>
      have e := t1.ints
      subst e
      refine Or.inr ⟨_, ns, rfl, Or.inl (Or.inl (wd.f _ _ h1)), pos_of_mem hm.1, fun m' h2 h3 => ?_⟩
      rw [hm.uniq ⟨h2, h3⟩]
      exact q _ F H (Same.refl F) wd (.int _)
theorem cd_minL {ns : List Int} {m : Int} (hm : IsMin ns m) : CD μ (rMinU K) [.lst (ns.map D.int)] (.int m) := fun F M H vs r1 rm wd Q q => by
  cases r1 with
  | cons r1 t =>
    cases t
    cases r1 with
    | lst h1 t1 =>
      have e := t1.ints
      subst e
      refine Or.inl ⟨_, ns, rfl, Or.inl (Or.inl (wd.f _ _ h1)), pos_of_mem hm.1, fun m' h2 h3 => ?_⟩
      rw [hm.uniq ⟨h2, h3⟩]
      exact q _ F H (Same.refl F) wd (.int _)
/-! isinstance -/
def dty : D → String
  | .non => "NoneType"
  | .bl _ => "bool"
  | .int _ => "int"
  | .str _ => "str"
  | .tup _ => "tuple"
  | .lst _ => "list"
  | _ => "?"
theorem tyX {F M H : Hp} {v : V} (r : Rep F d v) (wd : Wd F M H) (h : dty d ≠ "?") : TyX K H v (.type (dty d)) := by
  cases r with
  | non => exact .base .non
  | bl b => exact .base (.bl b)
  | int i => exact .base (.int i)
  | str x => exact .base (.str x)
  | tup h1 t1 => exact .base (.tup (wd.f _ _ h1))
  | lst h1 t1 => exact .base (.lst (wd.f _ _ h1))
  | ref a => exact absurd rfl h
  | ty n => exact absurd rfl h
  | own _ => exact absurd rfl h
theorem ev_ty {n : String} {ρ : DEnv} : Ev μ (tC (.ty n)) ρ (.ty n) := fun σ F M H _ _ w Q q => q _ F H (Same.refl F) w (.ty n)
theorem cd_isi {n : String} {b : Bool} (h : kitB (dty d) n = some b) (hd : dty d ≠ "?") : CD μ (rIsiU K) [d, .ty n] (.bl b) := fun F M H vs r1 rm wd Q q => by
  cases r1 with
  | cons r1 t =>
    cases t with
    | cons r2 t =>
      cases t
      cases r2
      exact Or.inl ⟨_, _, _, _, b, rfl, .ty n, tyX r1 wd hd, kit_ty h, q _ F H (Same.refl F) wd (.bl _)⟩
theorem cd_isi2 {n m : String} {b c : Bool} (h : kitB (dty d) n = some b) (h' : kitB (dty d) m = some c) (hd : dty d ≠ "?") : CD μ (rIsiU K) [d, .tup [.ty n, .ty m]] (.bl (b || c)) := fun F M H vs r1 rm wd Q q => by
  cases r1 with
  | cons r1 t =>
    cases t with
    | cons r2 t =>
      cases t
      cases r2 with
      | tup h1 t1 =>
        cases t1 with
        | cons s1 t1 =>
          cases s1
          cases t1 with
          | cons s2 t1 =>
            cases s2
            cases t1
            refine Or.inr ⟨_, _, _, _, _, b || c, rfl, wd.f _ _ h1, .cons (.ty n) (.cons (.ty m) .nil), tyX r1 wd hd, ?_, q _ F H (Same.refl F) wd (.bl _)⟩
            refine kitAny_cons (kit_ty h) (fun hb => ?_) (fun hb => by rw [hb, Bool.true_or])
            rw [hb, Bool.false_or]
            exact kitAny_cons (kit_ty h') (fun hc => by rw [hc]; exact kitAny_nil) (fun hc => hc)
/-! methods of texts and lists -/
theorem bd_count : BD μ K "str" (fun x xs H Q => ∃ a b, x = .str a ∧ xs = [.str b] ∧ Q (.int (Txt.count a b)) H) (.str a) [.str b] (.int (Txt.count a b)) := fun F M H v r1 rm wd => by
  cases r1
  refine ⟨rfl, fun F1 H1 vs e w t Q q => ?_⟩
  cases t with
  | cons t1 t =>
    cases t
    cases t1
    exact ⟨a, b, rfl, rfl, q _ F1 H1 (Same.refl F1) w (.int _)⟩
def rJoin (K : PySem.W.Frag) : V → List V → Hp → VK → Prop := fun x xs H Q => ∃ a p, ∃ ys : List Str, x = .str a ∧ xs = [.ref p] ∧ (SqL K H p (ys.map V.str) ∨ SqT K H p (ys.map V.str)) ∧ (ys.map (·.length)).sum + ys.length * a.length ≤ 16777216 ∧ Q (.str (Txt.join a ys)) H
theorem bd_join {ys : List Str} (h : (ys.map (·.length)).sum + ys.length * a.length ≤ 16777216) : BD μ K "str" (rJoin K) (.str a) [.lst (ys.map D.str)] (.str (Txt.join a ys)) := fun F M H v r1 rm wd => by
  cases r1
  refine ⟨rfl, fun F1 H1 vs e w t Q q => ?_⟩
  cases t with
  | cons t1 t =>
    cases t
    cases t1 with
    | lst h1 t1 =>
      have e := t1.strs
      subst e
      exact ⟨a, _, ys, rfl, rfl, Or.inl (Or.inl (Or.inl (w.f _ _ h1))), h, q _ F1 H1 (Same.refl F1) w (.str _)⟩
end

/-! ### data that == tells apart as it is -/
mutual
def toP : D → PyData
  | .non => .none
  | .bl b => .bool b
  | .int i => .int i
  | .str x => .str x
  | .tup l => .tuple (toPs l)
  | .lst l => .list (toPs l)
  | .ref _ => .none
  | .ty _ => .none
  | .own _ _ => .none
def toPs : List D → List PyData
  | [] => []
  | d :: ds => toP d :: toPs ds
end
mutual
/-- no truth values, no addresses, nested at most n deep -/
def pl : Nat → D → Bool
  | _, .non => true
  | _, .int _ => true
  | _, .str x => PyData.strOk x
  | n, .tup l => decide (1 ≤ n) && pls (n - 1) l
  | n, .lst l => decide (1 ≤ n) && pls (n - 1) l
  | _, _ => false
def pls : Nat → List D → Bool
  | _, [] => true
  | n, d :: ds => pl n d && pls n ds
end
mutual
theorem pl_lay : ∀ (d : D) (n : Nat), pl n d = true → (toP d).canLay0 = true ∧ (toP d).depth ≤ n
  | .non, n, _ => ⟨rfl, Nat.zero_le _⟩
  | .int i, n, _ => ⟨rfl, Nat.zero_le _⟩
  | .str x, n, h => ⟨by simpa [pl, toP, PyData.canLay0] using h, Nat.zero_le _⟩
  | .tup l, n, h => by
    rw [pl, Bool.and_eq_true, decide_eq_true_eq] at h
    obtain ⟨a, b⟩ := pls_lay l (n - 1) h.2
    refine ⟨by rw [toP, PyData.canLay0]; exact a, ?_⟩
    rw [toP, PyData.depth]
    omega
  | .lst l, n, h => by
    rw [pl, Bool.and_eq_true, decide_eq_true_eq] at h
    obtain ⟨a, b⟩ := pls_lay l (n - 1) h.2
    refine ⟨by rw [toP, PyData.canLay0]; exact a, ?_⟩
    rw [toP, PyData.depth]
    omega
  | .bl b, n, h => by simp [pl] at h
  | .ref a, n, h => by simp [pl] at h
  | .ty a, n, h => by simp [pl] at h
theorem pls_lay : ∀ (l : List D) (n : Nat), pls n l = true → PyData.canLayAll0 (toPs l) = true ∧ PyData.depthAll (toPs l) ≤ n
  | [], n, _ => ⟨rfl, Nat.zero_le _⟩
  | d :: ds, n, h => by
    rw [pls, Bool.and_eq_true] at h
    obtain ⟨a, b⟩ := pl_lay d n h.1
    obtain ⟨a2, b2⟩ := pls_lay ds n h.2
    refine ⟨by rw [toPs, PyData.canLayAll0, a, a2] <;> rfl, ?_⟩
    rw [toPs, PyData.depthAll]
    omega
end
mutual
theorem eqv_iff : ∀ (d e : D) (n m : Nat), pl n d = true → pl m e = true → (PyData.eqv (toP d) (toP e) = true ↔ d = e)
  | .non, e, n, m, h1, h2 => by cases e <;> simp_all [pl, toP, PyData.eqv]
  | .int i, e, n, m, h1, h2 => by cases e <;> simp_all [pl, toP, PyData.eqv]
  | .str x, e, n, m, h1, h2 => by cases e <;> simp_all [pl, toP, PyData.eqv]
  | .tup l, .tup k, n, m, h1, h2 => by
    rw [pl, Bool.and_eq_true] at h1 h2
    have := eqvs_iff l k _ _ h1.2 h2.2
    simp only [toP, PyData.eqv, D.tup.injEq]
    exact this
  | .lst l, .lst k, n, m, h1, h2 => by
    rw [pl, Bool.and_eq_true] at h1 h2
    have := eqvs_iff l k _ _ h1.2 h2.2
    simp only [toP, PyData.eqv, D.lst.injEq]
    exact this
  | .tup l, .non, n, m, h1, h2 => by simp [toP, PyData.eqv]
  | .tup l, .int _, n, m, h1, h2 => by simp [toP, PyData.eqv]
  | .tup l, .str _, n, m, h1, h2 => by simp [toP, PyData.eqv]
  | .tup l, .lst _, n, m, h1, h2 => by simp [toP, PyData.eqv]
  | .tup l, .bl _, n, m, h1, h2 => by simp [pl] at h2
  | .tup l, .ref _, n, m, h1, h2 => by simp [pl] at h2
  | .tup l, .ty _, n, m, h1, h2 => by simp [pl] at h2
  | .lst l, .non, n, m, h1, h2 => by simp [toP, PyData.eqv]
  | .lst l, .int _, n, m, h1, h2 => by simp [toP, PyData.eqv]
  | .lst l, .str _, n, m, h1, h2 => by simp [toP, PyData.eqv]
  | .lst l, .tup _, n, m, h1, h2 => by simp [toP, PyData.eqv]
  | .lst l, .bl _, n, m, h1, h2 => by simp [pl] at h2
  | .lst l, .ref _, n, m, h1, h2 => by simp [pl] at h2
  | .lst l, .ty _, n, m, h1, h2 => by simp [pl] at h2
  | .bl b, e, n, m, h1, h2 => by simp [pl] at h1
  | .ref a, e, n, m, h1, h2 => by simp [pl] at h1
  | .ty a, e, n, m, h1, h2 => by simp [pl] at h1
theorem eqvs_iff : ∀ (l k : List D) (n m : Nat), pls n l = true → pls m k = true → (PyData.eqvAll (toPs l) (toPs k) = true ↔ l = k)
  | [], [], n, m, h1, h2 => by simp [toPs, PyData.eqvAll]
  | [], _ :: _, n, m, h1, h2 => by simp [toPs, PyData.eqvAll]
  | _ :: _, [], n, m, h1, h2 => by simp [toPs, PyData.eqvAll]
  | d :: ds, e :: es, n, m, h1, h2 => by
    rw [pls, Bool.and_eq_true] at h1 h2
    have a := eqv_iff d e n m h1.1 h2.1
    have b := eqvs_iff ds es n m h1.2 h2.2
    simp only [toPs, PyData.eqvAll, Bool.and_eq_true, List.cons.injEq]
    rw [a, b]
end
mutual
theorem rep_dp {F M H : Hp} {K : PySem.W.Frag} (wd : Wd F M H) : ∀ (d : D) (v : V) (n : Nat), pl n d = true → Rep F d v → Dp K H v (toP d)
  | .non, _, _, _, r => by cases r; exact .non
  | .int i, _, _, _, r => by cases r; exact .int i
  | .str x, _, _, _, r => by cases r; exact .str x
  | .tup l, _, n, h, r => by
    rw [pl, Bool.and_eq_true] at h
    cases r with
    | tup h1 t1 => exact .tup (Or.inl (Or.inl (wd.f _ _ h1))) (repL_dp wd l _ (n - 1) h.2 t1)
  | .lst l, _, n, h, r => by
    rw [pl, Bool.and_eq_true] at h
    cases r with
    | lst h1 t1 => exact .lst (Or.inl (Or.inl (wd.f _ _ h1))) (repL_dp wd l _ (n - 1) h.2 t1)
  | .bl b, _, _, h, _ => by simp [pl] at h
  | .ref b, _, _, h, _ => by simp [pl] at h
  | .ty b, _, _, h, _ => by simp [pl] at h
theorem repL_dp {F M H : Hp} {K : PySem.W.Frag} (wd : Wd F M H) : ∀ (l : List D) (vs : List V) (n : Nat), pls n l = true → RepL F l vs → DpAll K H vs (toPs l)
  | [], _, _, _, r => by cases r; exact .nil
  | d :: ds, _, n, h, r => by
    rw [pls, Bool.and_eq_true] at h
    cases r with
    | cons h1 t1 => exact .cons (rep_dp wd d _ n h.1 h1) (repL_dp wd ds _ n h.2 t1)
end
theorem pl_shaped {d : D} (h : pl 9 d = true) : SeqAt.shaped (toP d) = true := by
  obtain ⟨a, b⟩ := pl_lay d 9 h
  unfold SeqAt.shaped
  rw [a, decide_eq_true (by omega)] <;> rfl
section
variable {μ : Mu} {K : PySem.W.Frag} {d e : D}
theorem rd_eq {b : Bool} (h1 : pl 9 d = true) (h2 : pl 9 e = true) (hb : b = true ↔ d = e) : RD μ (rEqD K) d e (.bl b) := fun F M H v w r1 r2 rm wd Q q => by
  refine ⟨toP d, toP e, rep_dp wd _ _ _ h1 r1, rep_dp wd _ _ _ h2 r2, pl_shaped h1, pl_shaped h2, ?_⟩
  have eb : PyData.eqv (toP d) (toP e) = b := by
    have := eqv_iff d e 9 9 h1 h2
    rw [← hb] at this
    exact Bool.eq_iff_iff.mpr this
  rw [eb]
  exact q _ F H (Same.refl F) wd (.bl b)
theorem rd_ne {b : Bool} (h1 : pl 9 d = true) (h2 : pl 9 e = true) (hb : b = true ↔ d = e) : RD μ (rNeD K) d e (.bl (!b)) := fun F M H v w r1 r2 rm wd Q q => by
  refine ⟨toP d, toP e, rep_dp wd _ _ _ h1 r1, rep_dp wd _ _ _ h2 r2, pl_shaped h1, pl_shaped h2, ?_⟩
  have eb : PyData.eqv (toP d) (toP e) = b := by
    have := eqv_iff d e 9 9 h1 h2
    rw [← hb] at this
    exact Bool.eq_iff_iff.mpr this
  rw [eb]
  exact q _ F H (Same.refl F) wd (.bl _)
theorem rd_eqI {i j : Int} : RD μ (rEqD K) (.int i) (.int j) (.bl (decide (i = j))) := rd_eq rfl rfl (by simp)
theorem rd_neI {i j : Int} : RD μ (rNeD K) (.int i) (.int j) (.bl (!decide (i = j))) := rd_ne rfl rfl (by simp)
/-- a list beside the empty one -/
theorem rd_eqNil {l : List D} (h : pls 8 l = true) : RD μ (rEqD K) (.lst l) (.lst []) (.bl l.isEmpty) := rd_eq (by rw [pl, decide_eq_true (by decide)]; exact h) rfl (by rw [List.isEmpty_iff]; simp)
theorem rd_neNil {l : List D} (h : pls 8 l = true) : RD μ (rNeD K) (.lst l) (.lst []) (.bl (!l.isEmpty)) := rd_ne (by rw [pl, decide_eq_true (by decide)]; exact h) rfl (by rw [List.isEmpty_iff]; simp)
theorem rd_neB {a b : Bool} : RD μ (rNeD K) (.bl a) (.bl b) (.bl (!(a == b))) := fun F M H v w r1 r2 rm wd Q q => by
  cases r1
  cases r2
  exact ⟨.bool a, .bool b, .bl a, .bl b, rfl, rfl, q _ F H (Same.refl F) wd (.bl _)⟩
theorem rd_eqB {a b : Bool} : RD μ (rEqD K) (.bl a) (.bl b) (.bl (a == b)) := fun F M H v w r1 r2 rm wd Q q => by
  cases r1
  cases r2
  exact ⟨.bool a, .bool b, .bl a, .bl b, rfl, rfl, q _ F H (Same.refl F) wd (.bl _)⟩
end
theorem pls_map {α : Type} {f : α → D} {n : Nat} : ∀ {xs : List α}, (∀ x ∈ xs, pl n (f x) = true) → pls n (xs.map f) = true
  | [], _ => rfl
  | x :: xs, h => by
    rw [List.map_cons, pls, h x List.mem_cons_self, pls_map fun y hy => h y (List.mem_cons_of_mem _ hy)] <;> rfl
theorem pls_ints (n : Nat) (xs : List Int) : pls n (xs.map D.int) = true := pls_map fun _ _ => by rw [pl]
end Mf
set_option maxRecDepth 100000
set_option maxHeartbeats 4000000
/-! Meetfolk: zip of two, of three, over lists, tuples, texts in any mix. -/
namespace Mf
open PySem L2 PyProof.Rows
variable [Tt] [Xw]

/-- what an iterator is made of -/
inductive Sk where
  | lst (a : Addr) | tup (a : Addr) | txt (x : Str)
def Sk.Of : Sk → V → Prop
  | .lst a, v => v = .ref a
  | .tup a, v => v = .ref a
  | .txt x, v => v = .str x
/-- its items, as the heap stands -/
def Sk.Is (H : Hp) : Sk → List V → Prop
  | .lst a, xs => H a = some (.lst xs)
  | .tup a, xs => H a = some (.tup xs)
  | .txt x, xs => xs = (signs x).map V.str
/-- the iterator at it, turn i -/
def Sk.It (t : Tok) (it : Addr) (i : Nat) (h : Heap) : Sk → Prop
  | .lst a => h.IsListIter it a i
  | .tup a => h.IsTupleIter it a i
  | .txt x => h.IsStrIter it (strIterType x) x t i
/-- the cells that its state leans on -/
def Sk.fp (it : Addr) : Sk → List Addr
  | .lst a => [it, a]
  | .tup a => [it, a]
  | .txt _ => [it]
theorem Sk.fp_mem {it : Addr} (k : Sk) : it ∈ k.fp it := by
  cases k <;> simp [Sk.fp]
theorem Sk.fp_not {it b : Addr} {H : Hp} {xs : List V} {k : Sk} (h : k.Is H xs) (hb : b ≠ it) (hn : H b = none) : b ∉ k.fp it := by
  cases k with
  | lst a =>
    intro m
    rcases List.mem_cons.mp m with e | m
    · exact hb e
    · rw [List.mem_singleton.mp m, show H a = _ from h] at hn
      cases hn
  | tup a =>
    intro m
    rcases List.mem_cons.mp m with e | m
    · exact hb e
    · rw [List.mem_singleton.mp m, show H a = _ from h] at hn
      cases hn
  | txt x =>
    intro m
    exact hb (List.mem_singleton.mp m)
theorem Sk.It.obj {k : Sk} {t : Tok} {it : Addr} {i : Nat} {h : Heap} (s : k.It t it i h) : ∃ o, h.get? it = some o ∧ ∀ v, o.data ≠ .cell v := by
  cases k with
  | lst a =>
    obtain ⟨o, ho, _, hd⟩ := s
    exact ⟨o, ho, fun v e => by rw [hd] at e; cases e⟩
  | tup a =>
    obtain ⟨o, ho, _, hd⟩ := s
    exact ⟨o, ho, fun v e => by rw [hd] at e; cases e⟩
  | txt x =>
    obtain ⟨o, ho, _, hd⟩ := s
    exact ⟨o, ho, fun v e => by rw [hd] at e; cases e⟩
theorem Sk.It.keep {k : Sk} {t : Tok} {it : Addr} {i : Nat} {h h' : Heap} (s : k.It t it i h) (e : ∀ o, h.get? it = some o → h'.get? it = some o) : k.It t it i h' := by
  cases k with
  | lst a => exact s.at e
  | tup a => exact s.at e
  | txt x =>
    obtain ⟨o, h1, h2⟩ := s
    exact ⟨o, e o h1, h2⟩
/-- what it draws, in a state of ours -/
theorem Sk.draws {X : Cx} {pins : List (Addr × Obj)} {σ : L2.St} {H : Hp} {s : Shared} {k : Sk} {xs : List V} {t : Tok} {it : Addr} {i : Nat} (I : Inv X pins σ H s) (h : k.Is H xs) (hn : H it = none) (st : k.It t it i s.heap) (A : Around) (hh : A.handled = none) :
    ∃ (P : Nat → Value → Prop) (St : Nat → Heap → Prop), Draws X.prog X.w A it (k.fp it) xs.length P St ∧ St i s.heap ∧ (∀ j v, P j v → ∃ x, xs[j]? = some x ∧ RelV x v) ∧ ∀ j h', St j h' → k.It t it j h' := by
  cases k with
  | lst a =>
    have h : H a = some (.lst xs) := h
    obtain ⟨its, rv, p, _⟩ := I.list (SqL.of (K := X.K) h)
    have hl : xs.length = its.toArray.size := by rw [rv.length, List.size_toArray]
    rw [hl]
    refine ⟨_, _, Draws.list hh it a (ne_of_none h hn) its.toArray, ⟨st, p.isList⟩, fun j v hv => ?_, fun j h' z => z.1⟩
    rw [List.getElem?_toArray] at hv
    cases e : xs[j]? with
    | none =>
      rw [rv.none_of e] at hv
      cases hv
    | some x =>
      obtain ⟨u, hu, r⟩ := rv.get e
      rw [hu] at hv
      cases hv
      exact ⟨x, rfl, r⟩
  | tup a =>
    have h : H a = some (.tup xs) := h
    obtain ⟨its, rv, p, _⟩ := I.tuple (SqT.of (K := X.K) h)
    have hl : xs.length = its.toArray.size := by rw [rv.length, List.size_toArray]
    rw [hl]
    refine ⟨_, _, Draws.tuple hh it a (ne_of_none h hn) its.toArray, ⟨st, p⟩, fun j v hv => ?_, fun j h' z => z.1⟩
    rw [List.getElem?_toArray] at hv
    cases e : xs[j]? with
    | none =>
      rw [rv.none_of e] at hv
      cases hv
    | some x =>
      obtain ⟨u, hu, r⟩ := rv.get e
      rw [hu] at hv
      cases hv
      exact ⟨x, rfl, r⟩
  | txt x =>
    have h : xs = (signs x).map V.str := h
    subst h
    have hl : ((signs x).map V.str).length = x.cps.size := by rw [List.length_map, signs, List.length_map, Array.length_toList]
    rw [hl]
    refine ⟨_, _, Draws.text hh it x t, st, fun j v hv => ?_, fun j h' z => z⟩
    obtain ⟨c, u, hc, rfl⟩ := hv
    refine ⟨.str ⟨#[c]⟩, ?_, _, rfl⟩
    rw [List.getElem?_map, signs, List.getElem?_map, Array.getElem?_toList, hc] <;> rfl
/-- how it begins -/
def Sk.obj (t : Tok) : Sk → Obj
  | .lst a => { cls := .type "list_iterator", data := .fields #[.ref a, .int 0 0] }
  | .tup a => { cls := .type "tuple_iterator", data := .fields #[.ref a, .int 0 0] }
  | .txt x => { cls := .type (strIterType x), data := .fields #[.str x t, .int 0 0] }
theorem Sk.It.zero {k : Sk} {t : Tok} {it : Addr} {h : Heap} (e : h.get? it = some (k.obj t)) : k.It t it 0 h := by
  cases k with
  | lst a => exact ⟨_, e, rfl, rfl⟩
  | tup a => exact ⟨_, e, rfl, rfl⟩
  | txt x => exact ⟨_, e, rfl, rfl⟩
theorem Sk.begins {X : Cx} {pins : List (Addr × Obj)} {σ : L2.St} {H : Hp} {s : Shared} {k : Sk} {xs : List V} {v : V} {u : Value} (I : Inv X pins σ H s) (o : k.Of v) (h : k.Is H xs) (r : RelV v u) : ∃ t C, Begins u (k.obj t) C ∧ C s.heap := by
  cases k with
  | lst a =>
    obtain rfl : v = .ref a := o
    obtain rfl : u = .ref a := r
    obtain ⟨its, rv, p, _⟩ := I.list (SqL.of (K := X.K) (show H a = some (.lst xs) from h))
    exact ⟨0, _, begins_list a its.toArray, p.isList⟩
  | tup a =>
    obtain rfl : v = .ref a := o
    obtain rfl : u = .ref a := r
    obtain ⟨its, rv, p, _⟩ := I.tuple (SqT.of (K := X.K) (show H a = some (.tup xs) from h))
    exact ⟨0, _, begins_tuple a its.toArray, p⟩
  | txt x =>
    obtain rfl : v = .str x := o
    obtain ⟨t, rfl⟩ := r
    exact ⟨t, _, begins_text x t, trivial⟩

/-! ### two -/
def Itz2 (k1 k2 : Sk) (xs ys : List V) : L2.It :=
  ⟨fun i H => (k1.Is H xs ∧ k2.Is H ys) ∧ i < xs.length ∧ i < ys.length, fun i H v H' => ∃ T x y, v = .ref T ∧ H T = none ∧ H' = upd H T (.tup [x, y]) ∧ xs[i]? = some x ∧ ys[i]? = some y,
    fun i H => (k1.Is H xs ∧ k2.Is H ys) ∧ i = min xs.length ys.length⟩
/-- the five cells lie apart -/
structure Ap2 (z TI TO i1 i2 : Addr) : Prop where
  TIz : TI ≠ z
  TOz : TO ≠ z
  TITO : TI ≠ TO
  TIi1 : TI ≠ i1
  TIi2 : TI ≠ i2
  zi1 : z ≠ i1
  zi2 : z ≠ i2
  TOi1 : TO ≠ i1
  TOi2 : TO ≠ i2
  i12 : i1 ≠ i2
theorem Ap2.of (n : Nat) : Ap2 (n + 4) (n + 2) (n + 3) n (n + 1) := by
  constructor <;> (intro e; have e : (_ : Nat) = _ := e; omega)
theorem mem5 {c z TI TO i1 i2 : Addr} (h : c ∈ [z, TI, TO, i1, i2]) : c = z ∨ c = TI ∨ c = TO ∨ c = i1 ∨ c = i2 := by simpa using h
theorem turn_zip2 {P : Program} {w : World} {K : PySem.W.Frag} {elts : List Expr} {kk : Nat} {tpos : Pos} {k1 k2 : Sk} {xs ys : List V} {t1 t2 : Tok} {z TI TO i1 i2 : Addr} (D : Ap2 z TI TO i1 i2) :
    Turn P w K (.Tuple elts kk tpos) (Itz2 k1 k2 xs ys) [z, TI, TO, i1, i2] z (fun i h => IsZip h z TI TO .none ∧ IsTupOf2 h TI (.ref i1) (.ref i2) ∧ (∃ x y, IsTupOf2 h TO x y) ∧ k1.It t1 i1 i h ∧ k2.It t2 i2 i h) where
  mem := by simp
  obj := fun i h st c hc => by
    obtain ⟨hz, hTI, ⟨x, y, hTO⟩, h1, h2⟩ := st
    rcases mem5 hc with q | q | q | q | q
    · rw [q]; exact ⟨_, hz, fun v q => nomatch q⟩
    · rw [q]; exact ⟨_, hTI, fun v q => nomatch q⟩
    · rw [q]; exact ⟨_, hTO, fun v q => nomatch q⟩
    · rw [q]; exact h1.obj
    · rw [q]; exact h2.obj
  keep := fun i h h' st k => by
    obtain ⟨hz, hTI, ⟨x, y, hTO⟩, h1, h2⟩ := st
    exact ⟨k z (by simp) _ hz, k TI (by simp) _ hTI, ⟨x, y, k TO (by simp) _ hTO⟩, h1.keep fun o q => k i1 (by simp) o q, h2.keep fun o q => k i2 (by simp) o q⟩
  item := by
    intro X hP hw hK hc i pins s σ H E I hf st hg
    subst hP hw hK
    obtain ⟨hz, hTI, ⟨x0, y0, hTO⟩, h1, h2⟩ := st
    obtain ⟨⟨s1, s2⟩, l1, l2⟩ := hg
    have nz : H z = none := (hf z (by simp)).1
    have nTO : H TO = none := (hf TO (by simp)).1
    have n1 : H i1 = none := (hf i1 (by simp)).1
    have n2 : H i2 = none := (hf i2 (by simp)).1
    have hh : X.A.in1.handled = none := I.ok.hd hc
    obtain ⟨P1, S1, D1, a1, b1, c1⟩ := Sk.draws I s1 n1 h1 X.A.in1 hh
    obtain ⟨P2, S2, D2, a2, b2, c2⟩ := Sk.draws I s2 n2 h2 X.A.in1 hh
    have S : ZipSep2 z TI TO i1 i2 (k1.fp i1) (k2.fp i2) := ⟨D.TIz, D.TOz, D.TITO, D.TIi1, k1.fp_mem, Sk.fp_not s1 D.zi1 nz, Sk.fp_not s1 D.TOi1 nTO, D.TIi2, k2.fp_mem, Sk.fp_not s2 D.zi2 nz, Sk.fp_not s2 D.TOi2 nTO, Sk.fp_not s2 D.i12 n1, Sk.fp_not s1 D.i12.symm n2⟩
    have hzl : z < s.heap.objs.size := Heap.lt_size hz
    refine wpAny_pyNext_zipD2_item S D1 D2 hz hTI hTO a1 a2 l1 l2 fun x1 x2 h' tk p1 p2 z' TO' st1 st2 hT hsz hk => ?_
    obtain ⟨v1, e1, r1⟩ := b1 i x1 p1
    obtain ⟨v2, e2, r2⟩ := b2 i x2 p2
    refine ⟨_, rfl, wpAny_letOwnedTupleGo_zip (s := { s with heap := h', toks := tk }) z' fun h'' z'' sb => ?_⟩
    have hT2 : h''.get? s.heap.objs.size = some { cls := .type "tuple", data := .seq #[x1, x2] } := (sb.2 _ (Nat.ne_of_gt hzl)).trans hT
    have new : ObjOk X.prog X.w (upd H s.heap.objs.size (.tup [v1, v2])) h'' s.heap.objs.size (.tup [v1, v2]) :=
      ⟨by show 2 ≤ sizeLine; decide, [x1, x2], .cons r1 (.cons r2 .nil), ⟨_, hT2, rfl, _, rfl⟩⟩
    have I1 : Inv X pins σ (upd H s.heap.objs.size (.tup [v1, v2])) { s with heap := h'', toks := tk } :=
      I.turnedNew (t' := tk) (ch := [z, TI, TO, i1, i2]) (fun c o hb q => (sb.2 c (fun q' => hb (by simp [q']))).trans (hk c o (fun q' => hb (by simp [q'])) (fun q' => hb (by simp [q'])) (fun q' => hb (by simp [q'])) (fun q' => hb (by simp [q'])) q)) hf (Nat.le_refl _) new
    refine ⟨.ref s.heap.objs.size, _, I1, rfl, ⟨_, v1, v2, rfl, I.hok.fresh (Nat.le_refl _), rfl, e1, e2⟩, ⟨z'', ?_, ⟨x1, x2, ?_⟩, ?_, ?_⟩, fun c hcm => ?_⟩
    · exact (sb.2 _ D.TIz).trans (hk _ _ D.TIz D.TITO D.TIi1 D.TIi2 hTI)
    · exact (sb.2 _ D.TOz).trans TO'
    · exact (c1 _ _ st1).keep fun o q => (sb.2 _ D.zi1.symm).trans q
    · exact (c2 _ _ st2).keep fun o q => (sb.2 _ D.zi2.symm).trans q
    · have hlt : c < s.heap.objs.size := by
        rcases mem5 hcm with q | q | q | q | q
        · rw [q]; exact hzl
        · rw [q]; exact Heap.lt_size hTI
        · rw [q]; exact Heap.lt_size hTO
        · rw [q]; obtain ⟨_, e1, _⟩ := h1.obj; exact Heap.lt_size e1
        · rw [q]; obtain ⟨_, e2, _⟩ := h2.obj; exact Heap.lt_size e2
      rw [upd_ne (Nat.ne_of_lt hlt)]
      exact (hf c hcm).1
  done := by
    intro X hP hw hK hc i pins s σ H E I hf st hg
    subst hP hw hK
    obtain ⟨hz, hTI, ⟨x0, y0, hTO⟩, h1, h2⟩ := st
    obtain ⟨⟨s1, s2⟩, hend⟩ := hg
    have nz : H z = none := (hf z (by simp)).1
    have nTO : H TO = none := (hf TO (by simp)).1
    have n1 : H i1 = none := (hf i1 (by simp)).1
    have n2 : H i2 = none := (hf i2 (by simp)).1
    have hh : X.A.in1.handled = none := I.ok.hd hc
    obtain ⟨P1, S1, D1, a1, b1, c1⟩ := Sk.draws I s1 n1 h1 X.A.in1 hh
    obtain ⟨P2, S2, D2, a2, b2, c2⟩ := Sk.draws I s2 n2 h2 X.A.in1 hh
    have S : ZipSep2 z TI TO i1 i2 (k1.fp i1) (k2.fp i2) := ⟨D.TIz, D.TOz, D.TITO, D.TIi1, k1.fp_mem, Sk.fp_not s1 D.zi1 nz, Sk.fp_not s1 D.TOi1 nTO, D.TIi2, k2.fp_mem, Sk.fp_not s2 D.zi2 nz, Sk.fp_not s2 D.TOi2 nTO, Sk.fp_not s2 D.i12 n1, Sk.fp_not s1 D.i12.symm n2⟩
    refine wpAny_pyNext_zipD2_end S D1 D2 hz hTI hTO a1 a2 (by omega) (by omega) (by omega) fun h' tk hk => ⟨rfl, I.turnedL (t' := tk) (ch := [z, TI, TO, i1, i2]) (fun c o hb q => hk c o (fun q' => hb (by simp [q'])) (fun q' => hb (by simp [q'])) (fun q' => hb (by simp [q'])) (fun q' => hb (by simp [q'])) q) hf⟩
  self := fun A i s Q E st q => wpAny_pyIter_zip st.1 q
def iZip2 (ta : TA) : TI := fun σ H R => ta σ H fun vs H1 => ∃ v1 v2 k1 k2 xs ys, vs = [v1, v2] ∧ k1.Of v1 ∧ k2.Of v2 ∧ k1.Is H1 xs ∧ k2.Is H1 ys ∧ R (Itz2 k1 k2 xs ys) H1
theorem pi_zip2 {X : Cx} {e e2 : Expr} {ta : TA} {p pos tpos : Pos} {elts : List Expr} {kk : Nat} (hg : Gl X "zip") (hm : X.mg "zip" = none) (ha : PA X [e, e2] ta)
    (hs : starEach [e, e2] X.env = (false, eval e X.env) :: starEach [e2] X.env := by rfl) (hpl : (backTo pos (starEach [e2] X.env)).any (·.1) = false := by rfl) :
    PI X (.Tuple elts kk tpos) (.Call (.Name "zip" p) [e, e2] [] pos) (iZip2 ta) := by
  refine ⟨fun pins s σ H R I h => ?_⟩
  refine Call_ (ld_blt I hg hm PyProof.Rows.boot_zip (PyProof.Rows.callWith_type1 (thn (ha.run pos pins s σ H _ I h) fun us s1 ⟨vs, H1, I1, r1, q1⟩ => ?_) hs hpl))
  obtain ⟨v1, v2, k1, k2, xs, ys, ex, o1, o2, s1', s2', q⟩ := q1
  subst ex
  obtain ⟨u1, u2, rfl, ru1, ru2⟩ := vals2 r1
  obtain ⟨t1, C1, B1, g1⟩ := Sk.begins I1 o1 s1' ru1
  obtain ⟨t2, C2, B2, g2⟩ := Sk.begins I1 o2 s2' ru2
  refine zip_begins2 B1 B2 g1 g2 fun h' hz hTI hTO e1 e2 hsz hk => wpAny_pyIter_zip hz ?_
  have I2 : Inv X pins σ H1 { s1 with heap := h' } := I1.kept (t' := s1.toks) hk
  refine ⟨s1.heap.objs.size + 4, [s1.heap.objs.size + 4, s1.heap.objs.size + 2, s1.heap.objs.size + 3, s1.heap.objs.size, s1.heap.objs.size + 1], _, _, H1, rfl, I2, turn_zip2 (t1 := t1) (t2 := t2) (Ap2.of _), ⟨hz, hTI, ⟨_, _, hTO⟩, .zero e1, .zero e2⟩, fun c hcm => ?_, q⟩
  have hle : s1.heap.objs.size ≤ c := by
    rcases mem5 hcm with z | z | z | z | z <;> rw [z] <;> first | exact Nat.le_add_right _ _ | exact Nat.le_refl _
  exact I1.fpOk hle (I1.hok.fresh hle)

/-! ### three -/
def Itz3 (k1 k2 k3 : Sk) (xs ys zs : List V) : L2.It :=
  ⟨fun i H => (k1.Is H xs ∧ k2.Is H ys ∧ k3.Is H zs) ∧ i < xs.length ∧ i < ys.length ∧ i < zs.length, fun i H v H' => ∃ T x y z, v = .ref T ∧ H T = none ∧ H' = upd H T (.tup [x, y, z]) ∧ xs[i]? = some x ∧ ys[i]? = some y ∧ zs[i]? = some z,
    fun i H => (k1.Is H xs ∧ k2.Is H ys ∧ k3.Is H zs) ∧ i = min (min xs.length ys.length) zs.length⟩
structure Ap3 (z TI TO i1 i2 i3 : Addr) : Prop where
  TIz : TI ≠ z
  TOz : TO ≠ z
  TITO : TI ≠ TO
  TIi1 : TI ≠ i1
  TIi2 : TI ≠ i2
  TIi3 : TI ≠ i3
  zi1 : z ≠ i1
  zi2 : z ≠ i2
  zi3 : z ≠ i3
  TOi1 : TO ≠ i1
  TOi2 : TO ≠ i2
  TOi3 : TO ≠ i3
  i12 : i1 ≠ i2
  i13 : i1 ≠ i3
  i23 : i2 ≠ i3
theorem Ap3.of (n : Nat) : Ap3 (n + 5) (n + 3) (n + 4) n (n + 1) (n + 2) := by
  constructor <;> (intro e; have e : (_ : Nat) = _ := e; omega)
theorem mem6 {c z TI TO i1 i2 i3 : Addr} (h : c ∈ [z, TI, TO, i1, i2, i3]) : c = z ∨ c = TI ∨ c = TO ∨ c = i1 ∨ c = i2 ∨ c = i3 := by simpa using h
/-- the state at turn i -/
def Zs3 (k1 k2 k3 : Sk) (t1 t2 t3 : Tok) (z TI TO i1 i2 i3 : Addr) (i : Nat) (h : Heap) : Prop :=
  IsZip h z TI TO .none ∧ IsTupOf3 h TI (.ref i1) (.ref i2) (.ref i3) ∧ (∃ x y u, IsTupOf3 h TO x y u) ∧ k1.It t1 i1 i h ∧ k2.It t2 i2 i h ∧ k3.It t3 i3 i h
theorem turn_zip3 {P : Program} {w : World} {K : PySem.W.Frag} {elts : List Expr} {kk : Nat} {tpos : Pos} {k1 k2 k3 : Sk} {xs ys zs : List V} {t1 t2 t3 : Tok} {z TI TO i1 i2 i3 : Addr} (D : Ap3 z TI TO i1 i2 i3) :
    Turn P w K (.Tuple elts kk tpos) (Itz3 k1 k2 k3 xs ys zs) [z, TI, TO, i1, i2, i3] z (Zs3 k1 k2 k3 t1 t2 t3 z TI TO i1 i2 i3) where
  mem := by simp
  obj := fun i h st c hc => by
    obtain ⟨hz, hTI, ⟨x, y, u, hTO⟩, h1, h2, h3⟩ := st
    rcases mem6 hc with q | q | q | q | q | q
    · rw [q]; exact ⟨_, hz, fun v q => nomatch q⟩
    · rw [q]; exact ⟨_, hTI, fun v q => nomatch q⟩
    · rw [q]; exact ⟨_, hTO, fun v q => nomatch q⟩
    · rw [q]; exact h1.obj
    · rw [q]; exact h2.obj
    · rw [q]; exact h3.obj
  keep := fun i h h' st k => by
    obtain ⟨hz, hTI, ⟨x, y, u, hTO⟩, h1, h2, h3⟩ := st
    exact ⟨k z (by simp) _ hz, k TI (by simp) _ hTI, ⟨x, y, u, k TO (by simp) _ hTO⟩, h1.keep fun o q => k i1 (by simp) o q, h2.keep fun o q => k i2 (by simp) o q, h3.keep fun o q => k i3 (by simp) o q⟩
  item := by
    intro X hP hw hK hc i pins s σ H E I hf st hg
    subst hP hw hK
    obtain ⟨hz, hTI, ⟨x0, y0, u0, hTO⟩, h1, h2, h3⟩ := st
    obtain ⟨⟨s1, s2, s3⟩, l1, l2, l3⟩ := hg
    have nz : H z = none := (hf z (by simp)).1
    have nTO : H TO = none := (hf TO (by simp)).1
    have n1 : H i1 = none := (hf i1 (by simp)).1
    have n2 : H i2 = none := (hf i2 (by simp)).1
    have n3 : H i3 = none := (hf i3 (by simp)).1
    have hh : X.A.in1.handled = none := I.ok.hd hc
    obtain ⟨P1, S1, D1, a1, b1, c1⟩ := Sk.draws I s1 n1 h1 X.A.in1 hh
    obtain ⟨P2, S2, D2, a2, b2, c2⟩ := Sk.draws I s2 n2 h2 X.A.in1 hh
    obtain ⟨P3, S3, D3, a3, b3, c3⟩ := Sk.draws I s3 n3 h3 X.A.in1 hh
    have S : ZipSep3 z TI TO i1 i2 i3 (k1.fp i1) (k2.fp i2) (k3.fp i3) := ⟨D.TIz, D.TOz, D.TITO, D.TIi1, k1.fp_mem, Sk.fp_not s1 D.zi1 nz, Sk.fp_not s1 D.TOi1 nTO, D.TIi2, k2.fp_mem, Sk.fp_not s2 D.zi2 nz, Sk.fp_not s2 D.TOi2 nTO,
      D.TIi3, k3.fp_mem, Sk.fp_not s3 D.zi3 nz, Sk.fp_not s3 D.TOi3 nTO, Sk.fp_not s2 D.i12 n1, Sk.fp_not s3 D.i13 n1, Sk.fp_not s1 D.i12.symm n2, Sk.fp_not s3 D.i23 n2, Sk.fp_not s1 D.i13.symm n3, Sk.fp_not s2 D.i23.symm n3⟩
    have hzl : z < s.heap.objs.size := Heap.lt_size hz
    refine wpAny_pyNext_zipD3_item S D1 D2 D3 hz hTI hTO a1 a2 a3 l1 l2 l3 fun x1 x2 x3 h' tk p1 p2 p3 z' TO' st1 st2 st3 hT hsz hk => ?_
    obtain ⟨v1, e1, r1⟩ := b1 i x1 p1
    obtain ⟨v2, e2, r2⟩ := b2 i x2 p2
    obtain ⟨v3, e3, r3⟩ := b3 i x3 p3
    refine ⟨_, rfl, wpAny_letOwnedTupleGo_zip (s := { s with heap := h', toks := tk }) z' fun h'' z'' sb => ?_⟩
    have hT2 : h''.get? s.heap.objs.size = some { cls := .type "tuple", data := .seq #[x1, x2, x3] } := (sb.2 _ (Nat.ne_of_gt hzl)).trans hT
    have new : ObjOk X.prog X.w (upd H s.heap.objs.size (.tup [v1, v2, v3])) h'' s.heap.objs.size (.tup [v1, v2, v3]) :=
      ⟨by show 3 ≤ sizeLine; decide, [x1, x2, x3], .cons r1 (.cons r2 (.cons r3 .nil)), ⟨_, hT2, rfl, _, rfl⟩⟩
    have I1 : Inv X pins σ (upd H s.heap.objs.size (.tup [v1, v2, v3])) { s with heap := h'', toks := tk } :=
      I.turnedNew (t' := tk) (ch := [z, TI, TO, i1, i2, i3]) (fun c o hb q => (sb.2 c (fun q' => hb (by simp [q']))).trans (hk c o (fun q' => hb (by simp [q'])) (fun q' => hb (by simp [q'])) (fun q' => hb (by simp [q'])) (fun q' => hb (by simp [q'])) (fun q' => hb (by simp [q'])) q)) hf (Nat.le_refl _) new
    refine ⟨.ref s.heap.objs.size, _, I1, rfl, ⟨_, v1, v2, v3, rfl, I.hok.fresh (Nat.le_refl _), rfl, e1, e2, e3⟩, ⟨z'', ?_, ⟨x1, x2, x3, ?_⟩, ?_, ?_, ?_⟩, fun c hcm => ?_⟩
    · exact (sb.2 _ D.TIz).trans (hk _ _ D.TIz D.TITO D.TIi1 D.TIi2 D.TIi3 hTI)
    · exact (sb.2 _ D.TOz).trans TO'
    · exact (c1 _ _ st1).keep fun o q => (sb.2 _ D.zi1.symm).trans q
    · exact (c2 _ _ st2).keep fun o q => (sb.2 _ D.zi2.symm).trans q
    · exact (c3 _ _ st3).keep fun o q => (sb.2 _ D.zi3.symm).trans q
    · have hlt : c < s.heap.objs.size := by
        rcases mem6 hcm with q | q | q | q | q | q
        · rw [q]; exact hzl
        · rw [q]; exact Heap.lt_size hTI
        · rw [q]; exact Heap.lt_size hTO
        · rw [q]; obtain ⟨_, e1, _⟩ := h1.obj; exact Heap.lt_size e1
        · rw [q]; obtain ⟨_, e2, _⟩ := h2.obj; exact Heap.lt_size e2
        · rw [q]; obtain ⟨_, e2, _⟩ := h3.obj; exact Heap.lt_size e2
      rw [upd_ne (Nat.ne_of_lt hlt)]
      exact (hf c hcm).1
  done := by
    intro X hP hw hK hc i pins s σ H E I hf st hg
    subst hP hw hK
    obtain ⟨hz, hTI, ⟨x0, y0, u0, hTO⟩, h1, h2, h3⟩ := st
    obtain ⟨⟨s1, s2, s3⟩, hend⟩ := hg
    have nz : H z = none := (hf z (by simp)).1
    have nTO : H TO = none := (hf TO (by simp)).1
    have n1 : H i1 = none := (hf i1 (by simp)).1
    have n2 : H i2 = none := (hf i2 (by simp)).1
    have n3 : H i3 = none := (hf i3 (by simp)).1
    have hh : X.A.in1.handled = none := I.ok.hd hc
    obtain ⟨P1, S1, D1, a1, b1, c1⟩ := Sk.draws I s1 n1 h1 X.A.in1 hh
    obtain ⟨P2, S2, D2, a2, b2, c2⟩ := Sk.draws I s2 n2 h2 X.A.in1 hh
    obtain ⟨P3, S3, D3, a3, b3, c3⟩ := Sk.draws I s3 n3 h3 X.A.in1 hh
    have S : ZipSep3 z TI TO i1 i2 i3 (k1.fp i1) (k2.fp i2) (k3.fp i3) := ⟨D.TIz, D.TOz, D.TITO, D.TIi1, k1.fp_mem, Sk.fp_not s1 D.zi1 nz, Sk.fp_not s1 D.TOi1 nTO, D.TIi2, k2.fp_mem, Sk.fp_not s2 D.zi2 nz, Sk.fp_not s2 D.TOi2 nTO,
      D.TIi3, k3.fp_mem, Sk.fp_not s3 D.zi3 nz, Sk.fp_not s3 D.TOi3 nTO, Sk.fp_not s2 D.i12 n1, Sk.fp_not s3 D.i13 n1, Sk.fp_not s1 D.i12.symm n2, Sk.fp_not s3 D.i23 n2, Sk.fp_not s1 D.i13.symm n3, Sk.fp_not s2 D.i23.symm n3⟩
    refine wpAny_pyNext_zipD3_end S D1 D2 D3 hz hTI hTO a1 a2 a3 (by omega) (by omega) (by omega) (by omega) fun h' tk hk => ⟨rfl, I.turnedL (t' := tk) (ch := [z, TI, TO, i1, i2, i3]) (fun c o hb q => hk c o (fun q' => hb (by simp [q'])) (fun q' => hb (by simp [q'])) (fun q' => hb (by simp [q'])) (fun q' => hb (by simp [q'])) (fun q' => hb (by simp [q'])) q) hf⟩
  self := fun A i s Q E st q => wpAny_pyIter_zip st.1 q
def iZip3 (ta : TA) : TI := fun σ H R => ta σ H fun vs H1 => ∃ v1 v2 v3 k1 k2 k3 xs ys zs, vs = [v1, v2, v3] ∧ (k1.Of v1 ∧ k2.Of v2 ∧ k3.Of v3) ∧ (k1.Is H1 xs ∧ k2.Is H1 ys ∧ k3.Is H1 zs) ∧ R (Itz3 k1 k2 k3 xs ys zs) H1
theorem vals3 {x y z : V} {us : List Value} (r : Vals [x, y, z] us) : ∃ u v w, us = [u, v, w] ∧ RelV x u ∧ RelV y v ∧ RelV z w := by
  cases r with
  | cons a r =>
    cases r with
    | cons b r =>
      cases r with
      | cons c r =>
        cases r
        exact ⟨_, _, _, rfl, a, b, c⟩
theorem pi_zip3 {X : Cx} {e e2 e3 : Expr} {ta : TA} {p pos tpos : Pos} {elts : List Expr} {kk : Nat} (hg : Gl X "zip") (hm : X.mg "zip" = none) (ha : PA X [e, e2, e3] ta)
    (hs : starEach [e, e2, e3] X.env = (false, eval e X.env) :: starEach [e2, e3] X.env := by rfl) (hpl : (backTo pos (starEach [e2, e3] X.env)).any (·.1) = false := by rfl) :
    PI X (.Tuple elts kk tpos) (.Call (.Name "zip" p) [e, e2, e3] [] pos) (iZip3 ta) := by
  refine ⟨fun pins s σ H R I h => ?_⟩
  refine Call_ (ld_blt I hg hm PyProof.Rows.boot_zip (PyProof.Rows.callWith_type1 (thn (ha.run pos pins s σ H _ I h) fun us s1 ⟨vs, H1, I1, r1, q1⟩ => ?_) hs hpl))
  obtain ⟨v1, v2, v3, k1, k2, k3, xs, ys, zs, ex, ⟨o1, o2, o3⟩, ⟨s1', s2', s3'⟩, q⟩ := q1
  subst ex
  obtain ⟨u1, u2, u3, rfl, ru1, ru2, ru3⟩ := vals3 r1
  obtain ⟨t1, C1, B1, g1⟩ := Sk.begins I1 o1 s1' ru1
  obtain ⟨t2, C2, B2, g2⟩ := Sk.begins I1 o2 s2' ru2
  obtain ⟨t3, C3, B3, g3⟩ := Sk.begins I1 o3 s3' ru3
  refine zip_begins3 B1 B2 B3 g1 g2 g3 fun h' hz hTI hTO e1 e2 e3 hsz hk => wpAny_pyIter_zip hz ?_
  have I2 : Inv X pins σ H1 { s1 with heap := h' } := I1.kept (t' := s1.toks) hk
  refine ⟨s1.heap.objs.size + 5, [s1.heap.objs.size + 5, s1.heap.objs.size + 3, s1.heap.objs.size + 4, s1.heap.objs.size, s1.heap.objs.size + 1, s1.heap.objs.size + 2], _, _, H1, rfl, I2, turn_zip3 (t1 := t1) (t2 := t2) (t3 := t3) (Ap3.of _), ⟨hz, hTI, ⟨_, _, _, hTO⟩, .zero e1, .zero e2, .zero e3⟩, fun c hcm => ?_, q⟩
  have hle : s1.heap.objs.size ≤ c := by
    rcases mem6 hcm with z | z | z | z | z | z <;> rw [z] <;> first | exact Nat.le_add_right _ _ | exact Nat.le_refl _
  exact I1.fpOk hle (I1.hok.fresh hle)

/-! ### on data -/
/-- the items that a value walks -/
inductive Sq : D → List D → Prop
  | lst (l : List D) : Sq (.lst l) l
  | tup (l : List D) : Sq (.tup l) l
  | str (x : Str) : Sq (.str x) ((signs x).map D.str)
theorem Sq.sk {F M H : Hp} {d : D} {l : List D} {v : V} (s : Sq d l) (r : Rep F d v) (w : Wd F M H) : ∃ (k : Sk) (xs : List V), k.Of v ∧ k.Is F xs ∧ RepL F l xs := by
  cases s with
  | lst l =>
    cases r with
    | lst h t => exact ⟨.lst _, _, rfl, h, t⟩
  | tup l =>
    cases r with
    | tup h t => exact ⟨.tup _, _, rfl, h, t⟩
  | str x =>
    cases r
    exact ⟨.txt x, _, rfl, rfl, RepL.ofStrs _⟩
theorem Sk.Is.mono {F H : Hp} {k : Sk} {xs : List V} (s : k.Is F xs) (e : Same F H) : k.Is H xs := by
  cases k with
  | lst a => exact e _ _ s
  | tup a => exact e _ _ s
  | txt x => exact s
def zip2 (l m : List D) : List D := (l.zip m).map fun p => .tup [p.1, p.2]
def zip3 (l m n : List D) : List D := (l.zip (m.zip n)).map fun p => .tup [p.1, p.2.1, p.2.2]
theorem ei_zip2 {μ : Mu} {ρ : DEnv} {ta : TA} {d1 d2 : D} {l m : List D} (h : EvA μ ta ρ [d1, d2]) (s1 : Sq d1 l) (s2 : Sq d2 m) : EvI μ (iZip2 ta) ρ (zip2 l m) := fun σ F M H rs rm w R q =>
  h σ F M H rs rm w _ fun vs F2 H2 e2 w2 r2 => by
    cases r2 with
    | cons r1 r2 =>
      cases r2 with
      | cons r2 r3 =>
        cases r3
        obtain ⟨k1, xs, o1, i1, t1⟩ := s1.sk r1 w2
        obtain ⟨k2, ys, o2, i2, t2⟩ := s2.sk r2 w2
        refine ⟨_, _, k1, k2, xs, ys, rfl, o1, o2, i1.mono w2.f, i2.mono w2.f, q _ F2 H2 e2 w2 fun F3 M3 H3 e w f => ⟨⟨⟨i1.mono (e.trans w.f), i2.mono (e.trans w.f)⟩, ?_⟩, fun i d hd => ?_⟩⟩
        · rw [zip2, List.length_map, List.length_zip, t1.len, t2.len]
        · rw [zip2, List.getElem?_map] at hd
          obtain ⟨⟨p1, p2⟩, hp, rfl⟩ := Option.map_eq_some_iff.mp hd
          obtain ⟨g1, g2⟩ := List.getElem?_zip_eq_some.mp hp
          obtain ⟨v1, f1, u1⟩ := t1.get g1
          obtain ⟨v2, f2, u2⟩ := t2.get g2
          refine ⟨⟨⟨i1.mono (e.trans w.f), i2.mono (e.trans w.f)⟩, (List.getElem?_eq_some_iff.mp f1).1, (List.getElem?_eq_some_iff.mp f2).1⟩, fun x H4 y => ?_⟩
          obtain ⟨T, x1, x2, rfl, hT, rfl, b1, b2⟩ := y
          rw [f1] at b1
          rw [f2] at b2
          cases b1
          cases b2
          exact ⟨_, w.newS hT, w.new hT, .tup upd_same (.cons ((u1.mono e).mono (w.newS hT)) (.cons ((u2.mono e).mono (w.newS hT)) .nil))⟩
theorem wk3 {k1 k2 k3 : Sk} {xs ys zs : List V} {l m n : List D} {F2 F3 M3 H3 : Hp} (i1 : k1.Is F2 xs) (i2 : k2.Is F2 ys) (i3 : k3.Is F2 zs) (t1 : RepL F2 l xs) (t2 : RepL F2 m ys) (t3 : RepL F2 n zs) (e : Same F2 F3) (w : Wd F3 M3 H3) :
    (Itz3 k1 k2 k3 xs ys zs).stop (zip3 l m n).length H3 ∧ ∀ i d, (zip3 l m n)[i]? = some d → (Itz3 k1 k2 k3 xs ys zs).go i H3 ∧ ∀ x H4, (Itz3 k1 k2 k3 xs ys zs).yld i H3 x H4 → ∃ F4, Same F3 F4 ∧ Wd F4 M3 H4 ∧ Rep F4 d x := by
  refine ⟨⟨⟨i1.mono (e.trans w.f), i2.mono (e.trans w.f), i3.mono (e.trans w.f)⟩, ?_⟩, fun i d hd => ?_⟩
  · rw [zip3, List.length_map, List.length_zip, List.length_zip, t1.len, t2.len, t3.len]
    omega
  · rw [zip3, List.getElem?_map] at hd
    obtain ⟨⟨p1, p2, p3⟩, hp, rfl⟩ := Option.map_eq_some_iff.mp hd
    obtain ⟨g1, g2⟩ := List.getElem?_zip_eq_some.mp hp
    obtain ⟨g2, g3⟩ := List.getElem?_zip_eq_some.mp g2
    obtain ⟨v1, f1, u1⟩ := t1.get g1
    obtain ⟨v2, f2, u2⟩ := t2.get g2
    obtain ⟨v3, f3, u3⟩ := t3.get g3
    refine ⟨⟨⟨i1.mono (e.trans w.f), i2.mono (e.trans w.f), i3.mono (e.trans w.f)⟩, (List.getElem?_eq_some_iff.mp f1).1, (List.getElem?_eq_some_iff.mp f2).1, (List.getElem?_eq_some_iff.mp f3).1⟩, fun x H4 y => ?_⟩
    obtain ⟨T, x1, x2, x3, rfl, hT, rfl, b1, b2, b3⟩ := y
    rw [f1] at b1
    rw [f2] at b2
    rw [f3] at b3
    cases b1
    cases b2
    cases b3
    exact ⟨_, w.newS hT, w.new hT, .tup upd_same (.cons ((u1.mono e).mono (w.newS hT)) (.cons ((u2.mono e).mono (w.newS hT)) (.cons ((u3.mono e).mono (w.newS hT)) .nil)))⟩
theorem ei_zip3 {μ : Mu} {ρ : DEnv} {ta : TA} {d1 d2 d3 : D} {l m n : List D} (h : EvA μ ta ρ [d1, d2, d3]) (s1 : Sq d1 l) (s2 : Sq d2 m) (s3 : Sq d3 n) : EvI μ (iZip3 ta) ρ (zip3 l m n) := fun σ F M H rs rm w R q =>
  h σ F M H rs rm w _ fun vs F2 H2 e2 w2 r2 => by
    cases r2 with
    | cons r1 r2 =>
      cases r2 with
      | cons r2 r3 =>
        cases r3 with
        | cons r3 r4 =>
          cases r4
          obtain ⟨k1, xs, o1, i1, t1⟩ := s1.sk r1 w2
          obtain ⟨k2, ys, o2, i2, t2⟩ := s2.sk r2 w2
          obtain ⟨k3, zs, o3, i3, t3⟩ := s3.sk r3 w2
          refine ⟨_, _, _, k1, k2, k3, xs, ys, zs, rfl, ⟨o1, o2, o3⟩, ⟨i1.mono w2.f, i2.mono w2.f, i3.mono w2.f⟩, q _ F2 H2 e2 w2 fun F3 M3 H3 e w f => ?_⟩
          exact wk3 i1 i2 i3 t1 t2 t3 e w
end Mf
set_option maxRecDepth 100000
set_option maxHeartbeats 4000000
/-! Meetfolk: an iterator of zip that a name holds until it is walked. -/
namespace Mf
open PySem L2 PyProof.Rows
variable [Tt] [Xw]

/-- the very object o at a -/
def One (a : Addr) (o : Obj) : HO := .ext fun h => h.get? a = some o
section
variable {X : Cx} {pins : List (Addr × Obj)} {σ : L2.St} {H : Hp} {s : Shared} {a b : Addr} {o : Obj} {u : HO}
theorem one_ok {P : Program} {w : World} {h : Heap} (e : h.get? a = some o) : ObjOk P w H h a (One a o) := ⟨e, ⟨o, e⟩, fun h1 h2 p q => q o p⟩
theorem inv_track (I : Inv X pins σ H s) (f : FpOk X pins H a) (e : s.heap.get? a = some o) : Inv X pins σ (upd H a (One a o)) s := by
  have hn : H a = none := f.1
  have other : ∀ b v, H b = some v → upd H a (One a o) b = some v := fun b v q => by
    rw [upd_ne (ne_of_none q hn)]
    exact q
  refine I.step (g' := s.gens) (d' := s.drawn) (t' := s.toks) (h' := s.heap) (ch := [a]) (fun b hb => ?_) (fun b o _ _ _ q _ => q) (fun b o _ _ _ q _ => ⟨o.slots, q⟩) (fun b o hb q n => ?_) (fun b o _ q => ⟨o, q⟩)
    (fun b xs q => other b _ q) (fun b o u q => other b _ q) (fun b ps q => ⟨#[], by rw [other b _ q]; simp⟩) (fun m h => h) (fun b v q => ?_) I.bare
  · rw [List.mem_singleton.mp hb]
    exact ⟨f.2.2.2.1, f.2.1, f.2.2.2.2.1, f.2.2.2.2.2⟩
  · rw [upd_ne (fun z => hb (List.mem_singleton.mpr z))]
    exact n
  · by_cases hb : b = a
    · rw [hb, upd_same] at q
      cases q
      rw [hb]
      exact one_ok e
    · rw [upd_ne hb] at q
      exact (I.hok b v q).stay (fun _ _ _ z => z) (fun c z => other c _ z) fun c xs z => other c _ z
theorem fp_upd (f : FpOk X pins H b) (h : b ≠ a) : FpOk X pins (upd H a u) b := ⟨by rw [upd_ne h]; exact f.1, f.2⟩
theorem drop_upd (h : H a = none) : ItX.dropH (upd H a u) a = H := ItX.dropH_upd h
end
theorem upd_comm {H : Hp} {a b : Addr} {o u : HO} (h : a ≠ b) : upd (upd H a o) b u = upd (upd H b u) a o := by
  funext c
  by_cases h1 : c = b
  · subst h1
    rw [upd_same, upd_ne (fun e => h e.symm), upd_same]
  · by_cases h2 : c = a
    · subst h2
      rw [upd_ne h1, upd_same, upd_same]
    · rw [upd_ne h1, upd_ne h2, upd_ne h2, upd_ne h1]

/-- the heap with the six cells tracked -/
def trk6 (H : Hp) (z TI TO i1 i2 i3 : Addr) (oz oT oO o1 o2 o3 : Obj) : Hp :=
  upd (upd (upd (upd (upd (upd H z (One z oz)) TI (One TI oT)) TO (One TO oO)) i1 (One i1 o1)) i2 (One i2 o2)) i3 (One i3 o3)
/-- z stands for a zip over the three, not begun; H1 is the heap without it -/
def ZV (n0 : Nat) (k1 k2 k3 : Sk) (H1 H2 : Hp) (z : Addr) : Prop :=
  ∃ (TI TO i1 i2 i3 : Addr) (oz oT oO o1 o2 o3 : Obj), Ap3 z TI TO i1 i2 i3 ∧ (n0 ≤ z ∧ n0 ≤ TI ∧ n0 ≤ TO ∧ n0 ≤ i1 ∧ n0 ≤ i2 ∧ n0 ≤ i3) ∧ (H1 z = none ∧ H1 TI = none ∧ H1 TO = none ∧ H1 i1 = none ∧ H1 i2 = none ∧ H1 i3 = none) ∧
    H2 = trk6 H1 z TI TO i1 i2 i3 oz oT oO o1 o2 o3 ∧
    ∀ h : Heap, h.get? z = some oz → h.get? TI = some oT → h.get? TO = some oO → h.get? i1 = some o1 → h.get? i2 = some o2 → h.get? i3 = some o3 → ∃ t1 t2 t3, Zs3 k1 k2 k3 t1 t2 t3 z TI TO i1 i2 i3 0 h
def tZipV (n0 : Nat) (ta : TA) : TE := fun σ H Q => ta σ H fun vs H1 => ∃ v1 v2 v3 k1 k2 k3 xs ys zs, vs = [v1, v2, v3] ∧ (k1.Of v1 ∧ k2.Of v2 ∧ k3.Of v3) ∧ (k1.Is H1 xs ∧ k2.Is H1 ys ∧ k3.Is H1 zs) ∧ ∀ z H2, ZV n0 k1 k2 k3 H1 H2 z → Q (.ref z) H2
section
variable {X : Cx}
theorem pe_zipV {e e2 e3 : Expr} {ta : TA} {p pos : Pos} (hg : Gl X "zip") (hm : X.mg "zip" = none) (ha : PA X [e, e2, e3] ta)
    (hs : starEach [e, e2, e3] X.env = (false, eval e X.env) :: starEach [e2, e3] X.env := by rfl) (hpl : (backTo pos (starEach [e2, e3] X.env)).any (·.1) = false := by rfl) :
    PE X (.Call (.Name "zip" p) [e, e2, e3] [] pos) (tZipV X.s_0.heap.objs.size ta) := by
  refine ⟨fun pins s σ H Q I h => ?_⟩
  refine Call_ (ld_blt I hg hm PyProof.Rows.boot_zip (PyProof.Rows.callWith_type1 (thn (ha.run pos pins s σ H _ I h) fun us s1 ⟨vs, H1, I1, r1, q1⟩ => ?_) hs hpl))
  obtain ⟨v1, v2, v3, k1, k2, k3, xs, ys, zs, ex, ⟨o1, o2, o3⟩, ⟨s1', s2', s3'⟩, q⟩ := q1
  subst ex
  obtain ⟨u1, u2, u3, rfl, ru1, ru2, ru3⟩ := vals3 r1
  obtain ⟨t1, C1, B1, g1⟩ := Sk.begins I1 o1 s1' ru1
  obtain ⟨t2, C2, B2, g2⟩ := Sk.begins I1 o2 s2' ru2
  obtain ⟨t3, C3, B3, g3⟩ := Sk.begins I1 o3 s3' ru3
  refine zip_begins3 B1 B2 B3 g1 g2 g3 fun h' hz hTI hTO e1 e2 e3 hsz hk => ?_
  have I2 : Inv X pins σ H1 { s1 with heap := h' } := I1.kept (t' := s1.toks) hk
  have D := Ap3.of s1.heap.objs.size
  have fr : ∀ c, s1.heap.objs.size ≤ c → FpOk X pins H1 c := fun c hc => I1.fpOk hc (I1.hok.fresh hc)
  have f0 := fr (s1.heap.objs.size + 5) (Nat.le_add_right _ _)
  have f1 := fr (s1.heap.objs.size + 3) (Nat.le_add_right _ _)
  have f2 := fr (s1.heap.objs.size + 4) (Nat.le_add_right _ _)
  have f3 := fr s1.heap.objs.size (Nat.le_refl _)
  have f4 := fr (s1.heap.objs.size + 1) (Nat.le_add_right _ _)
  have f5 := fr (s1.heap.objs.size + 2) (Nat.le_add_right _ _)
  have le0 := I1.sz
  have J0 := inv_track I2 f0 hz
  have J1 := inv_track J0 (fp_upd f1 D.TIz) hTI
  have J2 := inv_track J1 (fp_upd (fp_upd f2 D.TOz) D.TITO.symm) hTO
  have J3 := inv_track J2 (fp_upd (fp_upd (fp_upd f3 D.zi1.symm) D.TIi1.symm) D.TOi1.symm) e1
  have J4 := inv_track J3 (fp_upd (fp_upd (fp_upd (fp_upd f4 D.zi2.symm) D.TIi2.symm) D.TOi2.symm) D.i12.symm) e2
  have J5 := inv_track J4 (fp_upd (fp_upd (fp_upd (fp_upd (fp_upd f5 D.zi3.symm) D.TIi3.symm) D.TOi3.symm) D.i13.symm) D.i23.symm) e3
  refine ⟨.ref (s1.heap.objs.size + 5), _, J5, rfl, q _ _ ⟨_, _, _, _, _, _, _, _, _, _, _, D, ⟨?_, ?_, ?_, ?_, ?_, ?_⟩, ⟨f0.1, f1.1, f2.1, f3.1, f4.1, f5.1⟩, rfl, fun h a1 a2 a3 a4 a5 a6 => ⟨t1, t2, t3, a1, a2, ⟨_, _, _, a3⟩, .zero a4, .zero a5, .zero a6⟩⟩⟩
  · exact Nat.le_trans le0 (Nat.le_add_right _ _)
  · exact Nat.le_trans le0 (Nat.le_add_right _ _)
  · exact Nat.le_trans le0 (Nat.le_add_right _ _)
  · exact le0
  · exact Nat.le_trans le0 (Nat.le_add_right _ _)
  · exact Nat.le_trans le0 (Nat.le_add_right _ _)
/-- it is walked: behind the first step it is known no more -/
def iZipV (n0 k : Nat) : TI := fun σ H R => ∃ z k1 k2 k3 H1 xs ys zs, σ[k]? = some (some (.ref z)) ∧ ZV n0 k1 k2 k3 H1 H z ∧ R (Itz3 k1 k2 k3 xs ys zs) H1
theorem pi_zipV {elts : List Expr} {kk : Nat} {tpos p : Pos} {k : Nat} {x : Str} (hN : X.N[k]? = some x) (hv : Vis X.env.scope x) (hd : (x == ("__debug__" : Str)) = false := by decide) (hcd : (x == ("__classdict__" : Str)) = false := by decide) :
    PI X (.Tuple elts kk tpos) (.Name x p) (iZipV X.s_0.heap.objs.size k) := by
  refine ⟨fun pins s σ H R I h => ?_⟩
  obtain ⟨z, k1, k2, k3, H1, xs, ys, zs, hs, hz, q⟩ := h
  refine thn ((pe_var (pos := p) (i := k) hN hv hd hcd).run pins s σ H (fun v H1 => v = .ref z ∧ H1 = H) I ⟨.ref z, hs, rfl, rfl⟩) fun u s1 ⟨v, H', I1, r1, ev, eH⟩ => ?_
  subst ev
  rw [eH] at I1
  cases r1
  obtain ⟨TI, TO, i1, i2, i3, oz, oT, oO, o1, o2, o3, D, ⟨l0, l1, l2, l3, l4, l5⟩, ⟨n0, n1, n2, n3, n4, n5⟩, eH2, hst⟩ := hz
  subst eH2
  have get : ∀ (a : Addr) (o : Obj), (trk6 H1 z TI TO i1 i2 i3 oz oT oO o1 o2 o3) a = some (One a o) → s1.heap.get? a = some o := fun a o e => (I1.hok a _ e).1
  have a5 : (trk6 H1 z TI TO i1 i2 i3 oz oT oO o1 o2 o3) i3 = some (One i3 o3) := upd_same
  have a4 : (trk6 H1 z TI TO i1 i2 i3 oz oT oO o1 o2 o3) i2 = some (One i2 o2) := by rw [trk6, upd_ne D.i23, upd_same]
  have a3 : (trk6 H1 z TI TO i1 i2 i3 oz oT oO o1 o2 o3) i1 = some (One i1 o1) := by rw [trk6, upd_ne D.i13, upd_ne D.i12, upd_same]
  have a2 : (trk6 H1 z TI TO i1 i2 i3 oz oT oO o1 o2 o3) TO = some (One TO oO) := by rw [trk6, upd_ne D.TOi3, upd_ne D.TOi2, upd_ne D.TOi1, upd_same]
  have a1 : (trk6 H1 z TI TO i1 i2 i3 oz oT oO o1 o2 o3) TI = some (One TI oT) := by rw [trk6, upd_ne D.TIi3, upd_ne D.TIi2, upd_ne D.TIi1, upd_ne D.TITO, upd_same]
  have a0 : (trk6 H1 z TI TO i1 i2 i3 oz oT oO o1 o2 o3) z = some (One z oz) := by rw [trk6, upd_ne D.zi3, upd_ne D.zi2, upd_ne D.zi1, upd_ne D.TOz.symm, upd_ne D.TIz.symm, upd_same]
  obtain ⟨t1, t2, t3, st⟩ := hst s1.heap (get _ _ a0) (get _ _ a1) (get _ _ a2) (get _ _ a3) (get _ _ a4) (get _ _ a5)
  refine wpAny_pyIter_zip st.1 ?_
  -- the six are forgotten, one by one
  have b5 := ItX.inv_drop I1 a5
  have f5 := ItX.inv_fp I1 a5 l5
  have d5 : ItX.dropH (trk6 H1 z TI TO i1 i2 i3 oz oT oO o1 o2 o3) i3 = upd (upd (upd (upd (upd H1 z (One z oz)) TI (One TI oT)) TO (One TO oO)) i1 (One i1 o1)) i2 (One i2 o2) :=
    drop_upd (by rw [upd_ne D.i23.symm, upd_ne D.i13.symm, upd_ne D.TOi3.symm, upd_ne D.TIi3.symm, upd_ne D.zi3.symm]; exact n5)
  rw [d5] at b5 f5
  have b4 := ItX.inv_drop b5 upd_same
  have f4 := ItX.inv_fp b5 upd_same l4
  have d4 : ItX.dropH (upd (upd (upd (upd (upd H1 z (One z oz)) TI (One TI oT)) TO (One TO oO)) i1 (One i1 o1)) i2 (One i2 o2)) i2 = upd (upd (upd (upd H1 z (One z oz)) TI (One TI oT)) TO (One TO oO)) i1 (One i1 o1) :=
    drop_upd (by rw [upd_ne D.i12.symm, upd_ne D.TOi2.symm, upd_ne D.TIi2.symm, upd_ne D.zi2.symm]; exact n4)
  rw [d4] at b4 f4
  have b3 := ItX.inv_drop b4 upd_same
  have f3 := ItX.inv_fp b4 upd_same l3
  have d3 : ItX.dropH (upd (upd (upd (upd H1 z (One z oz)) TI (One TI oT)) TO (One TO oO)) i1 (One i1 o1)) i1 = upd (upd (upd H1 z (One z oz)) TI (One TI oT)) TO (One TO oO) :=
    drop_upd (by rw [upd_ne D.TOi1.symm, upd_ne D.TIi1.symm, upd_ne D.zi1.symm]; exact n3)
  rw [d3] at b3 f3
  have b2 := ItX.inv_drop b3 upd_same
  have f2 := ItX.inv_fp b3 upd_same l2
  have d2 : ItX.dropH (upd (upd (upd H1 z (One z oz)) TI (One TI oT)) TO (One TO oO)) TO = upd (upd H1 z (One z oz)) TI (One TI oT) :=
    drop_upd (by rw [upd_ne D.TITO.symm, upd_ne D.TOz]; exact n2)
  rw [d2] at b2 f2
  have b1 := ItX.inv_drop b2 upd_same
  have f1 := ItX.inv_fp b2 upd_same l1
  have d1 : ItX.dropH (upd (upd H1 z (One z oz)) TI (One TI oT)) TI = upd H1 z (One z oz) := drop_upd (by rw [upd_ne D.TIz]; exact n1)
  rw [d1] at b1 f1
  have b0 := ItX.inv_drop b1 upd_same
  have f0 := ItX.inv_fp b1 upd_same l0
  rw [drop_upd n0] at b0 f0
  refine ⟨z, [z, TI, TO, i1, i2, i3], _, Itz3 k1 k2 k3 xs ys zs, H1, rfl, b0, turn_zip3 (t1 := t1) (t2 := t2) (t3 := t3) D, st, fun c hc => ?_, q⟩
  rcases mem6 hc with e | e | e | e | e | e <;> subst e
  · exact f0
  · exact ⟨n1, f1.2⟩
  · exact ⟨n2, f2.2⟩
  · exact ⟨n3, f3.2⟩
  · exact ⟨n4, f4.2⟩
  · exact ⟨n5, f5.2⟩
end

/-! ### on data -/
/-- an expression that first walks the zip that slot k holds -/
def EvW (μ : Mu) (n0 k : Nat) (l m n : List D) (te : TE) (ρ : DEnv) (d : D) : Prop := ∀ (σ : L2.St) (F M H1 H2 : Hp) (z : Addr) (k1 k2 k3 : Sk) (xs ys zs : List V), RepS F ρ σ → RepM F M μ → Wd F M H1 →
  (k1.Is F xs ∧ k2.Is F ys ∧ k3.Is F zs) → (RepL F l xs ∧ RepL F m ys ∧ RepL F n zs) → σ[k]? = some (some (.ref z)) → ZV n0 k1 k2 k3 H1 H2 z →
  ∀ Q : VK, (∀ v F2 H3, Same F F2 → Wd F2 M H3 → Rep F2 d v → Q v H3) → te σ H2 Q
section
variable {μ : Mu} {ρ : DEnv} {n0 k : Nat} {l m n : List D} {te : TE} {d x z : D}
theorem ew_lc {g : TG} {tt : TT} {vs js : List Nat} {α : Type} {xs : List α} {enc : α → D} {f : α → Bool} {h : α → D} {ρ' : α → DEnv} (hz : zip3 l m n = xs.map enc) (hj : ∀ j ∈ js, j ∈ vs) (ha : ∀ x ∈ xs, Asg g js (dwipe ρ vs) (enc x) (ρ' x))
    (ht : ∀ x ∈ xs, EvT μ tt (ρ' x) (f x)) (he : ∀ x ∈ xs, f x = true → Ev μ te (ρ' x) (h x)) (hl : xs.length ≤ 100000) : EvW μ n0 k l m n (tLc (iZipV n0 k) g tt te vs) ρ (.lst ((xs.filter f).map h)) :=
  fun σ F M H1 H2 z k1 k2 k3 as bs cs rs rm w is rl hs hv Q q => lc_at rs rm (fun R r => ⟨z, k1, k2, k3, H1, as, bs, cs, hs, hv, r _ F H1 (Same.refl F) w fun F3 M3 H3 e w3 _ => by
    rw [← hz]
    exact wk3 is.1 is.2.1 is.2.2 rl.1 rl.2.1 rl.2.2 e w3⟩) hj ha ht he hl Q q
theorem ew_cb {rr : List V → Hp → VK → Prop} (h : EvW μ n0 k l m n te ρ x) (hr : CD μ rr [x] z) : EvW μ n0 k l m n (tCB rr (tCons te tNil)) ρ z := fun σ F M H1 H2 a k1 k2 k3 as bs cs rs rm w is rl hs hv Q q =>
  h σ F M H1 H2 a k1 k2 k3 as bs cs rs rm w is rl hs hv _ fun v F2 H3 e2 w2 r2 => hr F2 M H3 [v] (.one r2) (rm.mono e2) w2 Q fun u F3 H4 e3 w3 r3 => q u F3 H4 (e2.trans e3) w3 r3
theorem ew_op {rr : R2} {i : Int} (h : EvW μ n0 k l m n te ρ x) (hr : RD μ rr (.int i) x z) : EvW μ n0 k l m n (tOp rr (tC (.int i)) te) ρ z := fun σ F M H1 H2 a k1 k2 k3 as bs cs rs rm w is rl hs hv Q q =>
  h σ F M H1 H2 a k1 k2 k3 as bs cs rs rm w is rl hs hv _ fun v F2 H3 e2 w2 r2 => hr F2 M H3 _ v (.int i) r2 (rm.mono e2) w2 Q fun u F3 H4 e3 w3 r3 => q u F3 H4 (e2.trans e3) w3 r3
theorem q_told {K : Kt} {ta : TA} {d1 d2 d3 : D} (h : EvA μ ta ρ [d1, d2, d3]) (s1 : Sq d1 l) (s2 : Sq d2 m) (s3 : Sq d3 n) (hk : k < ρ.length) (hw : EvW μ n0 k l m n te (ρ.set k none) d) (kk : K.rt μ d) :
    Sv μ (tSeq (tAsg (tZipV n0 ta) (gName k)) (tRet te)) ρ K := fun σ F M H rs rm w E tk =>
  h σ F M H rs rm w _ fun vs F2 H2 e2 w2 r2 => by
    cases r2 with
    | cons r1 r2 =>
      cases r2 with
      | cons r2 r3 =>
        cases r3 with
        | cons r3 r4 =>
          cases r4
          obtain ⟨k1, xs, o1, i1, t1⟩ := s1.sk r1 w2
          obtain ⟨k2, ys, o2, i2, t2⟩ := s2.sk r2 w2
          obtain ⟨k3, zs, o3, i3, t3⟩ := s3.sk r3 w2
          refine ⟨_, _, _, k1, k2, k3, xs, ys, zs, rfl, ⟨o1, o2, o3⟩, ⟨i1.mono w2.f, i2.mono w2.f, i3.mono w2.f⟩, fun z H3 hv => ?_⟩
          show te (σ.set k (some (.ref z))) H3 E.rt
          refine hw _ F2 M H2 H3 z k1 k2 k3 xs ys zs ((rs.mono e2).forget k (some (.ref z))) (rm.mono e2) w2 ⟨i1, i2, i3⟩ ⟨t1, t2, t3⟩ (List.getElem?_set_self (by rw [← rs.len]; exact hk)) hv _ fun v F3 H4 e3 w3 r3 => ?_
          exact tk.rt μ d v F3 M H4 kk (Stp.pure rm (e2.trans e3) w3) r3
end
end Mf
set_option maxRecDepth 100000
set_option maxHeartbeats 4000000
/-! Meetfolk: enumerate over a list, a tuple, a text. -/
namespace Mf
open PySem L2 PyProof.Rows
variable [Tt] [Xw]

theorem enum_new {val : Value} {ob : Obj} {Held : Heap → Prop} (Bg : Begins val ob Held) :
    Meets (Builtin.«enumerate.__new__» ⟨[.type "enumerate", val], []⟩) (fun _ Rr sh => Held sh.heap ∧
      Rr (.ok (.ret (.ref (sh.heap.push ob).objs.size))) { sh with heap := (sh.heap.push ob).push { cls := .type "enumerate", data := .fields #[.none, .bool false, .ref sh.heap.objs.size, rawInt 0, .none, .none] } }) :=
  .of_wp fun prog w Ar Rr sh hh => by
    obtain ⟨hp, gs, dr, tk, os⟩ := sh
    obtain ⟨hHeld, hh⟩ := hh
    have hsubE := sub_enumerate
    have begun : ∀ {Ar' : Around} {Er : Value → Shared → Prop} {Qr : Value → Shared → Prop}, Qr (.ref hp.objs.size) ⟨hp.push ob, gs, dr, tk, os⟩ → wpAny (model prog w) Ar' (pyIter val) Qr Er ⟨hp, gs, dr, tk, os⟩ :=
      fun q => Bg.iter prog w _ _ ⟨hp, gs, dr, tk, os⟩ _ hHeld q
    wp_walk using begun
    refine wpAny_stack_any fun stk => wpAny_pure ?_
    split
    · rename_i cc _ _ _ _ _
      cases (cc == Value.type "enumerate") <;> (wp_walk using begun; exact ⟨_, rfl, hh⟩)
    · wp_walk using begun
      exact ⟨_, rfl, hh⟩
theorem call_enum1 {prog : Program} {w : World} {A : Around} {E : Value → Shared → Prop} {s : Shared} {val : Value} {ob : Obj} {Held : Heap → Prop} {Q : Value → Shared → Prop} (Bg : Begins val ob Held) (hHeld : Held s.heap)
    (h : ∀ h', IsEnum h' (s.heap.objs.size + 1) s.heap.objs.size 0 .none → h'.get? s.heap.objs.size = some ob → (∀ b o, s.heap.get? b = some o → h'.get? b = some o) → Q (.ref (s.heap.objs.size + 1)) { s with heap := h' }) :
    wpAny (model prog w) A (call (.type "enumerate") [val]) Q E s := by
  refine callType_new F.called_enumerate (by decide) (F.typeCall_enumerate_1 _) (F.newCall_enumerate_1 _) (fun obj => F.args_object_init_2 obj _) F.entry_enumerate_new (enum_new Bg) ⟨hHeld, ?_⟩
  have size1 : (s.heap.push ob).objs.size = s.heap.objs.size + 1 := Heap.size_push ..
  show _ ∧ _
  rw [size1]
  have cell : ((s.heap.push ob).push { cls := .type "enumerate", data := .fields #[.none, .bool false, .ref s.heap.objs.size, rawInt 0, .none, .none] }).get? (s.heap.objs.size + 1) = some { cls := .type "enumerate", data := .fields #[.none, .bool false, .ref s.heap.objs.size, rawInt 0, .none, .none] } := by
    rw [← size1]
    exact Heap.get?_push_size _ rfl
  exact ⟨⟨_, cell, rfl⟩, h _ cell (Heap.get?_push_of_some _ (Heap.get?_push_size _ Bg.free)) fun b o x => Heap.get?_push_of_some _ (Heap.get?_push_of_some _ x)⟩
def Iten (k : Sk) (xs : List V) : L2.It :=
  ⟨fun i H => k.Is H xs ∧ i < xs.length, fun i H v H' => ∃ T x, v = .ref T ∧ H T = none ∧ H' = upd H T (.tup [.int (i : Nat), x]) ∧ xs[i]? = some x, fun i H => k.Is H xs ∧ i = xs.length⟩
theorem turn_enumU {P : Program} {w : World} {K : PySem.W.Frag} {elts : List Expr} {kk : Nat} {tpos : Pos} {k : Sk} {xs : List V} {t : Tok} {e it : Addr} (hne : e ≠ it) :
    Turn P w K (.Tuple elts kk tpos) (Iten k xs) [e, it] e (fun i h => (∃ old, IsEnum h e it ((i : Nat) : Int) old) ∧ k.It t it i h) where
  mem := by simp
  obj := fun i h st b hb => by
    obtain ⟨⟨old, he⟩, hi⟩ := st
    rcases List.mem_cons.mp hb with z | z
    · rw [z]; exact ⟨_, he, fun v q => nomatch q⟩
    · rw [List.mem_singleton.mp z]; exact hi.obj
  keep := fun i h h' st kp => by
    obtain ⟨⟨old, he⟩, hi⟩ := st
    exact ⟨⟨old, kp e (by simp) _ he⟩, hi.keep fun o q => kp it (by simp) o q⟩
  item := by
    intro X hP hw hK hc i pins s σ H E I hf st hg
    subst hP hw hK
    obtain ⟨⟨old, he⟩, hit⟩ := st
    obtain ⟨s1, l1⟩ := hg
    have n1 : H it = none := (hf it (by simp)).1
    have n0 : H e = none := (hf e (by simp)).1
    obtain ⟨P1, S1, D1, a1, b1, c1⟩ := Sk.draws I s1 n1 hit X.A.in1 (I.ok.hd hc)
    have hel : e < s.heap.objs.size := Heap.lt_size he
    have hil : it < s.heap.objs.size := by obtain ⟨_, q, _⟩ := hit.obj; exact Heap.lt_size q
    refine wpAny_pyNext_enum_itemD D1 he a1 l1 hne (Sk.fp_not s1 hne n0) fun x h' tk hp ho st' hT hsz hk => ?_
    obtain ⟨v1, e1, r1⟩ := b1 i x hp
    refine ⟨_, rfl, wpAny_letOwnedTupleGo_enum (s := { s with heap := h', toks := tk + 1 }) ho fun h'' he' sb => ?_⟩
    have hT2 : h''.get? s.heap.objs.size = some { cls := .type "tuple", data := .seq #[.int i tk, x] } := (sb.2 _ (Nat.ne_of_gt hel)).trans hT
    have new : ObjOk X.prog X.w (upd H s.heap.objs.size (.tup [.int (i : Nat), v1])) h'' s.heap.objs.size (.tup [.int (i : Nat), v1]) :=
      ⟨by show 2 ≤ sizeLine; decide, [.int i tk, x], .cons ⟨_, rfl⟩ (.cons r1 .nil), ⟨_, hT2, rfl, _, rfl⟩⟩
    have I1 : Inv X pins σ (upd H s.heap.objs.size (.tup [.int (i : Nat), v1])) { s with heap := h'', toks := tk + 1 } :=
      I.turnedNew (t' := tk + 1) (ch := [e, it]) (fun b ob hb q => (sb.2 b (fun z => hb (by simp [z]))).trans (hk b ob (fun z => hb (by simp [z])) (fun z => hb (by simp [z])) q)) hf (Nat.le_refl _) new
    refine ⟨.ref s.heap.objs.size, _, I1, rfl, ⟨_, v1, rfl, I.hok.fresh (Nat.le_refl _), rfl, e1⟩, ⟨⟨x, ?_⟩, (c1 _ _ st').keep fun o q => (sb.2 it hne.symm).trans q⟩, fun b hb => ?_⟩
    · have z1 : ((i + 1 : Nat) : Int) = (i : Int) + 1 := by omega
      rw [z1]
      exact he'
    · have hb' : b < s.heap.objs.size := by
        rcases List.mem_cons.mp hb with z | z
        · rw [z]; exact hel
        · rw [List.mem_singleton.mp z]; exact hil
      rw [upd_ne (Nat.ne_of_lt hb')]
      exact (hf b hb).1
  done := by
    intro X hP hw hK hc i pins s σ H E I hf st hg
    subst hP hw hK
    obtain ⟨⟨old, he⟩, hit⟩ := st
    obtain ⟨s1, rfl⟩ := hg
    have n1 : H it = none := (hf it (by simp)).1
    obtain ⟨P1, S1, D1, a1, b1, c1⟩ := Sk.draws I s1 n1 hit X.A.in1 (I.ok.hd hc)
    exact wpAny_pyNext_enum_endD D1 he a1 fun h' eb => ⟨rfl, I.turnedL (t' := s.toks) (ch := [e, it]) (fun b o hb q => eb b o (fun z => hb (by simp [z])) q) hf⟩
  self := fun A i s Q E st h => let ⟨⟨_, he⟩, _⟩ := st; wpAny_pyIter_enum he h
def iEnumU (ta : TA) : TI := fun σ H R => ta σ H fun vs H1 => ∃ v k xs, vs = [v] ∧ k.Of v ∧ k.Is H1 xs ∧ R (Iten k xs) H1
theorem pi_enumU {X : Cx} {e : Expr} {ta : TA} {p pos tpos : Pos} {elts : List Expr} {kk : Nat} (hg : Gl X "enumerate") (hm : X.mg "enumerate" = none) (ha : PA X [e] ta) (hs : starEach [e] X.env = [(false, eval e X.env)] := by rfl) :
    PI X (.Tuple elts kk tpos) (.Call (.Name "enumerate" p) [e] [] pos) (iEnumU ta) := by
  refine ⟨fun pins s σ H R I h => ?_⟩
  refine Call_ (ld_blt I hg hm boot_enumerate (PyProof.Rows.callWith_type1 (thn (ha.run pos pins s σ H _ I h) fun us s1 ⟨vs, H1, I1, r1, q1⟩ => ?_) hs rfl))
  obtain ⟨v, k, xs, ex, o1, s1', q⟩ := q1
  subst ex
  obtain ⟨u, rfl, ru⟩ := vals1 r1
  obtain ⟨t, C1, B1, g1⟩ := Sk.begins I1 o1 s1' ru
  refine call_enum1 B1 g1 fun h' he hit hk => wpAny_pyIter_enum he ?_
  have I2 : Inv X pins σ H1 { s1 with heap := h' } := I1.kept (t' := s1.toks) hk
  refine ⟨s1.heap.objs.size + 1, [s1.heap.objs.size + 1, s1.heap.objs.size], _, _, H1, rfl, I2, turn_enumU (t := t) (Nat.succ_ne_self _), ⟨⟨.none, he⟩, .zero hit⟩, fun b hb => ?_, q⟩
  have hle : s1.heap.objs.size ≤ b := by
    rcases List.mem_cons.mp hb with z | z
    · rw [z]; exact Nat.le_succ _
    · rw [List.mem_singleton.mp z]; exact Nat.le_refl _
  exact I1.fpOk hle (I1.hok.fresh hle)
def enumD (l : List D) : List D := l.zipIdx.map fun p => .tup [.int (p.2 : Nat), p.1]
theorem ei_enum {μ : Mu} {ρ : DEnv} {ta : TA} {d1 : D} {l : List D} (h : EvA μ ta ρ [d1]) (s1 : Sq d1 l) : EvI μ (iEnumU ta) ρ (enumD l) := fun σ F M H rs rm w R q =>
  h σ F M H rs rm w _ fun vs F2 H2 e2 w2 r2 => by
    cases r2 with
    | cons r1 r2 =>
      cases r2
      obtain ⟨k1, xs, o1, i1, t1⟩ := s1.sk r1 w2
      refine ⟨_, k1, xs, rfl, o1, i1.mono w2.f, q _ F2 H2 e2 w2 fun F3 M3 H3 e w f => ⟨⟨i1.mono (e.trans w.f), ?_⟩, fun i d hd => ?_⟩⟩
      · rw [enumD, List.length_map, List.length_zipIdx, t1.len]
      · rw [enumD, List.getElem?_map, List.getElem?_zipIdx] at hd
        obtain ⟨⟨p1, p2⟩, hp, rfl⟩ := Option.map_eq_some_iff.mp hd
        obtain ⟨x, hx, he⟩ := Option.map_eq_some_iff.mp hp
        cases he
        obtain ⟨v1, f1, u1⟩ := t1.get hx
        refine ⟨⟨i1.mono (e.trans w.f), (List.getElem?_eq_some_iff.mp f1).1⟩, fun y H4 yy => ?_⟩
        obtain ⟨T, x1, rfl, hT, rfl, b1⟩ := yy
        rw [f1] at b1
        cases b1
        rw [Nat.zero_add]
        exact ⟨_, w.newS hT, w.new hT, .tup upd_same (.cons (.int _) (.cons ((u1.mono e).mono (w.newS hT)) .nil))⟩
end Mf
set_option maxRecDepth 100000
set_option maxHeartbeats 4000000
/-! Meetfolk: the rules by short words, with the written part named; defs by their names. -/
namespace Mf
open PySem L2 PyProof.Rows
variable [Tt] [Xw]

section
variable {X : Cx} (K : PySem.W.Frag) (hK : X.K = K)
include hK
theorem uIn : OpR X (compareOp .In) (rInU K false) := hK ▸ op_inU
theorem uNin : OpR X (compareOp .NotIn) (rInU K true) := hK ▸ op_notInU
theorem uIx : IxR X (rIx K) := hK ▸ ix_seq
theorem uSl : SlR X (rSlU K) := hK ▸ sl_U
theorem uLen : CallR X (.builtin "len") (rLenU K) := hK ▸ call_lenU
theorem uList (hc : X.calm = true) : CallR X (.type "list") (rListU K) := hK ▸ call_listU hc
theorem uTup : CallR X (.type "tuple") (rTupU K) := hK ▸ call_tupU
theorem uMax (hc : X.calm = true) (hu : X.A.units + 1 < cLine) : CallR X (.builtin "max") (rMaxU K) := hK ▸ call_maxU hc hu
theorem uMin (hc : X.calm = true) (hu : X.A.units + 1 < cLine) : CallR X (.builtin "min") (rMinU K) := hK ▸ call_minU hc hu
theorem uSum (hc : X.calm = true) : CallR X (.builtin "sum") (rSumU K) := hK ▸ call_sumU hc
theorem uAll (hc : X.calm = true) : CallR X (.builtin "all") (rAll K) := hK ▸ cr_all hc
theorem uAny (hc : X.calm = true) : CallR X (.builtin "any") (rAny K) := hK ▸ cr_any hc
theorem uIsi : CallR X (.builtin "isinstance") (rIsiU K) := hK ▸ call_isiU
theorem uEq (hu : X.A.units + 64 < cLine) : OpR X (compareOp .Eq) (rEqD K) := hK ▸ op_eqD hu
theorem uNe (hu : X.A.units + 64 < cLine) : OpR X (compareOp .NotEq) (rNeD K) := hK ▸ op_neD hu
theorem uSorted : CallR X (.builtin "sorted") (rSortedS K) := hK ▸ cr_sortedS
theorem uSeq {tg e : Expr} {te : TE} (h : PE X e te) : PI X tg e (iSeq K te) := hK ▸ pi_seq h
theorem uGtup {tg : Expr} {t : TGs} {n : Nat} (h : PG X tg (gTup X.K n t)) : PG X tg (gTup K n t) := hK ▸ h
theorem uBm {o e : Expr} {es : List Expr} {to : TE} {t : TA} {name : Str} {apos cpos : Pos} {T id : String} {r : V → List V → Hp → VK → Prop} (pa : PlainAttrs T) (slot : Slot T name id) (hty : typeOf (.builtin id) = pure (.type "method_descriptor")) (hm : MtR X id r) (ho : PE X o to) (ha : PA X (e :: es) t)
    (hbase : attributeBase o name X.env (eval o X.env) = eval o X.env := by rfl)
    (hfew : ((backTo cpos (starEach (e :: es) X.env)).all (fun x => !x.1) && (backToKw cpos (keywordEach [] X.env)).all (fun x => x.1.isSome)
      && decide ((e :: es).length + ([] : List Keyword).length + (if ([] : List Keyword).isEmpty then 0 else 1) < 30)) = true := by rfl)
    (hline : (apos.endLine == cpos.line) = true := by rfl) (hs : starEach (e :: es) X.env = (false, eval e X.env) :: starEach es X.env := by rfl) (hplain : (backTo cpos (starEach es X.env)).any (·.1) = false := by rfl) :
    PE X (.Call (.Attribute o name apos) (e :: es) [] cpos) (tBM K T r to t) := hK ▸ pe_bm pa slot hty hm ho ha hbase hfew hline hs hplain
theorem uBm0 {o : Expr} {to : TE} {name : Str} {apos cpos : Pos} {T id : String} {r : V → List V → Hp → VK → Prop} (pa : PlainAttrs T) (slot : Slot T name id) (hty : typeOf (.builtin id) = pure (.type "method_descriptor")) (hm : MtR X id r) (ho : PE X o to)
    (hbase : attributeBase o name X.env (eval o X.env) = eval o X.env := by rfl) (hline : (apos.endLine == cpos.line) = true := by rfl) : PE X (.Call (.Attribute o name apos) [] [] cpos) (tBM0 K T r to) := hK ▸ pe_bm0 pa slot hty hm ho hbase hline
theorem uJoin : MtR X "str.join" (rJoin K) := hK ▸ mt_join
theorem uIndex (hu : X.A.units + 65 < cLine) : MtR X "list.index" (rIndexD K) := hK ▸ mt_indexD hu
end
def rCount : V → List V → Hp → VK → Prop := fun x xs H Q => ∃ a b, x = .str a ∧ xs = [.str b] ∧ Q (.int (Txt.count a b)) H
theorem uCount {X : Cx} : MtR X "str.count" rCount := mt_count
def rIsNU : R2 := fun x y H Q => y = .non ∧ Q (.bl (decide (x = .non))) H
def rNotNU : R2 := fun x y H Q => y = .non ∧ Q (.bl (!decide (x = .non))) H
theorem uIsN {X : Cx} : OpR X (compareOp .Is) rIsNU := op_isN
theorem uNotN {X : Cx} : OpR X (compareOp .IsNot) rNotNU := op_notN
theorem hu64 {k : Nat} {A : Around} (hr : Room k A) : A.units + 64 < cLine := hr.units
theorem hu65 {k : Nat} {A : Around} (hr : Room k A) : A.units + 65 < cLine := by
  have := hr.un
  omega

/-! ### defs by name -/
/-- the def of the text stands at its name -/
def FunAt (K : PySem.W.Frag) (mg : Str → Option Value) (x : Str) (st : Stmt) (ps : List Str) : Prop := ∃ (f : Addr) (fd : FuncData), Fun K x x st f fd ∧ mg x = some (.ref f) ∧ Binds K fd ps []
def Def (P : Program) (w : World) (K : PySem.W.Frag) (mg : Str → Option Value) (base : Heap) (CX : CXT) (x : Str) (k : Nat) (ps : List Str) (dvs : List V) (sp : Sp) : Prop :=
  ∃ (f : Addr) (fd : FuncData) (ds : List Value), FnOk P w K mg base CX k f fd ps sp ∧ mg x = some (.ref f) ∧ PySem.W.keepIn K (.ref f) = true ∧ Binds K fd ps ds ∧ Vals dvs ds
section
variable {P : Program} {w : World} {K : PySem.W.Frag} {mg : Str → Option Value} {base : Heap}
theorem FunAt.def_ {x : Str} {st : Stmt} {N ps : List Str} {k : Nat} {fr : List D → D → Prop} (F : FunAt K mg x st ps) (S : FnScope N ps (defScope st)) (n : ∀ ds d, fr ds d → ds.length = ps.length)
    (hbody : ∀ (cdv : Value) (A : Around) (outer : List Env) (s : Shared) (H : Hp) (E : XK) (f : Addr), Room k (A.deeper (envOfC x (defScope st) s.heap.objs.size f cdv)) →
      ∃ t, PSs (cxOf CX0 P w K mg base N x (defScope st) f cdv A outer s H E).nox (defBody st) t ∧ ∀ ds d, fr ds d → Sv mu0 t (start0 N.length ds) { nx := fun _ _ => d = .non, rt := fun _ d' => d' = d }) :
    Def P w K mg base CX0 x (k + 1) ps [] (spF fr) := by
  obtain ⟨f, fd, F, m, b⟩ := F
  refine ⟨f, fd, [], F.ok S (fun vs H Q E h => ?_) (fun cdv A outer s H vs Q E hr h => ?_), m, F.kp, b, .nil⟩
  · obtain ⟨F1, M1, ds, d, _, r, hf, _⟩ := h
    rw [← r.len]
    exact n ds d hf
  · obtain ⟨t, ht, hq⟩ := hbody cdv A outer s H E f hr
    exact ⟨t, ht, run_sv h hq⟩
theorem pe_def {X : Cx} {CX : CXT} {k k' : Nat} {ps : List Str} {sp : Sp} {x : Str} {p pos : Pos} {e : Expr} {es : List Expr} {t : TA} {dvs : List V} {E : XK} (D : Def X.prog X.w X.K X.mg X.base CX x k ps dvs sp) (hr : Room k' X.A) (hle : k ≤ k') (hg : Gl X x) (hx : Passes CX X E)
    (ha : PA X (e :: es) t) (hdb : (x == ("__debug__" : Str)) = false := by decide) (he : starEach (e :: es) X.env = (false, eval e X.env) :: starEach es X.env := by rfl) (hpl : (backTo pos (starEach es X.env)).any (·.1) = false := by rfl) :
    PE X (.Call (.Name x p) (e :: es) [] pos) (tCall sp dvs E t) := by
  obtain ⟨f, fd, ds, F, m, kp, b, hv⟩ := D
  exact pe_call F (hr.mono hle) hg m kp b hv hx ha hdb he hpl
end
/-- the built-in names that no def of the text covers -/
structure Bts (mg : Str → Option Value) : Prop where
  isinstance : mg "isinstance" = none
  int : mg "int" = none
  bool : mg "bool" = none
  str : mg "str" = none
  tuple : mg "tuple" = none
  list : mg "list" = none
  dict : mg "dict" = none
  len : mg "len" = none
  all : mg "all" = none
  any : mg "any" = none
  zip : mg "zip" = none
  set : mg "set" = none
  sum : mg "sum" = none
  range : mg "range" = none
  abs : mg "abs" = none
  enumerate : mg "enumerate" = none
  min : mg "min" = none
  max : mg "max" = none
  sorted : mg "sorted" = none
  ValueError : mg "ValueError" = none
/-- the text's numbers and its text -/
structure Cst (mg : Str → Option Value) : Prop where
  SMALL : ∃ t, mg "SMALL" = some (.str "abcdefghijklmnopqrstuvwxyz" t)
  MOST_MOODS : ∃ t, mg "MOST_MOODS" = some (.int 6 t)
  MOST_RULES : ∃ t, mg "MOST_RULES" = some (.int 12 t)
  MOST_FOLK : ∃ t, mg "MOST_FOLK" = some (.int (10 ^ 40) t)
  MOST_LEAPS : ∃ t, mg "MOST_LEAPS" = some (.int 5000 t)
  MOST_STEPS : ∃ t, mg "MOST_STEPS" = some (.int 40 t)
  MOST_TOLD : ∃ t, mg "MOST_TOLD" = some (.int (10 ^ 30) t)
section
variable {X : Cx} {x : Str} {pos : Pos}
theorem pe_gint {n : Int} (hg : Gl X x) (hm : ∃ t, X.mg x = some (.int n t)) (hd : (x == ("__debug__" : Str)) = false := by decide) : PE X (.Name x pos) (tC (.int n)) := by
  obtain ⟨t, h⟩ := hm
  exact pe_glob hg h ⟨t, rfl⟩ hd
theorem pe_gstr {n : Str} (hg : Gl X x) (hm : ∃ t, X.mg x = some (.str n t)) (hd : (x == ("__debug__" : Str)) = false := by decide) : PE X (.Name x pos) (tC (.str n)) := by
  obtain ⟨t, h⟩ := hm
  exact pe_glob hg h ⟨t, rfl⟩ hd
end
section
variable {μ : Mu} {d : D}
theorem rd_isN (h : d ≠ .non) : RD μ rIsNU d .non (.bl false) := fun F M H v w r1 r2 rm wd Q q => by
  cases r2
  refine ⟨rfl, ?_⟩
  have e : v ≠ .non := fun z => by
    subst z
    cases r1
    exact h rfl
  rw [decide_eq_false e]
  exact q _ F H (Same.refl F) wd (.bl _)
theorem rd_isN1 : RD μ rIsNU .non .non (.bl true) := fun F M H v w r1 r2 rm wd Q q => by
  cases r1
  cases r2
  exact ⟨rfl, q _ F H (Same.refl F) wd (.bl _)⟩
theorem rd_notN (h : d ≠ .non) : RD μ rNotNU d .non (.bl true) := fun F M H v w r1 r2 rm wd Q q => by
  cases r2
  refine ⟨rfl, ?_⟩
  have e : v ≠ .non := fun z => by
    subst z
    cases r1
    exact h rfl
  rw [decide_eq_false e]
  exact q _ F H (Same.refl F) wd (.bl _)
theorem rd_notN1 : RD μ rNotNU .non .non (.bl false) := fun F M H v w r1 r2 rm wd Q q => by
  cases r1
  cases r2
  exact ⟨rfl, q _ F H (Same.refl F) wd (.bl _)⟩
end
end Mf
set_option maxRecDepth 100000
set_option maxHeartbeats 4000000
/-! Meetfolk: the mirror's data, and helps for the walk. -/
namespace Mf
open PySem L2 PyProof.Rows
variable [Tt] [Xw]
def topS (i : Nat) : Stmt := PySem.Challenge.pw_meetfolk_k07_whole_rays.main.body.getD i (.Pass ⟨0, 0, 0, 0⟩)

def asgVal : Stmt → Expr
  | .Assign _ v _ => v
  | _ => .Name "" ⟨0, 0, 0, 0⟩
def retVal : Stmt → Expr
  | .Return (some v) _ => v
  | _ => .Name "" ⟨0, 0, 0, 0⟩
def loopBody : Stmt → List Stmt
  | .For _ _ b _ _ => b
  | .While _ b _ _ => b
  | _ => []
def lcElt : Expr → Expr
  | .ListComp e _ _ _ => e
  | e => e
def callArg : Expr → Expr
  | .Call _ (a :: _) _ _ => a
  | e => e
def lcScope : Expr → Scope
  | .ListComp _ _ sc _ => sc
  | _ => { kind := .function, names := [], isGenerator := false, isCoroutine := false }
abbrev Rl := Str × Str
abbrev eRule (r : Rl) : D := .tup [.str r.1, .str r.2]
abbrev eRules (rs : List Rl) : List D := rs.map eRule
abbrev eFolk (m : Str) (rs : List Rl) : D := .tup [.str m, .tup (eRules rs)]
abbrev eCrowd (c : List Int) : D := .tup (c.map D.int)
abbrev eRow (c : List Int) : D := .lst (c.map D.int)

theorem zip2_map {α β : Type} {f : α → D} {g : β → D} {l : List α} {m : List β} : zip2 (l.map f) (m.map g) = (l.zip m).map fun p => D.tup [f p.1, g p.2] := by
  unfold zip2
  rw [List.zip_map, List.map_map]
  rfl
theorem zip3_map {α β γ : Type} {f : α → D} {g : β → D} {e : γ → D} {l : List α} {m : List β} {n : List γ} : zip3 (l.map f) (m.map g) (n.map e) = (l.zip (m.zip n)).map fun p => D.tup [f p.1, g p.2.1, e p.2.2] := by
  unfold zip3
  rw [List.zip_map, List.zip_map, List.map_map]
  rfl
theorem signs_len (x : Str) : (signs x).length = x.length := by
  unfold signs
  rw [List.length_map, Array.length_toList]
  rfl
section
variable {P : Program} {w : World} {K : PySem.W.Frag} {mg : Str → Option Value} {base : Heap}
/-- a def with defaults stands at its name -/
def FunAtD (K : PySem.W.Frag) (mg : Str → Option Value) (x : Str) (st : Stmt) (ps : List Str) (dvs : List V) : Prop := ∃ (f : Addr) (fd : FuncData), FunD K x x (defArgs st) (defBody st) (defScope st) dvs [] f fd ∧ mg x = some (.ref f) ∧ Binds K fd ps [] ∧ ∃ ds, Vals dvs ds ∧ Binds K fd ps ds
theorem FunAtD.fn_ {x : Str} {st : Stmt} {N ps : List Str} {dvs : List V} {k : Nat} {fr : List D → D → Prop} (F : FunAtD K mg x st ps dvs) (S : FnScope N ps (defScope st)) (n : ∀ ds d, fr ds d → ds.length = ps.length)
    (hbody : ∀ (cdv : Value) (A : Around) (outer : List Env) (s : Shared) (H : Hp) (E : XK) (f : Addr), Room k (A.deeper (envOfC x (defScope st) s.heap.objs.size f cdv)) →
      ∃ t, PSs (cxOf CX0 P w K mg base N x (defScope st) f cdv A outer s H E).nox (defBody st) t ∧ ∀ ds d, fr ds d → Sv mu0 t (start0 N.length ds) { nx := fun _ _ => d = .non, rt := fun _ d' => d' = d }) :
    Def P w K mg base CX0 x (k + 1) ps [] (spF fr) ∧ Def P w K mg base CX0 x (k + 1) ps dvs (spF fr) := by
  obtain ⟨f, fd, F, m, b, ds, hv, b2⟩ := F
  have ok : FnOk P w K mg base CX0 (k + 1) f fd ps (spF fr) := by
    refine F.ok S (fun vs H Q E h => ?_) (fun cdv A outer s H vs Q E hr h => ?_)
    · obtain ⟨F1, M1, ds, d, _, r, hf, _⟩ := h
      rw [← r.len]
      exact n ds d hf
    · obtain ⟨t, ht, hq⟩ := hbody cdv A outer s H E f hr
      exact ⟨t, ht.nox, run_sv h hq⟩
  exact ⟨⟨f, fd, [], ok, m, F.kp, b, .nil⟩, ⟨f, fd, ds, ok, m, F.kp, b2, hv⟩⟩
end
/-! ### counts -/
theorem count_one (x : Str) (c : Nat) : Txt.count x ⟨#[c]⟩ = (x.cps.toList.count c : Nat) := by
  rw [count_cnt]
  induction x.cps.toList with
  | nil => rfl
  | cons n r ih =>
    rw [cnt_cons, ih, List.count_cons]
    by_cases h : n = c
    · rw [if_pos h, if_pos (by simpa using h)]
      omega
    · rw [if_neg h, if_neg (by simpa using h)]
      omega
/-- how often each mood stands in a text -/
def cn (m t : Str) : List Int := m.cps.toList.map fun c => ((t.cps.toList.count c : Nat) : Int)
/-- what a rule does to a crowd -/
def chg (m : Str) (r : Rl) : List Int := ((cn m r.1).zip (cn m r.2)).map fun p => p.2 - p.1
def canUse (m : Str) (c : List Int) (r : Rl) : Bool := (c.zip (cn m r.1)).all fun p => decide (p.2 ≤ p.1)
def usab (m : Str) (rs : List Rl) (c : List Int) : List Rl := rs.filter (canUse m c)
def beh (m : Str) (c : List Int) (r : Rl) (k : Int) : List Int := (c.zip (chg m r)).map fun p => p.1 + k * p.2
/-- two moods, ordered -/
def OkTwo (m t : Str) : Prop := ∃ a b, t = ⟨#[a, b]⟩ ∧ a ∈ m.cps.toList ∧ b ∈ m.cps.toList ∧ a ≤ b
structure OkM (m : Str) : Prop where
  l1 : 1 ≤ m.length
  l6 : m.length ≤ 6
  small : ∀ c ∈ m.cps.toList, c ∈ ("abcdefghijklmnopqrstuvwxyz" : Str).cps.toList
  asc : m.cps.toList.Pairwise (· < ·)
structure OkF (m : Str) (rs : List Rl) : Prop where
  moods : OkM m
  few : rs.length ≤ 12
  one : ∀ r ∈ rs, OkTwo m r.1
  two : ∀ r ∈ rs, OkTwo m r.2
  ne : ∀ r ∈ rs, r.1 ≠ r.2
  nd : rs.Nodup
/-- a crowd -/
structure OkC (m : Str) (c : List Int) : Prop where
  len : c.length = m.length
  nn : ∀ x ∈ c, 0 ≤ x
theorem cn_len (m t : Str) : (cn m t).length = m.length := by
  unfold cn
  rw [List.length_map, Array.length_toList]
  rfl
theorem chg_len (m : Str) (r : Rl) : (chg m r).length = m.length := by
  unfold chg
  rw [List.length_map, List.length_zip, cn_len, cn_len, Nat.min_self]
theorem cn_small {m t : Str} {x : Int} (h : x ∈ cn m t) : 0 ≤ x ∧ x ≤ t.length := by
  obtain ⟨c, hc, rfl⟩ := List.mem_map.mp h
  have : t.cps.toList.count c ≤ t.cps.toList.length := List.count_le_length
  rw [Array.length_toList] at this
  exact ⟨by omega, by
    show ((t.cps.toList.count c : Nat) : Int) ≤ (t.cps.size : Nat)
    omega⟩
theorem OkTwo.len {m t : Str} (h : OkTwo m t) : t.length = 2 := by
  obtain ⟨a, b, rfl, _⟩ := h
  rfl
theorem chg_small {m : Str} {rs : List Rl} {r : Rl} (h : OkF m rs) (hr : r ∈ rs) {x : Int} (hx : x ∈ chg m r) : x.natAbs ≤ 2 := by
  obtain ⟨p, hp, rfl⟩ := List.mem_map.mp hx
  obtain ⟨h1, h2⟩ := List.of_mem_zip hp
  have a := cn_small h1
  have b := cn_small h2
  rw [(h.one r hr).len] at a
  rw [(h.two r hr).len] at b
  have := a.2
  omega
theorem mulOk {i j : Int} (h1 : i.natAbs < 2 ^ 400000) (h2 : j.natAbs < 2 ^ 400000) : CMulW i j := by
  have a : ∀ n : Nat, n < 2 ^ 400000 → n.log2 ≤ 400000 := fun n h => by
    by_cases e : n = 0
    · rw [e]
      decide
    · exact Nat.le_of_lt ((Nat.log2_lt e).mpr h)
  have b := a _ h1
  have c := a _ h2
  unfold CMulW
  omega
theorem small_big {i : Int} (h : i.natAbs ≤ 2 ^ 200) : i.natAbs < 2 ^ 400000 := Nat.lt_of_le_of_lt h (Nat.pow_lt_pow_right (by decide) (by decide))
theorem two_big {i : Int} (h : i.natAbs ≤ 2) : i.natAbs ≤ 2 ^ 200 := Nat.le_trans h (by
  have : (2 : Nat) ^ 1 ≤ 2 ^ 200 := Nat.pow_le_pow_right (by decide) (by decide)
  omega)
/-! ### walks over signs, and calls over comprehensions -/
theorem map_signs (m : Str) : (signs m).map D.str = m.cps.toList.map fun c => D.str ⟨#[c]⟩ := by
  unfold signs
  rw [List.map_map]
  rfl
section
variable {μ : Mu} {ρ : DEnv} {te : TE} {K : PySem.W.Frag} {wi : TI} {g : TG} {tt : TT} {vs js : List Nat} {α : Type} {xs : List α} {enc : α → D}
theorem ei_sg {x : Str} (h : Ev μ te ρ (.str x)) : EvI μ (iSeq K te) ρ (x.cps.toList.map fun c => D.str ⟨#[c]⟩) := (ei_seqS h).is (map_signs x)
theorem Sq.sg (x : Str) : Sq (.str x) (x.cps.toList.map fun c => D.str ⟨#[c]⟩) := map_signs x ▸ Sq.str x
theorem ev_all {p : α → Bool} {ρ' : α → DEnv} (hi : EvI μ wi ρ (xs.map enc)) (hj : ∀ j ∈ js, j ∈ vs) (ha : ∀ x ∈ xs, Asg g js (dwipe ρ vs) (enc x) (ρ' x)) (he : ∀ x ∈ xs, Ev μ te (ρ' x) (.bl (p x))) (hl : xs.length ≤ 100000) :
    Ev μ (tCB (rAll K) (tCons (tLc wi g tYes te vs) tNil)) ρ (.bl (xs.all p)) :=
  (ev_cb (ea_cons (ev_lc1 hi hj ha he hl) ea_nil) (by
    have := cd_all (μ := μ) (K := K) (bs := xs.map p)
    rwa [List.map_map] at this)).is (by rw [List.all_map]; rfl)
theorem ev_any {p : α → Bool} {ρ' : α → DEnv} (hi : EvI μ wi ρ (xs.map enc)) (hj : ∀ j ∈ js, j ∈ vs) (ha : ∀ x ∈ xs, Asg g js (dwipe ρ vs) (enc x) (ρ' x)) (he : ∀ x ∈ xs, Ev μ te (ρ' x) (.bl (p x))) (hl : xs.length ≤ 100000) :
    Ev μ (tCB (rAny K) (tCons (tLc wi g tYes te vs) tNil)) ρ (.bl (xs.any p)) :=
  (ev_cb (ea_cons (ev_lc1 hi hj ha he hl) ea_nil) (by
    have := cd_any (μ := μ) (K := K) (bs := xs.map p)
    rwa [List.map_map] at this)).is (by rw [List.any_map]; rfl)
theorem ev_tupI {f : α → Int} {ρ' : α → DEnv} (hi : EvI μ wi ρ (xs.map enc)) (hj : ∀ j ∈ js, j ∈ vs) (ha : ∀ x ∈ xs, Asg g js (dwipe ρ vs) (enc x) (ρ' x)) (he : ∀ x ∈ xs, Ev μ te (ρ' x) (.int (f x))) (hl : xs.length ≤ 100000) :
    Ev μ (tCB (rTupU K) (tCons (tLc wi g tYes te vs) tNil)) ρ (eCrowd (xs.map f)) :=
  (ev_cb (ea_cons (ev_lc1 hi hj ha he hl) ea_nil) cd_tupL).is (by show _ = D.tup _; rw [List.map_map]; rfl)
end
theorem sLt_one (a b : Nat) : sLt ⟨#[a]⟩ ⟨#[b]⟩ = decide (a < b) := by
  unfold sLt
  rw [decide_eq_decide]
  show [a] < [b] ↔ _
  constructor
  · intro h
    cases h with
    | rel h => exact h
    | cons h => cases h
  · exact fun h => .rel h
theorem cut_tail (m : Str) (n : Nat) : (cutS m (some (n : Int)) none).cps.toList = m.cps.toList.drop n := by
  unfold cutS
  rw [HT.sIx_none, HT.sIx_nat]
  show List.take _ _ = _
  have hl : m.cps.toList.length = m.length := Array.length_toList
  by_cases h : n ≤ m.length
  · rw [Nat.min_eq_left h]
    exact List.take_of_length_le (by rw [List.length_drop, hl]; exact Nat.le_refl _)
  · rw [Nat.min_eq_right (by omega), Nat.sub_self, List.take_zero, List.drop_of_length_le (by omega)]
theorem asc_zip : ∀ (l : List Nat), l.Pairwise (· < ·) → (l.zip (l.drop 1)).all (fun p => decide (p.1 < p.2)) = true
  | [], _ => rfl
  | [a], _ => rfl
  | a :: b :: l, h => by
    have h1 : a < b := (List.pairwise_cons.mp h).1 b (List.mem_cons_self ..)
    have := asc_zip (b :: l) (List.pairwise_cons.mp h).2
    show ((a, b) :: (b :: l).zip ((b :: l).drop 1)).all _ = true
    rw [List.all_cons, this, Bool.and_true, decide_eq_true h1]
theorem OkM.lt {m : Str} (h : OkM m) {c : Nat} (hc : c ∈ m.cps.toList) : c < 0x110000 := by
  have h1 : ∀ c ∈ ("abcdefghijklmnopqrstuvwxyz" : Str).cps.toList, c < 0x110000 := by decide +kernel
  exact h1 c (h.small c hc)
theorem OkTwo.pl {m t : Str} (hm : OkM m) (h : OkTwo m t) (n : Nat) : Mf.pl n (.str t) = true := by
  obtain ⟨a, b, rfl, ha, hb, _⟩ := h
  have h1 := hm.lt ha
  have h2 := hm.lt hb
  show PyData.strOk ⟨#[a, b]⟩ = true
  unfold PyData.strOk
  rw [Array.all_eq_true']
  intro c hc
  have : c = a ∨ c = b := by simpa using hc
  rcases this with rfl | rfl
  · exact decide_eq_true h1
  · exact decide_eq_true h2
theorem ints_pl (n : Nat) (c : List Int) : pls n (c.map D.int) = true := pls_ints n c
theorem crowd_pl (c : List Int) : pl 9 (eCrowd c) = true := by
  show (decide (1 ≤ 9) && pls 8 (c.map D.int)) = true
  rw [pls_ints]
  rfl
/-! ### crowds of a size -/
def condT (t : Str) (c : Nat) : Bool := match t.cps.toList.getLast? with
  | none => true
  | some a => decide (a ≤ c)
def growT (m : Str) (ts : List Str) : List Str := ts.flatMap fun t => (m.cps.toList.filter (condT t)).map fun c => t ++ ⟨#[c]⟩
def textsT (m : Str) : Nat → List Str
  | 0 => [⟨#[]⟩]
  | n + 1 => growT m (textsT m n)
def crowdsT (m : Str) (n : Nat) : List (List Int) := (textsT m n).map (cn m)
theorem growT_len (m : Str) : ∀ ts : List Str, (growT m ts).length ≤ ts.length * m.length
  | [] => by simp [growT]
  | t :: ts => by
    show (((m.cps.toList.filter (condT t)).map fun c => t ++ ⟨#[c]⟩) ++ growT m ts).length ≤ _
    have h1 := growT_len m ts
    have h2 : (m.cps.toList.filter (condT t)).length ≤ m.length := by
      have := List.length_filter_le (condT t) m.cps.toList
      rwa [Array.length_toList] at this
    rw [List.length_append, List.length_map, List.length_cons, Nat.succ_mul]
    omega
theorem textsT_len {m : Str} (h6 : m.length ≤ 6) : ∀ n : Nat, (textsT m n).length ≤ 6 ^ n
  | 0 => Nat.le_refl _
  | n + 1 => by
    show (growT m (textsT m n)).length ≤ _
    have h1 := growT_len m (textsT m n)
    have h2 := textsT_len h6 n
    rw [Nat.pow_succ]
    exact Nat.le_trans h1 (Nat.mul_le_mul h2 h6)
theorem str_app (t : Str) (c : Nat) : (t ++ ⟨#[c]⟩ : Str).cps.toList = t.cps.toList ++ [c] := by
  show (t.cps ++ #[c]).toList = _
  simp
theorem str_app_len (t : Str) (c : Nat) : (t ++ ⟨#[c]⟩ : Str).length = t.length + 1 := by
  have h := congrArg List.length (str_app t c)
  rw [List.length_append, Array.length_toList, Array.length_toList] at h
  exact h
theorem textsT_each {m : Str} : ∀ (n : Nat), ∀ t ∈ textsT m n, t.length = n ∧ ∀ c ∈ t.cps.toList, c ∈ m.cps.toList
  | 0, t, h => by
    rw [List.mem_singleton.mp h]
    exact ⟨rfl, fun c hc => by cases hc⟩
  | n + 1, t, h => by
    obtain ⟨u, hu, h2⟩ := List.mem_flatMap.mp h
    obtain ⟨c, hc, rfl⟩ := List.mem_map.mp h2
    obtain ⟨a, b⟩ := textsT_each n u hu
    refine ⟨by rw [str_app_len, a], fun d hd => ?_⟩
    rw [str_app] at hd
    rcases List.mem_append.mp hd with e | e
    · exact b d e
    · exact List.mem_singleton.mp e ▸ (List.mem_filter.mp hc).1
/-- the text of a crowd -/
def textC (m : Str) (c : List Int) : Str := Txt.join "" ((m.cps.toList.zip c).map fun p => ⟨(List.replicate p.2.toNat [p.1]).flatten.toArray⟩)
theorem str_pl (x : Str) (h : ∀ c ∈ x.cps.toList, c < 0x110000) (n : Nat) : pl n (.str x) = true := by
  show PyData.strOk x = true
  unfold PyData.strOk
  rw [Array.all_eq_true']
  intro c hc
  exact decide_eq_true (h c (by simpa using hc))
theorem atI_last {α : Type} (l : List α) (h : l ≠ []) : atI l (-1) = l.getLast? := by
  have hl : 0 < l.length := List.length_pos_iff.mpr h
  have e : ixN l.length (-1) = some (l.length - 1) := by
    unfold ixN
    rw [if_neg (by omega)]
    have : -(l.length : Int) ≤ -1 := by omega
    simp [this]
    omega
  unfold atI
  rw [e, List.getLast?_eq_getElem?]
  rfl
theorem growT_flat (m : Str) (ts : List Str) : (growT m ts).map D.str = ts.flatMap fun t => (m.cps.toList.filter (condT t)).map fun c => D.str (t ++ ⟨#[c]⟩) := by
  unfold growT
  rw [List.map_flatMap]
  congr 1
  funext t
  rw [List.map_map]
  rfl
theorem str_ext {a b : Str} (h : a.cps.toList = b.cps.toList) : a = b := by
  cases a with
  | mk x =>
    cases b with
    | mk y => exact congrArg Str.mk (Array.toList_inj.mp h)
/-! ### rays -/
def pluz (a b : List Int) (k : Int) : List Int := (a.zip b).map fun p => p.1 + k * p.2
def lack (m : Str) (c g : List Int) (r : Rl) : Bool := (c.zip ((cn m r.1).zip g)).any fun p => decide (p.1 < p.2.1) && decide (p.2.2 = 0)
def stayz (m : Str) (rs : List Rl) (cs : List (List Int)) (g : List Int) : Bool := cs.all fun c => rs.all fun r => lack m c g r
def quots (m : Str) (c : List Int) (r : Rl) : List Int := ((c.zip ((cn m r.1).zip (chg m r))).filter fun p => decide (p.2.2 < 0)).map fun p => (p.1 - p.2.1) / -p.2.2
theorem all_flat {α β : Type} (xs : List α) (ys : List β) (f : α → β → Bool) : ((xs.flatMap fun x => ys.map (f x)).all id) = xs.all fun x => ys.all fun y => f x y := by
  rw [List.all_flatMap]
  congr 1
  funext x
  rw [List.all_map]
  rfl
end Mf
set_option maxRecDepth 100000
set_option maxHeartbeats 4000000
/-! Meetfolk: the exception whose __init__ says super().__init__(most), then self.most = most. -/
namespace Mf
open PySem L2 PyProof.Rows PySem.W PySem.Calls PySem.Spec
/-- what is asked of the class at C -/
structure TmC (P : Program) (K : PySem.W.Frag) (C : Addr) (params : Arguments) (body : List Stmt) (scope : Scope) (nm qual : Str) : Prop where
  T : OexC K C
  ex : ∃ (fI cc cda : Addr) (oc : Value) (od : Option Addr) (kV doc pm ct : Value) (an : Option Addr) (osl : Array (Option Value)) (cl : Value) (cld : Option Addr) (csl : Array (Option Value)) (ccl : Value) (cdd : Option Addr) (vs : Array Value) (ccs : Array (Option Value)) (file : Str) (tf : Tok),
    findIn K (.ref C) "__init__" = some (some (.ref fI)) ∧ typeIn K (.ref fI) = some (.type "function") ∧ K.lookup fI = some ⟨oc, od, .func (ksFn nm qual params body scope .none kV doc pm an (.ref cda) ct cc), osl⟩ ∧ codeIn K (.ref cda) qual = true ∧
    K.lookup cc = some ⟨cl, cld, .cell (some (.ref C)), csl⟩ ∧ K.lookup cda = some ⟨ccl, cdd, .fields vs, ccs⟩ ∧ vs[2]? = some (.str file tf) ∧ ((P.main.file : Str) == file) = true
  mro : mroIn K C (.ref C) = some true
  sup : ks_superIn K C C "__init__" = some (some (.builtin "ValueError.__init__"))
  sub : subIn K (.ref C) (.type "ValueError") = some true
  stat : nsIn K cStatics "thirdparty.any" = some none
  most : findIn K (.ref C) "most" = some none
  top : (P.main.scope.names.lookup ("super" : Str)).isSome = false
  boot : bootBuiltins "super" = some (.type "super")
  k : scope.kind = .function
  co : scope.isCoroutine = false
  gen : scope.isGenerator = false
  cell : ∀ y ∈ scope.names, y.2 ≠ .cell
  nS : scope.names.lookup ("super" : Str) = some .globalImplicit
  nC : scope.names.lookup ("__class__" : Str) = some .free
  n0 : scope.names.lookup ("self" : Str) = some .local
  n1 : scope.names.lookup ("most" : Str) = some .local
section
variable {P : Program} {w : World} {K : PySem.W.Frag} {mg : Str → Option Value} {base : Heap} {A : Around} {outer : List Env} {s : Shared} {H : Hp} {C a : Addr} {params : Arguments} {scope : Scope} {nm qual : Str} {v : Value} {R : Result → Shared → Prop} {fI cc cda : Addr}
  {oc : Value} {od : Option Addr} {kV doc pm ct : Value} {an : Option Addr} {osl : Array (Option Value)} {cl : Value} {cld : Option Addr} {csl : Array (Option Value)} {ccl : Value} {cdd : Option Addr} {vs : Array Value} {ccs : Array (Option Value)} {file : Str} {tf : Tok} {p0 p1 p2 p3 p4 p5 p6 p7 p8 p9 : Pos} {t0 : Addr} {ar : Arg}
/-- __init__ runs on the new exception at a -/
theorem tm_init (T : TmC P K C params [.Expr (.Call (.Attribute (.Call (.Name "super" p0) [] [] p1) "__init__" p2) [.Name "most" p3] [] p4) p5, .Assign [.Attribute (.Name "self" p6) "most" p7] (.Name "most" p8) p9] scope nm qual)
    (lk : K.lookup fI = some ⟨oc, od, .func (ksFn nm qual params [.Expr (.Call (.Attribute (.Call (.Name "super" p0) [] [] p1) "__init__" p2) [.Name "most" p3] [] p4) p5, .Assign [.Attribute (.Name "self" p6) "most" p7] (.Name "most" p8) p9] scope .none kV doc pm an (.ref cda) ct cc), osl⟩)
    (hcd : codeIn K (.ref cda) qual = true) (lc : K.lookup cc = some ⟨cl, cld, .cell (some (.ref C)), csl⟩) (la : K.lookup cda = some ⟨ccl, cdd, .fields vs, ccs⟩) (hv2 : vs[2]? = some (.str file tf)) (hfile : ((P.main.file : Str) == file) = true)
    (hmeth : ∀ env : Env, ∃ pl, eval (.Call (.Attribute (.Call (.Name "super" p0) [] [] p1) "__init__" p2) [.Name "most" p3] [] p4) env = (do
      let ov ← attributeBase (.Call (.Name "super" p0) [] [] p1) "__init__" env (eval (.Call (.Name "super" p0) [] [] p1) env)
      standAt p2.atName
      let (f, first) ← holding [ov] (getMethod ov "__init__" pl)
      callWith p4 f first (backTo p4 (starEach [.Name "most" p3] env)) []))
    (hp : (params.posonlyargs ++ params.args).head? = some ar) (har : ar.arg = "self")
    (e0 : Env0 P w K mg base A outer s H) (hsup : mg "super" = none) (hd : A.depth < recursionLimit) (hb : bindArgs (ksFn nm qual params [.Expr (.Call (.Attribute (.Call (.Name "super" p0) [] [] p1) "__init__" p2) [.Name "most" p3] [] p4) p5, .Assign [.Attribute (.Name "self" p6) "most" p7] (.Name "most" p8) p9] scope .none kV doc pm an (.ref cda) ct cc) ⟨[.ref a, v], []⟩ = pure [(("self" : Str), .ref a), (("most" : Str), v)])
    (ha : s.heap.get? a = some (PySem.HandSPX.excO C t0)) (hKa : K.lookup a = none)
    (hq : ∀ h' t' t1 dx, (∀ b o, b ≠ a → s.heap.get? b = some o → h'.get? b = some o) → h'.get? a = some { cls := .ref C, dict := some dx, data := .fields #[.ref t1, .none, .none, .none, .bool false, .none] } → s.heap.objs.size ≤ dx → h'.Ns1 dx (fun y => if y = "most" then some v else none) →
      R (.ok (.ret .none)) { s with heap := h', toks := t' }) :
    codeAny (model P w) A (.call (.ref fI) ⟨[.ref a, v], []⟩) R s := by
  have KX : K.In s.heap := e0.mod.kin.keeps fun b o e => (e0.bs b o e).1
  have lim : s.heap.NoLimit := e0.mod.nolimit.keeps fun b o e => (e0.bs b o e).1
  obtain ⟨hC1, hC2⟩ : True ∧ True := ⟨trivial, trivial⟩
  obtain ⟨cn, cq, N, bs, bm, sn, sub, ab, col, dd, k0, k1, k2, k3, k5, hCl, hbm⟩ := T.T.cls
  have hcl : PySem.W.clsIn K C = some { name := cn, bases := bs, mro := .ref C :: bm, ns := N, qualname := cq, hasDict := true, slotNames := sn, subclasses := sub, abstract := ab, collection := col, hasDel := false } := by unfold PySem.W.clsIn; rw [hCl] <;> rfl
  refine ks_codeAny_call_defAt hd (KX _ _ lk) rfl lim (codeRec_of KX hcd) rfl (.of_eq hb) T.cell (fun x hx => ?_) (fun h₀ hns hk => ?_) T.co T.gen T.k
  · rcases List.mem_cons.mp hx with rfl | hx
    · exact T.n0
    · rw [List.mem_singleton.mp hx]
      exact T.n1
  have X1 : K.In h₀ := KX.keeps hk
  have ha1 := hk _ _ ha
  have hlt := Heap.lt_size ha
  have aC : a ≠ C := fun e => by
    rw [e] at ha
    have := KX _ _ hCl
    rw [ha] at this
    cases this
  have loc : ∀ {x : Str} {y : Value} {h1 : Heap} {g d t os} {Q : Value → Shared → Prop} {E}, h1.Ns s.heap.objs.size (fun x => [(("self" : Str), Value.ref a), (("most" : Str), v)].reverse.lookup x) → [(("self" : Str), Value.ref a), (("most" : Str), v)].reverse.lookup x = some y → scope.names.lookup x = some .local → Q y ⟨h1, g, d, t, os⟩ →
      wpAny (model P w) (A.deeper (ksEnv qual scope s.heap.objs.size fI (.ref cda) cc)) (loadName (ksEnv qual scope s.heap.objs.size fI (.ref cda) cc) x) Q E ⟨h1, g, d, t, os⟩ := fun hn hl hs hq => wpAny_loadName_local (env := ksEnv qual scope s.heap.objs.size fI (.ref cda) cc) T.k hs hn hl hq
  have I0 : InstAt h₀ a (PySem.HandSPX.excO C t0) C none := ⟨ha1, rfl, rfl, trivial⟩
  obtain ⟨hp0, g, d, t, os⟩ := s
  have hint : ∀ env : Env, env.scope = scope → interactive env = false := fun env e => by
    unfold interactive
    rw [e, T.k]
    rfl
  obtain ⟨pl, hme⟩ := hmeth (ksEnv qual scope hp0.objs.size fI (.ref cda) cc)
  have hsnoc : hp0.StaysIn h₀ := hk
  obtain ⟨mb, hb1, hb2⟩ := e0.mod.blt
  refine ks_wpAt_execs_cons (ks_wpAt_Expr_any (env := ksEnv qual scope hp0.objs.size fI (.ref cda) cc) (hi := hint _ rfl) (ks_wpAt_MethodCall (pl := pl) (env := ksEnv qual scope hp0.objs.size fI (.ref cda) cc) (ks_wpAt_super_base (env := ksEnv qual scope hp0.objs.size fI (.ref cda) cc) T.nS T.nC (by decide) rfl (X1 _ _ lk) rfl hp rfl (X1 _ _ la) rfl hv2 hfile T.top ?_) hme))
  have kb : ∀ b o, base.get? b = some o → h₀.get? b = some o := fun b o e => hk _ _ (e0.bs b o e).1
  refine ks_loadName_global T.k T.nS (loadGlobal_builtin (env := ksEnv qual scope hp0.objs.size fI (.ref cda) cc) (e0.mod.glob.keeps kb) hsup (hb1.keeps kb) ((hb2 _ (by decide)).trans T.boot) ⟨rfl, ?_⟩)
  refine wpAny_loadName_free T.k T.nC rfl ⟨_, X1 _ _ lc, rfl⟩ ?_
  rw [har]
  refine loc hns rfl T.n0 ?_
  refine ks_wpAny_isType_cls (X1 _ _ hCl) rfl ⟨rfl, ?_⟩
  refine ks_wpAny_call_super (X1 _ _ hCl) rfl ha1 rfl (fun c e => by cases e) (looks_mroIn X1 T.mro) (fun h1 e1 k1 => ?_)
  have X2 : K.In h1 := X1.keeps k1
  -- the bound __init__
  have hsp := T.sup
  unfold ks_superIn at hsp
  rw [hcl] at hsp
  have I1 : InstAt h1 a (PySem.HandSPX.excO C t0) C none := ⟨k1 _ _ ha1, rfl, rfl, trivial⟩
  refine kxs_getMethod kxs_ValueError e1 (looks_opaque X2 T.stat) (l₀ := .ref C :: bm) (fun A Q E s k q => wpAny_bind ((looks_clsIn X2 hcl) A _ E s k (wpAny_pure q))) rfl X2 hsp (I1.type.andThen (looks_subIn X2 T.sub)) aC (by decide) ?_
  have k2 : ∀ b o, h1.get? b = some o → (h1.push (kxs_mw "ValueError.__init__" a)).get? b = some o := fun b o e => Heap.get?_push_of_some _ e
  have hmw : (h1.push (kxs_mw "ValueError.__init__" a)).get? h1.objs.size = some (kxs_mw "ValueError.__init__" a) := Heap.get?_push_size _ rfl
  have hse : starEach [.Name "most" p3] (ksEnv qual scope hp0.objs.size fI (.ref cda) cc) = (false, eval (.Name "most" p3) (ksEnv qual scope hp0.objs.size fI (.ref cda) cc)) :: starEach [] (ksEnv qual scope hp0.objs.size fI (.ref cda) cc) := rfl
  show wpAny _ _ (callWith p4 (.ref h1.objs.size) [] (backTo p4 (starEach [.Name "most" p3] (ksEnv qual scope hp0.objs.size fI (.ref cda) cc))) []) _ _ _
  have n2 : (h1.push (kxs_mw "ValueError.__init__" a)).Ns hp0.objs.size (fun x => [(("self" : Str), Value.ref a), (("most" : Str), v)].reverse.lookup x) := hns.keeps fun b o e => k2 _ _ (k1 _ _ e)
  refine kxs_callWith (i := "ValueError.__init__") (x := a) (by rfl) ?_
  refine evalArgs_plain ?_
  show wpAny _ _ (spliced ((false, eval (.Name "most" p3) (ksEnv qual scope hp0.objs.size fI (.ref cda) cc)) :: backTo p4 (starEach [] (ksEnv qual scope hp0.objs.size fI (.ref cda) cc)))) _ _ _
  refine Calls.spliced_cons (wpAny_Name (loc n2 rfl T.n1 ?_) (by decide))
  refine Calls.spliced_nil ⟨hmw, ?_⟩
  show wpAny _ _ (call (.ref h1.objs.size) [v]) _ _ _
  have ha2 := k2 _ _ (k1 _ _ ha1)
  -- it runs: the args are laid anew
  refine wpAny_call (codeAny_of_tree ?_)
  show wpAny _ _ (callAny (.ref h1.objs.size) ⟨[v], []⟩) _ _ _
  simp only [callAny]
  refine wpAny_bind (wpAny_load hmw ?_)
  simp only [kxs_mw, show (Value.type "method-wrapper" == Value.type "method" || Value.type "method-wrapper" == Value.type "builtin_function_or_method" || Value.type "method-wrapper" == Value.type "method-wrapper") = true by decide, if_true]
  refine KFB.if_so (by decide) ?_
  refine wpAny_bind (check_bound_init F.excBase_ValueError.toExcCallFacts (k2 _ _ (X2 _ _ hCl)) ha2 rfl ?_)
  refine wpAny_bind (wpAny_pure (wpAny_pure ?_))
  refine ⟨plainId_quiet F.excBase_ValueError.init.plain _, codeAny_builtin F.excBase_ValueError.initEntry ?_⟩
  refine exc_init_tree (cls := .ref C) (t0 := t0) (dv := none) (c2 := .none) (c3 := .none) (b4 := .bool false) ha2 (by show 1 ≤ sizeLine; decide) (fun h3 k3 e3 _ => ?_)
  have k13 : ∀ b o, b ≠ a → hp0.get? b = some o → h3.get? b = some o := fun b o hb e => k3 _ _ hb (k2 _ _ (k1 _ _ (hk _ _ e)))
  have X3 : K.In h3 := fun b o e => k3 _ _ (fun z => by
    rw [z, hKa] at e
    cases e) (k2 _ _ (X2 _ _ e))
  have n3 : h3.Ns hp0.objs.size (fun x => [(("self" : Str), Value.ref a), (("most" : Str), v)].reverse.lookup x) := by
    obtain ⟨o, es, ep, e, r⟩ := n2
    exact ⟨o, es, ep, k3 _ _ (fun z => by
      have := Heap.lt_size ha
      rw [← z] at this
      exact Nat.lt_irrefl _ this) e, r⟩
  refine ks_wpAt_execs_cons (env := ksEnv qual scope hp0.objs.size fI (.ref cda) cc) (wpAt_of_wpAny (plainObj_wpAny_Assign_Attribute (env := ksEnv qual scope hp0.objs.size fI (.ref cda) cc) (wpAny_Name (loc n3 rfl T.n1 (wpAny_Name (loc n3 rfl T.n0 ?_) (by decide))) (by decide))))
  refine W.set_plain X3 (ox := PySem.HandSPX.excO C (h1.push (kxs_mw "ValueError.__init__" a)).objs.size) (od := none) ⟨e3, rfl, rfl, trivial⟩ T.T.sa ?_
  refine PySem.HandSPX.exc_osa X3 e3 hcl (show PySem.HandSPX.refsVE (.ref C :: bm) = true from hbm) rfl T.most (fun h' tk' dx k dn dne hx hn => ?_)
  refine wpAt_of_wpAny (wpAny_pure ?_)
  have hs : hp0.objs.size ≤ h3.objs.size := by
    obtain ⟨o, es, ep, e, r⟩ := n3
    exact Nat.le_of_lt (Heap.lt_size e)
  exact hq h' tk' _ dx (fun b o hb e => k _ _ hb (k13 _ _ hb e)) hx (Nat.le_trans hs dn) hn
end
section
variable {X : Cx} {C : Addr} {params : Arguments} {scope : Scope} {nm qual : Str} {p0 p1 p2 p3 p4 p5 p6 p7 p8 p9 : Pos} {ar : Arg} {x : Str} {p pos : Pos} {e : Expr} {te : TE} {k : Nat}
/-- raise of such a one: its dict bears most -/
theorem pmk_tm (T : TmC X.prog X.K C params [.Expr (.Call (.Attribute (.Call (.Name "super" p0) [] [] p1) "__init__" p2) [.Name "most" p3] [] p4) p5, .Assign [.Attribute (.Name "self" p6) "most" p7] (.Name "most" p8) p9] scope nm qual)
    (hmeth : ∀ env : Env, ∃ pl, eval (.Call (.Attribute (.Call (.Name "super" p0) [] [] p1) "__init__" p2) [.Name "most" p3] [] p4) env = (do
      let ov ← attributeBase (.Call (.Name "super" p0) [] [] p1) "__init__" env (eval (.Call (.Name "super" p0) [] [] p1) env)
      standAt p2.atName
      let (f, first) ← holding [ov] (getMethod ov "__init__" pl)
      callWith p4 f first (backTo p4 (starEach [.Name "most" p3] env)) []))
    (hp : (params.posonlyargs ++ params.args).head? = some ar) (har : ar.arg = "self") (hsup : X.mg "super" = none)
    (hbind : ∀ (kV doc pm : Value) (an : Option Addr) (cda cc : Addr) (ct u v : Value), bindArgs (ksFn nm qual params [.Expr (.Call (.Attribute (.Call (.Name "super" p0) [] [] p1) "__init__" p2) [.Name "most" p3] [] p4) p5, .Assign [.Attribute (.Name "self" p6) "most" p7] (.Name "most" p8) p9] scope .none kV doc pm an (.ref cda) ct cc) ⟨[u, v], []⟩ = pure [(("self" : Str), u), (("most" : Str), v)])
    (hr : Room (k + 1) X.A) (hg : Gl X x) (hm : X.mg x = some (.ref C)) (he : PE X e te)
    (hdb : (x == ("__debug__" : Str)) = false := by decide) (hs1 : starEach [e] X.env = (false, eval e X.env) :: starEach [] X.env := by rfl) :
    PMk X (.Call (.Name x p) [e] [] pos) (fun σ H Q => tCons te tNil σ H fun vs H1 => ∃ v, vs = [v] ∧ ∀ d, H1 d = none → Q (.ref C) (some d) (upd H1 d (.xd [(("most" : Str), v)]))) := by
  intro pins s σ H Q I h
  obtain ⟨fI, cc, cda, oc, od, kV, doc, pm, ct, an, osl, cl, cld, csl, ccl, cdd, vs, ccs, file, tf, iC, tI, lk, hcd, lc, la, hv2, hfile⟩ := T.ex
  obtain ⟨cn, cq, N, bs, bm, sn, sub, ab, col, dd, k0, k1, k2, k3, k5, hC, hbm⟩ := T.T.cls
  have ha : PA X [e] (tCons te tNil) := pa_cons he pa_nil hs1
  refine wpAny_Call_Name_kw (ld_glob I hg hm ?_ hdb)
  refine PySem.W.callWith_K (h₀ := X.base) I.ok.mod.kin T.T.kC (thn (ha.run pos pins s σ H _ I h) fun us s1 ⟨vs2, H1, I1, r1, hq⟩ => ⟨I1.kIn, ?_⟩) hs1 rfl
  · obtain ⟨v, rfl, hq⟩ := hq
    cases r1 with
    | @cons _ u0 _ ur ru rn =>
      cases rn
      show wpAny _ _ (call (.ref C) [u0]) _ _ _
      obtain ⟨hp1, g, dr, tk, os⟩ := s1
      have hsz : hp1.objs.size ≤ hp1.objs.size + 1 := Nat.le_succ _
      have kk : ∀ b o, hp1.get? b = some o → ((hp1.push (PySem.W.kdv_tup [u0])).push (PySem.HandSPX.excO C hp1.objs.size)).get? b = some o := fun b o e => Heap.get?_push_of_some _ (Heap.get?_push_of_some _ e)
      have hget : ((hp1.push (PySem.W.kdv_tup [u0])).push (PySem.HandSPX.excO C hp1.objs.size)).get? (hp1.objs.size + 1) = some (PySem.HandSPX.excO C hp1.objs.size) := by heap_get
      have I2 : Inv X pins σ (upd H1 (hp1.objs.size + 1) (exo (hp1.objs.size + 1) C none)) ⟨(hp1.push (PySem.W.kdv_tup [u0])).push (PySem.HandSPX.excO C hp1.objs.size), g, dr, tk, os⟩ :=
        I1.laid (t' := tk) (a := hp1.objs.size + 1) (o := exo (hp1.objs.size + 1) C none) (h' := (hp1.push (PySem.W.kdv_tup [u0])).push (PySem.HandSPX.excO C hp1.objs.size)) kk hsz (exo_ok hget)
      have hKa : X.K.lookup (hp1.objs.size + 1) = none := by
        cases q : X.K.lookup (hp1.objs.size + 1) with
        | none => rfl
        | some o =>
          have := Heap.lt_size (I1.kIn _ _ q)
          have : hp1.objs.size + 1 < hp1.objs.size := this
          omega
      refine wpAny_call (PySem.HandSPX.call_own F.excBase_ValueError (fun Y => PySem.HandSPX.refsVE_contains Y bm hbm) (I1.kIn _ _ hC) (PySem.W.looks_findIn I1.kIn iC) (fun self => PySem.W.bind_fn I1.kIn self tI) (by show 1 ≤ sizeLine; decide) ?_)
      refine tm_init (outer := X.stack) (mg := X.mg) (base := X.base) T lk hcd lc la hv2 hfile hmeth hp har (I2.env0.make C [u0] []) hsup (hr.make C [u0] []).depth (hbind _ _ _ _ _ _ _ _ _) hget hKa (fun h' t' t1 dx k hx dn hn => ?_)
      refine ⟨rfl, ?_⟩
      generalize hae : hp1.objs.size + 1 = a at *
      generalize hhp : (hp1.push (PySem.W.kdv_tup [u0])).push (PySem.HandSPX.excO C hp1.objs.size) = hp2 at *
      have e : (upd H1 a (exo a C none)) a = some (exo a C none) := upd_same
      have ha1 : H1 a = none := I1.hok.fresh hsz
      have dn2 : hp2.objs.size ≤ dx := dn
      have hnd : (upd H1 a (exo a C none)) dx = none := I2.hok.fresh dn2
      have dne : dx ≠ a := fun z => by
        rw [z, e] at hnd
        cases hnd
      have hd1 : H1 dx = none := by
        rw [upd_ne dne] at hnd
        exact hnd
      have nd : ∀ {b : Addr} {o : Obj}, hp2.get? b = some o → b ≠ dx := fun {b o} q => Nat.ne_of_lt (Nat.lt_of_lt_of_le (Heap.lt_size q) dn2)
      have na : ∀ {b : Addr}, (upd H1 a (exo a C none)) b = none → b ≠ a := fun {b} n z => by
        rw [z, e] at n
        cases n
      have Un1 : Un X.fs [] (upd H1 a (exo a C none)) (upd (upd (upd H1 a (exo a C none)) dx (exd dx [(("most" : Str), v)])) a (exo a C (some dx))) hp2 h' := {
        keep := fun b o q n _ _ => k b o (na n) q
        slot := fun b o q n _ _ => ⟨o.slots, k b o (na n) q⟩
        free := fun b o q n _ => by rw [upd_ne (na n), upd_ne (nd q)]; exact n
        there := fun b o q _ => by
          by_cases hb : b = a
          · exact ⟨_, by rw [hb]; exact hx⟩
          · exact ⟨o, k b o hb q⟩
        tups := fun b xs q => by rw [upd_ne (at_ne e q exo_tup), upd_ne (ne_of_none q hnd)]; exact q
        frzs := fun b o v q => by rw [upd_ne (at_ne e q exo_frz), upd_ne (ne_of_none q hnd)]; exact q
        tbls := fun b ps q => ⟨#[], by rw [upd_ne (at_ne e q exo_tbl), upd_ne (ne_of_none q hnd), q]; simp⟩ }
      have I3 : Inv X pins σ (upd (upd (upd H1 a (exo a C none)) dx (exd dx [(("most" : Str), v)])) a (exo a C (some dx))) ⟨h', g, dr, t', os⟩ := I2.un (t' := t') Un1 fun b o q => by
        by_cases hb : b = a
        · subst hb
          rw [upd_same] at q
          cases q
          exact exo_ok hx
        · rw [upd_ne hb] at q
          by_cases hd : b = dx
          · subst hd
            rw [upd_same] at q
            cases q
            exact exd_ok hn (relO_put (fs := []) ru fun g => True.intro)
          · rw [upd_ne hd] at q
            exact (I2.hok b o q).stay (fun c v hc z => k c v (by
                rcases hc with hc | hc
                · rw [hc]
                  exact hb
                · exact at_ne e hc exo_own) z)
              (fun c hc => by rw [upd_ne (at_ne e hc exo_own), upd_ne (ne_of_none hc hnd)]; exact hc) (fun c xs hc => by rw [upd_ne (at_ne e hc exo_tup), upd_ne (ne_of_none hc hnd)]; exact hc)
      have un2 : Un (frs X.stack) [] (upd H1 a (exo a C none)) (upd (upd (upd H1 a (exo a C none)) dx (exd dx [(("most" : Str), v)])) a (exo a C (some dx))) hp2 h' := {
        keep := fun b o q n _ _ => k b o (na n) q
        slot := fun b o q n _ _ => ⟨o.slots, k b o (na n) q⟩
        free := fun b o q n _ => by rw [upd_ne (na n), upd_ne (nd q)]; exact n
        there := fun b o q _ => by
          by_cases hb : b = a
          · exact ⟨_, by rw [hb]; exact hx⟩
          · exact ⟨o, k b o hb q⟩
        tups := fun b xs q => by rw [upd_ne (at_ne e q exo_tup), upd_ne (ne_of_none q hnd)]; exact q
        frzs := fun b o v q => by rw [upd_ne (at_ne e q exo_frz), upd_ne (ne_of_none q hnd)]; exact q
        tbls := fun b ps q => ⟨#[], by rw [upd_ne (at_ne e q exo_tbl), upd_ne (ne_of_none q hnd), q]; simp⟩ }
      have hEq : upd (L2.del (upd (upd (upd H1 a (exo a C none)) dx (exd dx [(("most" : Str), v)])) a (exo a C (some dx))) a) dx (.xd [(("most" : Str), v)]) = upd H1 dx (.xd [(("most" : Str), v)]) := by
        funext b
        by_cases hb : b = dx
        · rw [hb, upd_same, upd_same]
        · rw [upd_ne hb, upd_ne hb]
          by_cases hb2 : b = a
          · rw [hb2, ha1]
            exact L2.del_same
          · rw [L2.del_ne hb2, upd_ne hb2, upd_ne hb, upd_ne hb2]
      exact mk_end (raises_own T.T.exC T.T.tyC) I1 hsz kk un2 I3.hok rfl I1.bare upd_same (by rw [upd_ne dne, upd_same]) hd1 (by rw [hEq]; exact hq dx hd1)
end
end Mf
set_option maxRecDepth 100000
set_option maxHeartbeats 4000000
/-! Meetfolk, plain: the tables' mirror and what holds of it. -/
namespace Mf
open PySem L2 PyProof.Rows
variable [Tt] [Xw]
def gcdL (ns : List Int) : Nat := ns.foldl (fun g n => Nat.gcd g n.natAbs) 0
def fnz (ns : List Int) : Int := (ns.filter fun n => !decide (n = 0)).headD 0
def primL (ns : List Int) : List Int := if gcdL ns = 0 then ns else if 0 < fnz ns then ns.map (fun n => n / (gcdL ns : Int)) else ns.map (fun n => -n / (gcdL ns : Int))
def clr (row head : List Int) (at_ : Nat) : List Int := primL ((row.zip head).map fun p => p.1 * head.getD at_ 0 - p.2 * row.getD at_ 0)
/-- the first place that is not nothing -/
def lead (r : List Int) : Nat := r.findIdx fun n => !decide (n = 0)
def nz (at_ : Nat) (r : List Int) : Bool := !decide (r.getD at_ 0 = 0)
def clrIf (head : List Int) (at_ : Nat) (r : List Int) : List Int := if nz at_ r then clr r head at_ else r
/-- one turn: what is left, what is found -/
def ledStep (at_ : Nat) (s : List (List Int) × List (List Int)) : List (List Int) × List (List Int) :=
  match s.1.filter (nz at_) with
  | [] => s
  | h :: _ => ((s.1.take (s.1.idxOf h) ++ s.1.drop (s.1.idxOf h + 1)).map (clrIf (primL h) at_), s.2.map (clrIf (primL h) at_) ++ [primL h])
def ledTo (rows : List (List Int)) : Nat → List (List Int) × List (List Int)
  | 0 => (rows, [])
  | n + 1 => ledStep n (ledTo rows n)
def ledRows (rows : List (List Int)) (n : Nat) : List (List Int) := (ledTo rows n).2

theorem foldl_gcd : ∀ (ns : List Int) (g : Nat), (ns.foldl (fun g n => Nat.gcd g n.natAbs) g ∣ g) ∧ (∀ n ∈ ns, ns.foldl (fun g n => Nat.gcd g n.natAbs) g ∣ n.natAbs) ∧ (ns.foldl (fun g n => Nat.gcd g n.natAbs) g = 0 → g = 0 ∧ ∀ n ∈ ns, n = 0)
  | [], g => ⟨Nat.dvd_refl _, fun n h => (by cases h), fun h => ⟨h, fun n h => (by cases h)⟩⟩
  | m :: ns, g => by
    obtain ⟨a, b, c⟩ := foldl_gcd ns (Nat.gcd g m.natAbs)
    refine ⟨Nat.dvd_trans a (Nat.gcd_dvd_left _ _), fun n h => ?_, fun h => ?_⟩
    · rcases List.mem_cons.mp h with rfl | h
      · exact Nat.dvd_trans a (Nat.gcd_dvd_right _ _)
      · exact b n h
    · obtain ⟨h1, h2⟩ := c h
      refine ⟨Nat.eq_zero_of_gcd_eq_zero_left h1, fun n h => ?_⟩
      rcases List.mem_cons.mp h with rfl | h
      · exact Int.natAbs_eq_zero.mp (Nat.eq_zero_of_gcd_eq_zero_right h1)
      · exact h2 n h
theorem gcdL_dvd {ns : List Int} {n : Int} (h : n ∈ ns) : (gcdL ns : Int) ∣ n := Int.ofNat_dvd_left.mpr ((foldl_gcd ns 0).2.1 n h)
theorem gcdL_zero {ns : List Int} (h : gcdL ns = 0) {n : Int} (hn : n ∈ ns) : n = 0 := ((foldl_gcd ns 0).2.2 h).2 n hn
theorem primL_len (ns : List Int) : (primL ns).length = ns.length := by
  unfold primL
  split
  · rfl
  · split <;> rw [List.length_map]
theorem primL_small {ns : List Int} {B : Nat} (h : ∀ x ∈ ns, x.natAbs < B) : ∀ x ∈ primL ns, x.natAbs < B := by
  intro x hx
  unfold primL at hx
  split at hx
  · exact h x hx
  · split at hx
    · obtain ⟨y, hy, rfl⟩ := List.mem_map.mp hx
      exact Nat.lt_of_le_of_lt (Int.natAbs_ediv_le_natAbs y _) (h y hy)
    · obtain ⟨y, hy, rfl⟩ := List.mem_map.mp hx
      refine Nat.lt_of_le_of_lt (Int.natAbs_ediv_le_natAbs _ _) ?_
      rw [Int.natAbs_neg]
      exact h y hy
theorem getD_map0 {f : Int → Int} (f0 : f 0 = 0) (ns : List Int) (j : Nat) : (ns.map f).getD j 0 = f (ns.getD j 0) := by
  rw [List.getD_eq_getElem?_getD, List.getD_eq_getElem?_getD, List.getElem?_map]
  cases ns[j]? with
  | none => exact f0.symm
  | some x => rfl
theorem getD_mem {ns : List Int} {j : Nat} (h : ns.getD j 0 ≠ 0) : ns.getD j 0 ∈ ns := by
  rw [List.getD_eq_getElem?_getD] at h ⊢
  cases e : ns[j]? with
  | none =>
    rw [e] at h
    exact absurd rfl h
  | some x => exact List.mem_of_getElem? e
theorem ediv_zero {x g : Int} (hg : 0 < g) (hd : g ∣ x) : x / g = 0 ↔ x = 0 := by
  obtain ⟨k, rfl⟩ := hd
  rw [Int.mul_ediv_cancel_left _ (by omega)]
  constructor
  · rintro rfl
    exact Int.mul_zero _
  · intro h
    rcases Int.mul_eq_zero.mp h with h | h
    · omega
    · exact h
theorem primL_zero (ns : List Int) (j : Nat) : (primL ns).getD j 0 = 0 ↔ ns.getD j 0 = 0 := by
  unfold primL
  split
  · exact Iff.rfl
  · rename_i hg
    have hp : (0 : Int) < (gcdL ns : Int) := by omega
    split
    · rw [getD_map0 (by simp)]
      by_cases h : ns.getD j 0 = 0
      · rw [h]
        simp
      · exact ediv_zero hp (gcdL_dvd (getD_mem h))
    · rw [getD_map0 (by simp)]
      by_cases h : ns.getD j 0 = 0
      · rw [h]
        simp
      · rw [ediv_zero hp ((Int.dvd_neg).mpr (gcdL_dvd (getD_mem h)))]
        omega
/-- it leads at f -/
structure LeadAt (r : List Int) (f : Nat) : Prop where
  nz : r.getD f 0 ≠ 0
  z : ∀ j, j < f → r.getD j 0 = 0
theorem LeadAt.lt {r : List Int} {f : Nat} (h : LeadAt r f) : f < r.length := by
  by_cases q : f < r.length
  · exact q
  · exact absurd (by rw [List.getD_eq_getElem?_getD, List.getElem?_eq_none (by omega)]; rfl) h.nz
theorem LeadAt.lead {r : List Int} {f : Nat} (h : LeadAt r f) : lead r = f := by
  unfold Mf.lead
  have hl := h.lt
  rw [List.findIdx_eq hl]
  have e : ∀ (j : Nat) (hj : j < r.length), r.getD j 0 = r[j] := fun j hj => by
    rw [List.getD_eq_getElem?_getD, List.getElem?_eq_getElem hj]
    rfl
  refine ⟨?_, fun j hj => ?_⟩
  · have := h.nz
    rw [e f hl] at this
    simp [this]
  · have := h.z j hj
    rw [e j (by omega)] at this
    simp [this]
theorem LeadAt.uniq {r : List Int} {f g : Nat} (h : LeadAt r f) (h' : LeadAt r g) : f = g := h.lead.symm.trans h'.lead
/-- the first that is not nothing is at the lead -/
theorem LeadAt.fnz : ∀ {r : List Int} {f : Nat}, LeadAt r f → fnz r = r.getD f 0
  | [], f, h => absurd h.lt (by simp)
  | x :: r, 0, h => by
    have hx : x ≠ 0 := h.nz
    unfold Mf.fnz
    rw [List.filter_cons_of_pos (by simp [hx])]
    rfl
  | x :: r, f + 1, h => by
    have hx : x = 0 := h.z 0 (by omega)
    have h2 : LeadAt r f := ⟨h.nz, fun j hj => h.z (j + 1) (by omega)⟩
    have := LeadAt.fnz h2
    unfold Mf.fnz at this ⊢
    rw [List.filter_cons_of_neg (by simp [hx]), this]
    rfl
theorem LeadAt.prim {r : List Int} {f : Nat} (h : LeadAt r f) : LeadAt (primL r) f ∧ 0 < (primL r).getD f 0 := by
  have hl : LeadAt (primL r) f := ⟨fun e => h.nz ((primL_zero r f).mp e), fun j hj => (primL_zero r j).mpr (h.z j hj)⟩
  refine ⟨hl, ?_⟩
  have hn := hl.nz
  have hm : r.getD f 0 ∈ r := getD_mem h.nz
  unfold primL at hn ⊢
  split at hn
  · rename_i hg
    exact absurd (gcdL_zero hg hm) h.nz
  · rename_i hg
    rw [if_neg hg]
    have hp : (0 : Int) < (gcdL r : Int) := by omega
    split at hn
    · rename_i hf
      rw [if_pos hf]
      rw [getD_map0 (by simp)] at hn ⊢
      rw [h.fnz] at hf
      have : 0 ≤ r.getD f 0 / (gcdL r : Int) := Int.ediv_nonneg (by omega) (by omega)
      omega
    · rename_i hf
      rw [if_neg hf]
      rw [getD_map0 (by simp)] at hn ⊢
      rw [h.fnz] at hf
      have : 0 ≤ -r.getD f 0 / (gcdL r : Int) := Int.ediv_nonneg (by omega) (by omega)
      omega
theorem getD_zip {row head : List Int} (h : row.length = head.length) (a b : Int) (j : Nat) : ((row.zip head).map fun p => p.1 * a - p.2 * b).getD j 0 = row.getD j 0 * a - head.getD j 0 * b := by
  simp only [List.getD_eq_getElem?_getD, List.getElem?_map]
  by_cases hj : j < row.length
  · have e : (row.zip head)[j]? = some (row[j], head[j]'(by omega)) := by
      rw [List.getElem?_eq_getElem (by rw [List.length_zip]; omega), List.getElem_zip]
    rw [e, List.getElem?_eq_getElem hj, List.getElem?_eq_getElem (by omega)]
    rfl
  · rw [List.getElem?_eq_none (by rw [List.length_zip]; omega), List.getElem?_eq_none (by omega), List.getElem?_eq_none (by omega)]
    simp
theorem clr_len {row head : List Int} (h : row.length = head.length) (at_ : Nat) : (clr row head at_).length = row.length := by
  unfold clr
  rw [primL_len, List.length_map, List.length_zip]
  omega
theorem clr_zero {row head : List Int} (h : row.length = head.length) (at_ j : Nat) : (clr row head at_).getD j 0 = 0 ↔ row.getD j 0 * head.getD at_ 0 - head.getD j 0 * row.getD at_ 0 = 0 := by
  unfold clr
  rw [primL_zero, getD_zip h]
theorem mul_bd {a b : Int} {e : Nat} (h1 : a.natAbs < 2 ^ e) (h2 : b.natAbs < 2 ^ e) : (a * b).natAbs < 2 ^ (2 * e) := by
  rw [Int.natAbs_mul, show 2 * e = e + e by omega, Nat.pow_add]
  exact Nat.mul_lt_mul'' h1 h2
theorem getD_bd {r : List Int} {B : Nat} (hB : 0 < B) (h : ∀ x ∈ r, x.natAbs < B) (j : Nat) : (r.getD j 0).natAbs < B := by
  by_cases e : r.getD j 0 = 0
  · rw [e]
    exact hB
  · exact h _ (getD_mem e)
theorem crs_bd {row head : List Int} {e : Nat} (h1 : ∀ x ∈ row, x.natAbs < 2 ^ e) (h2 : ∀ x ∈ head, x.natAbs < 2 ^ e) (at_ : Nat) : ∀ x ∈ (row.zip head).map (fun p => p.1 * head.getD at_ 0 - p.2 * row.getD at_ 0), x.natAbs < 2 ^ (2 * e + 1) := fun x hx => by
  obtain ⟨p, hp, rfl⟩ := List.mem_map.mp hx
  obtain ⟨a, b⟩ := List.of_mem_zip hp
  have q1 := mul_bd (h1 _ a) (getD_bd (Nat.two_pow_pos e) h2 at_)
  have q2 := mul_bd (h2 _ b) (getD_bd (Nat.two_pow_pos e) h1 at_)
  have q3 : (2 : Nat) ^ (2 * e + 1) = 2 ^ (2 * e) + 2 ^ (2 * e) := by rw [Nat.pow_succ]; omega
  omega
theorem clr_bd {row head : List Int} {e : Nat} (h1 : ∀ x ∈ row, x.natAbs < 2 ^ e) (h2 : ∀ x ∈ head, x.natAbs < 2 ^ e) (at_ : Nat) : ∀ x ∈ clr row head at_, x.natAbs < 2 ^ (2 * e + 1) := primL_small (crs_bd h1 h2 at_)
/-- bits after t turns that cleared -/
def bits (b t : Nat) : Nat := (b + 1) * 2 ^ t - 1
theorem bits_succ (b t : Nat) : bits b (t + 1) = 2 * bits b t + 1 := by
  unfold bits
  have : 0 < (b + 1) * 2 ^ t := Nat.mul_pos (by omega) (Nat.two_pow_pos t)
  rw [Nat.pow_succ, ← Nat.mul_assoc]
  omega
/-- where the rows stand ahead of turn k -/
structure LI (n b k : Nat) (s : List (List Int) × List (List Int)) : Prop where
  len1 : ∀ r ∈ s.1, r.length = n
  zero : ∀ r ∈ s.1, ∀ j, j < k → r.getD j 0 = 0
  bd1 : ∀ r ∈ s.1, ∀ x ∈ r, x.natAbs < 2 ^ bits b s.2.length
  len2 : ∀ r ∈ s.2, r.length = n
  ld : ∀ r ∈ s.2, lead r < k ∧ LeadAt r (lead r) ∧ 0 < r.getD (lead r) 0
  bd2 : ∀ r ∈ s.2, ∀ x ∈ r, x.natAbs < 2 ^ bits b s.2.length
  nd : (s.2.map lead).Pairwise (· < ·)
theorem bits_mono (b t : Nat) : bits b t ≤ bits b (t + 1) := by
  rw [bits_succ]
  omega
theorem clrIf_len {head r : List Int} (h : r.length = head.length) (k : Nat) : (clrIf head k r).length = r.length := by
  unfold clrIf
  split
  · exact clr_len h k
  · rfl
theorem clrIf_bd {row head : List Int} {b t : Nat} (h1 : ∀ x ∈ row, x.natAbs < 2 ^ bits b t) (h2 : ∀ x ∈ head, x.natAbs < 2 ^ bits b t) (k : Nat) : ∀ x ∈ clrIf head k row, x.natAbs < 2 ^ bits b (t + 1) := by
  unfold clrIf
  split
  · rw [bits_succ]
    exact clr_bd h1 h2 k
  · exact fun x hx => Nat.lt_of_lt_of_le (h1 x hx) (Nat.pow_le_pow_right (by decide) (bits_mono b t))
theorem LI.step {n b k : Nat} {s : List (List Int) × List (List Int)} (h : LI n b k s) : LI n b (k + 1) (ledStep k s) := by
  unfold ledStep
  cases hf : s.1.filter (nz k) with
  | nil =>
    show LI n b (k + 1) s
    refine ⟨h.len1, fun r hr j hj => ?_, h.bd1, h.len2, fun r hr => ⟨by have := (h.ld r hr).1; omega, (h.ld r hr).2⟩, h.bd2, h.nd⟩
    by_cases e : j = k
    · subst e
      have := List.filter_eq_nil_iff.mp hf r hr
      unfold nz at this
      simpa using this
    · exact h.zero r hr j (by omega)
  | cons hd tl =>
    have hm : hd ∈ s.1.filter (nz k) := hf ▸ List.mem_cons_self ..
    obtain ⟨hm1, hm2⟩ := List.mem_filter.mp hm
    have hk : hd.getD k 0 ≠ 0 := by
      unfold nz at hm2
      simpa using hm2
    have hlead : LeadAt hd k := ⟨hk, h.zero hd hm1⟩
    obtain ⟨hp1, hp2⟩ := hlead.prim
    have hlen : (primL hd).length = n := (primL_len hd).trans (h.len1 hd hm1)
    have hbd : ∀ x ∈ primL hd, x.natAbs < 2 ^ bits b s.2.length := primL_small (h.bd1 hd hm1)
    have sub : ∀ r ∈ s.1.take (s.1.idxOf hd) ++ s.1.drop (s.1.idxOf hd + 1), r ∈ s.1 := fun r hr => by
      rcases List.mem_append.mp hr with q | q
      · exact List.mem_of_mem_take q
      · exact List.mem_of_mem_drop q
    have keep : ∀ r : List Int, r.length = n → LeadAt r (lead r) → lead r < k → 0 < r.getD (lead r) 0 → LeadAt (clrIf (primL hd) k r) (lead r) ∧ 0 < (clrIf (primL hd) k r).getD (lead r) 0 := fun r hl ha hlt hpos => by
      unfold clrIf
      split
      · have e : r.length = (primL hd).length := hl.trans hlen.symm
        have hc : LeadAt ((r.zip (primL hd)).map fun p => p.1 * (primL hd).getD k 0 - p.2 * r.getD k 0) (lead r) := by
          refine ⟨?_, fun j hj => ?_⟩
          · rw [getD_zip e, hp1.z _ hlt, Int.zero_mul, Int.sub_zero]
            exact Int.mul_ne_zero ha.nz hp1.nz
          · rw [getD_zip e, hp1.z j (by omega), ha.z j hj, Int.zero_mul, Int.zero_mul, Int.sub_zero]
        exact hc.prim
      · exact ⟨ha, hpos⟩
    show LI n b (k + 1) (_, _)
    have hl2 : ((s.2.map (clrIf (primL hd) k)) ++ [primL hd]).length = s.2.length + 1 := by simp
    refine ⟨fun r hr => ?_, fun r hr j hj => ?_, fun r hr => ?_, fun r hr => ?_, fun r hr => ?_, fun r hr => ?_, ?_⟩
    · obtain ⟨q, hq, rfl⟩ := List.mem_map.mp hr
      rw [clrIf_len ((h.len1 q (sub q hq)).trans hlen.symm)]
      exact h.len1 q (sub q hq)
    · obtain ⟨q, hq, rfl⟩ := List.mem_map.mp hr
      have e : q.length = (primL hd).length := (h.len1 q (sub q hq)).trans hlen.symm
      unfold clrIf
      split
      · rw [clr_zero e]
        by_cases ej : j = k
        · subst ej
          rw [Int.mul_comm]
          omega
        · rw [h.zero q (sub q hq) j (by omega), hp1.z j (by omega)]
          simp
      · rename_i hz
        by_cases ej : j = k
        · subst ej
          unfold nz at hz
          simpa using hz
        · exact h.zero q (sub q hq) j (by omega)
    · obtain ⟨q, hq, rfl⟩ := List.mem_map.mp hr
      show ∀ x ∈ _, Int.natAbs x < 2 ^ bits b ((s.2.map (clrIf (primL hd) k)) ++ [primL hd]).length
      rw [hl2]
      exact clrIf_bd (h.bd1 q (sub q hq)) hbd k
    · rcases List.mem_append.mp hr with hr | hr
      · obtain ⟨q, hq, rfl⟩ := List.mem_map.mp hr
        rw [clrIf_len ((h.len2 q hq).trans hlen.symm)]
        exact h.len2 q hq
      · rw [List.mem_singleton.mp hr]
        exact hlen
    · rcases List.mem_append.mp hr with hr | hr
      · obtain ⟨q, hq, rfl⟩ := List.mem_map.mp hr
        obtain ⟨a1, a2, a3⟩ := h.ld q hq
        obtain ⟨b1, b2⟩ := keep q (h.len2 q hq) a2 a1 a3
        rw [b1.lead]
        exact ⟨by omega, b1, b2⟩
      · rw [List.mem_singleton.mp hr, hp1.lead]
        exact ⟨by omega, hp1, hp2⟩
    · show ∀ x ∈ _, Int.natAbs x < 2 ^ bits b ((s.2.map (clrIf (primL hd) k)) ++ [primL hd]).length
      rw [hl2]
      rcases List.mem_append.mp hr with hr | hr
      · obtain ⟨q, hq, rfl⟩ := List.mem_map.mp hr
        exact clrIf_bd (h.bd2 q hq) hbd k
      · rw [List.mem_singleton.mp hr]
        exact fun x hx => Nat.lt_of_lt_of_le (hbd x hx) (Nat.pow_le_pow_right (by decide) (bits_mono b _))
    · show (((s.2.map (clrIf (primL hd) k)) ++ [primL hd]).map lead).Pairwise (· < ·)
      have e1 : ((s.2.map (clrIf (primL hd) k)) ++ [primL hd]).map lead = s.2.map lead ++ [k] := by
        rw [List.map_append, List.map_map]
        congr 1
        · exact List.map_congr_left fun q hq => by
            obtain ⟨a1, a2, a3⟩ := h.ld q hq
            exact (keep q (h.len2 q hq) a2 a1 a3).1.lead
        · show [lead (primL hd)] = [k]
          rw [hp1.lead]
      rw [e1, List.pairwise_append]
      refine ⟨h.nd, List.pairwise_singleton _ _, fun x hx y hy => ?_⟩
      obtain ⟨q, hq, rfl⟩ := List.mem_map.mp hx
      rw [List.mem_singleton.mp hy]
      exact (h.ld q hq).1
theorem LI.zero_ {n b : Nat} {rows : List (List Int)} (h1 : ∀ r ∈ rows, r.length = n) (h2 : ∀ r ∈ rows, ∀ x ∈ r, x.natAbs < 2 ^ b) : LI n b 0 (rows, []) := by
  have e : bits b 0 = b := by
    unfold bits
    omega
  refine ⟨h1, fun r _ j hj => absurd hj (by omega), fun r hr => ?_, fun r h => (by cases h), fun r h => (by cases h), fun r h => (by cases h), .nil⟩
  show ∀ x ∈ r, x.natAbs < 2 ^ bits b 0
  rw [e]
  exact h2 r hr
theorem LI.all {n b : Nat} {rows : List (List Int)} (h1 : ∀ r ∈ rows, r.length = n) (h2 : ∀ r ∈ rows, ∀ x ∈ r, x.natAbs < 2 ^ b) : ∀ k, LI n b k (ledTo rows k)
  | 0 => LI.zero_ h1 h2
  | k + 1 => (LI.all h1 h2 k).step
theorem nodup_len : ∀ (n : Nat) (l : List Nat), l.Nodup → (∀ x ∈ l, x < n) → l.length ≤ n
  | 0, [], _, _ => Nat.le_refl _
  | 0, x :: _, _, h => absurd (h x (List.mem_cons_self ..)) (by omega)
  | n + 1, l, hn, h => by
    have h1 := nodup_len n (l.erase n) (hn.erase n) fun x hx => by
      obtain ⟨a, b⟩ := (hn.mem_erase_iff).mp hx
      have := h x b
      omega
    by_cases hm : n ∈ l
    · rw [List.length_erase_of_mem hm] at h1
      omega
    · rw [List.erase_of_not_mem hm] at h1
      omega
/-- no more are found than turns were made -/
theorem LI.cnt {n b k : Nat} {s : List (List Int) × List (List Int)} (h : LI n b k s) : s.2.length ≤ k := by
  have h1 : (s.2.map lead).Nodup := h.nd.imp fun h => Nat.ne_of_lt h
  have := nodup_len k _ h1 fun x hx => by
    obtain ⟨q, hq, rfl⟩ := List.mem_map.mp hx
    exact (h.ld q hq).1
  rwa [List.length_map] at this
/-- a place that leads nowhere: fewer are found -/
theorem LI.cnt_free {n b k : Nat} {s : List (List Int) × List (List Int)} (h : LI n b k s) {f : Nat} (hf : f < k) (hn : f ∉ s.2.map lead) : s.2.length + 1 ≤ k := by
  have h1 : (s.2.map lead).Nodup := h.nd.imp fun h => Nat.ne_of_lt h
  have := nodup_len k (f :: s.2.map lead) (List.nodup_cons.mpr ⟨hn, h1⟩) fun x hx => by
    rcases List.mem_cons.mp hx with rfl | hx
    · exact hf
    · obtain ⟨q, hq, rfl⟩ := List.mem_map.mp hx
      exact (h.ld q hq).1
  rwa [List.length_cons, List.length_map] at this
/-! ### what spans nothing -/
def pivots (led : List (List Int)) : Int := led.foldl (fun (m : Int) r => m * ((r.getD (lead r) 0).natAbs : Int)) 1
def oneTo (led : List (List Int)) (n free : Nat) (most : Int) : List Int := led.foldl (fun one r => one.set (lead r) (-r.getD free 0 * most / r.getD (lead r) 0)) ((List.replicate n 0).set free most)
def frees (led : List (List Int)) (n : Nat) : List Nat := (List.range n).filter fun a => !decide (a ∈ led.map lead)
def nothFound (led : List (List Int)) (n : Nat) : List (List Int) := (frees led n).map fun free => primL (oneTo led n free (pivots led))
def nothBy (rows : List (List Int)) (n : Nat) : List (List Int) := ledRows (nothFound (ledRows rows n) n) n
theorem ledTo_nil : ∀ n, ledTo [] n = ([], [])
  | 0 => rfl
  | n + 1 => by
    show ledStep n (ledTo [] n) = _
    rw [ledTo_nil n]
    rfl
theorem ledRows_nil (n : Nat) : ledRows [] n = [] := by
  unfold ledRows
  rw [ledTo_nil]
/-! ### lots, and whether a folk can go on for ever -/
def lotGrow (size : Nat) (ls : List (List Nat)) : List (List Nat) := ls.flatMap fun lot => ((List.range size).filter fun a => lot.isEmpty || decide (lot.getLastD 0 < a)).map fun a => lot ++ [a]
def lotsOf (size : Nat) : Nat → List (List Nat)
  | 0 => [[]]
  | n + 1 => lotGrow size (lotsOf size n)
def rowsOf (cs : List (List Int)) (lot : List Nat) (n : Nat) : List (List Int) := (List.range n).map fun mood => lot.map fun a => (cs.getD a []).getD mood 0
/-- the told one of a lot, if it can go on -/
def pickOne : List (List Int) → Option (List Int)
  | [t] => if t.all (fun x => decide (0 < x)) then some t else none
  | _ => none
def toldOf (cs : List (List Int)) (n : Nat) (lot : List Nat) : Option (List Int) := pickOne (nothBy (rowsOf cs lot n) lot.length)
def balOf (rs : List Rl) (lot : List Nat) (t : List Int) : D := .lst ((lot.zip t).map fun p => .tup [eRule (rs.getD p.1 ("", "")), .int p.2])
def balAt (m : Str) (rs : List Rl) (k : Nat) : Option D := (lotsOf rs.length (k + 1)).findSome? fun lot => (toldOf (rs.map (chg m)) m.length lot).map (balOf rs lot)
def bal (m : Str) (rs : List Rl) : Option D := (List.range m.length).findSome? (balAt m rs)
def rests (m : Str) (rs : List Rl) : Bool := (bal m rs).isNone
theorem find_first {α β : Type} {f : α → Option β} : ∀ {l : List α} {i : Nat} {b : β}, (h : i < l.length) → (∀ j (hj : j < i), f l[j] = none) → f l[i] = some b → l.findSome? f = some b
  | [], i, b, h, _, _ => absurd h (by simp)
  | x :: l, 0, b, h, _, e => by
    rw [List.findSome?_cons, show f x = some b from e]
  | x :: l, i + 1, b, h, hn, e => by
    rw [List.findSome?_cons, show f x = none from hn 0 (by omega)]
    exact find_first (l := l) (i := i) (by simpa using h) (fun j hj => hn (j + 1) (by omega)) e
theorem find_none {α β : Type} {f : α → Option β} : ∀ {l : List α}, (∀ j (hj : j < l.length), f l[j] = none) → l.findSome? f = none
  | [], _ => rfl
  | x :: l, h => by
    rw [List.findSome?_cons, show f x = none from h 0 (by simp)]
    exact find_none (l := l) fun j hj => h (j + 1) (by simpa using hj)
theorem lotGrow_len (size : Nat) : ∀ ls : List (List Nat), (lotGrow size ls).length ≤ ls.length * size
  | [] => by simp [lotGrow]
  | t :: ts => by
    show ((((List.range size).filter fun a => t.isEmpty || decide (t.getLastD 0 < a)).map fun a => t ++ [a]) ++ lotGrow size ts).length ≤ _
    have h1 := lotGrow_len size ts
    have h2 : ((List.range size).filter fun a => t.isEmpty || decide (t.getLastD 0 < a)).length ≤ size := by
      have := List.length_filter_le (fun a => t.isEmpty || decide (t.getLastD 0 < a)) (List.range size)
      rwa [List.length_range] at this
    rw [List.length_append, List.length_map, List.length_cons, Nat.succ_mul]
    omega
theorem lotsOf_len (size : Nat) : ∀ n : Nat, (lotsOf size n).length ≤ size ^ n
  | 0 => Nat.le_refl _
  | n + 1 => by
    rw [Nat.pow_succ]
    exact Nat.le_trans (lotGrow_len size _) (Nat.mul_le_mul_right _ (lotsOf_len size n))
theorem lotsOf_each (size : Nat) : ∀ (n : Nat), ∀ lot ∈ lotsOf size n, lot.length = n ∧ lot.Pairwise (· < ·) ∧ ∀ a ∈ lot, a < size
  | 0, lot, h => by
    rw [List.mem_singleton.mp h]
    exact ⟨rfl, .nil, fun a ha => (by cases ha)⟩
  | n + 1, lot, h => by
    obtain ⟨u, hu, h2⟩ := List.mem_flatMap.mp h
    obtain ⟨a, ha, rfl⟩ := List.mem_map.mp h2
    obtain ⟨h3, h4⟩ := List.mem_filter.mp ha
    obtain ⟨e1, e2, e3⟩ := lotsOf_each size n u hu
    refine ⟨by rw [List.length_append, e1]; rfl, ?_, fun b hb => ?_⟩
    · rw [List.pairwise_append]
      refine ⟨e2, List.pairwise_singleton _ _, fun x hx y hy => ?_⟩
      rw [List.mem_singleton.mp hy]
      cases u with
      | nil => cases hx
      | cons z u =>
        have h5 : (z :: u).getLastD 0 < a := by simpa using h4
        have h6 : (z :: u).getLastD 0 = (z :: u).getLast (by simp) := by rw [List.getLastD_eq_getLast?, List.getLast?_eq_some_getLast (by simp)]; rfl
        rw [h6] at h5
        rcases List.mem_iff_getElem.mp hx with ⟨i, hi, rfl⟩
        by_cases e : i = (z :: u).length - 1
        · rw [List.getLast_eq_getElem] at h5
          simp only [e]
          exact h5
        · have h7 := List.pairwise_iff_getElem.mp e2 i ((z :: u).length - 1) hi (by simp) (by omega)
          rw [List.getLast_eq_getElem] at h5
          omega
    · rcases List.mem_append.mp hb with hb | hb
      · exact e3 b hb
      · rw [List.mem_singleton.mp hb]
        exact List.mem_range.mp h3
theorem gcdL_take {ns : List Int} {i : Nat} (h : i < ns.length) : gcdL (ns.take (i + 1)) = Nat.gcd (gcdL (ns.take i)) (ns[i]).natAbs := by
  unfold gcdL
  rw [List.take_add_one, List.getElem?_eq_getElem h, List.foldl_append]
  rfl
theorem gcdL_lt {ns : List Int} {B : Nat} (h : ∀ x ∈ ns, x.natAbs < B) (h0 : gcdL ns ≠ 0) : gcdL ns < B := by
  have : ∃ x ∈ ns, x ≠ 0 := by
    by_cases q : ∃ x ∈ ns, x ≠ 0
    · exact q
    · have hz : ∀ x ∈ ns, x = 0 := fun x hx => by
        by_cases e : x = 0
        · exact e
        · exact absurd ⟨x, hx, e⟩ q
      have : ∀ (l : List Int), (∀ x ∈ l, x = 0) → gcdL l = 0 := fun l => by
        unfold gcdL
        induction l with
        | nil => exact fun _ => rfl
        | cons y l ih =>
          intro hl
          rw [List.foldl_cons, hl y (List.mem_cons_self ..)]
          exact ih fun x hx => hl x (List.mem_cons_of_mem _ hx)
      exact absurd (this ns hz) h0
  obtain ⟨x, hx, h1⟩ := this
  have h2 := Int.ofNat_dvd_left.mp (gcdL_dvd hx)
  have := Nat.le_of_dvd (by omega) h2
  have := h x hx
  omega
theorem atI_getD {α : Type} {l : List α} {j : Nat} (h : j < l.length) (d : α) : atI l (j : Int) = some (l.getD j d) := by
  unfold atI
  rw [ixN_nat h, List.getD_eq_getElem?_getD, List.getElem?_eq_getElem h]
  show l[j]? = _
  rw [List.getElem?_eq_getElem h]
  rfl
theorem atI_ints {l : List Int} {j : Nat} (h : j < l.length) : atI (l.map D.int) (j : Int) = some (.int (l.getD j 0)) := by
  rw [atI_getD (by rw [List.length_map]; exact h) (.int 0)]
  congr 1
  rw [List.getD_eq_getElem?_getD, List.getD_eq_getElem?_getD, List.getElem?_map]
  cases l[j]? <;> rfl
theorem fnz_at {l : List Int} {f : Nat} (h : LeadAt l f) : atI ((l.filter fun n => !decide (n = 0)).map D.int) 0 = some (.int (fnz l)) := by
  have : l.filter (fun n => !decide (n = 0)) ≠ [] := fun e => by
    have := List.filter_eq_nil_iff.mp e _ (getD_mem h.nz)
    simp at this
    exact h.nz (by simpa using this)
  unfold fnz
  cases e : l.filter (fun n => !decide (n = 0)) with
  | nil => exact absurd e this
  | cons x r => exact atI_getD (l := (x :: r).map D.int) (j := 0) (by simp) (.int 0)
theorem lead_of_ne {l : List Int} (h : ∃ x ∈ l, x ≠ 0) : LeadAt l (lead l) := by
  have hl : lead l < l.length := List.findIdx_lt_length_of_exists (by
    obtain ⟨x, hx, h1⟩ := h
    exact ⟨x, hx, by simp [h1]⟩)
  have e : ∀ (j : Nat) (hj : j < l.length), l.getD j 0 = l[j] := fun j hj => by
    rw [List.getD_eq_getElem?_getD, List.getElem?_eq_getElem hj]
    rfl
  refine ⟨?_, fun j hj => ?_⟩
  · rw [e _ hl]
    have := List.findIdx_getElem (w := hl)
    intro e
    have h2 : decide (l[lead l] = 0) = true := decide_eq_true e
    have h3 : (!decide (l[lead l] = 0)) = true := this
    rw [h2] at h3
    cases h3
  · rw [e j (by omega)]
    have := List.not_of_lt_findIdx (p := fun n => !decide (n = 0)) (xs := l) hj
    simpa using this
theorem gcdL_ne {ns : List Int} (h : gcdL ns ≠ 0) : ∃ x ∈ ns, x ≠ 0 := by
  by_cases q : ∃ x ∈ ns, x ≠ 0
  · exact q
  · exact absurd (show gcdL ns = 0 by
      have hz : ∀ x ∈ ns, x = 0 := fun x hx => by
        by_cases e : x = 0
        · exact e
        · exact absurd ⟨x, hx, e⟩ q
      have : ∀ (l : List Int), (∀ x ∈ l, x = 0) → l.foldl (fun g n => Nat.gcd g n.natAbs) 0 = 0 := fun l => by
        induction l with
        | nil => exact fun _ => rfl
        | cons y l ih =>
          intro hl
          rw [List.foldl_cons, hl y (List.mem_cons_self ..)]
          exact ih fun x hx => hl x (List.mem_cons_of_mem _ hx)
      exact this ns hz) h
theorem ledStep_len1 (k : Nat) (s : List (List Int) × List (List Int)) : (ledStep k s).1.length ≤ s.1.length := by
  unfold ledStep
  split
  · exact Nat.le_refl _
  · rw [List.length_map, List.length_append, List.length_take, List.length_drop]
    omega
theorem ledTo_len1 (rows : List (List Int)) : ∀ k, (ledTo rows k).1.length ≤ rows.length
  | 0 => Nat.le_refl _
  | k + 1 => Nat.le_trans (ledStep_len1 k _) (ledTo_len1 rows k)
theorem bits_le (b : Nat) : ∀ {t u : Nat}, t ≤ u → bits b t ≤ bits b u := fun {t u} h => by
  unfold bits
  exact Nat.sub_le_sub_right (Nat.mul_le_mul_left _ (Nat.pow_le_pow_right (by decide) h)) 1
/-- what lies in the rows ahead of turn k is small -/
theorem LI.small {n b k : Nat} {s : List (List Int) × List (List Int)} (h : LI n b k s) (hk : k < n) (hb : bits b n ≤ 8800) : bits b s.2.length ≤ 4400 := by
  have h1 := h.cnt
  have h2 := bits_le b (show s.2.length + 1 ≤ n by omega)
  rw [bits_succ] at h2
  omega
theorem lt_pow {x e f : Nat} (h : x < 2 ^ e) (hl : e ≤ f) : x < 2 ^ f := Nat.lt_of_lt_of_le h (Nat.pow_le_pow_right (by decide) hl)
theorem foldl_take {α β : Type} (g : β → α → β) (z : β) {l : List α} {i : Nat} (h : i < l.length) : (l.take (i + 1)).foldl g z = g ((l.take i).foldl g z) l[i] := by
  rw [List.take_add_one, List.getElem?_eq_getElem h, List.foldl_append]
  rfl
theorem pivots_bd {led : List (List Int)} {e : Nat} (h : ∀ r ∈ led, ∀ x ∈ r, x.natAbs < 2 ^ e) : (pivots led).natAbs ≤ 2 ^ (e * led.length) := by
  have : ∀ (l : List (List Int)) (m : Int) (k : Nat), (∀ r ∈ l, ∀ x ∈ r, x.natAbs < 2 ^ e) → m.natAbs ≤ 2 ^ k → (l.foldl (fun (m : Int) r => m * ((r.getD (lead r) 0).natAbs : Int)) m).natAbs ≤ 2 ^ (k + e * l.length) := fun l => by
    induction l with
    | nil =>
      intro m k _ h
      exact h
    | cons r l ih =>
      intro m k h hm
      rw [List.foldl_cons]
      have h1 := getD_bd (Nat.two_pow_pos e) (h r (List.mem_cons_self ..)) (lead r)
      have h2 := ih (m * (r.getD (lead r) 0).natAbs) (k + e) (fun q hq => h q (List.mem_cons_of_mem _ hq)) (by
        rw [Int.natAbs_mul, Int.natAbs_natCast, Nat.pow_add]
        exact Nat.mul_le_mul hm (Nat.le_of_lt h1))
      rw [List.length_cons, Nat.mul_succ]
      have e1 : k + (e * l.length + e) = k + e + e * l.length := by omega
      rw [e1]
      exact h2
  have h2 := this led 1 0 h (by decide)
  rw [Nat.zero_add] at h2
  exact h2
theorem pivots_take_bd {led : List (List Int)} {e : Nat} (h : ∀ r ∈ led, ∀ x ∈ r, x.natAbs < 2 ^ e) (i : Nat) : (pivots (led.take i)).natAbs ≤ 2 ^ (e * led.length) := by
  have h1 := pivots_bd (led := led.take i) (e := e) fun r hr => h r (List.mem_of_mem_take hr)
  refine Nat.le_trans h1 (Nat.pow_le_pow_right (by decide) (Nat.mul_le_mul_left _ ?_))
  rw [List.length_take]
  omega
theorem oneTo_len (led : List (List Int)) (n free : Nat) (most : Int) : (oneTo led n free most).length = n := by
  unfold oneTo
  have : ∀ (l : List (List Int)) (o : List Int), (l.foldl (fun one r => one.set (lead r) (-r.getD free 0 * most / r.getD (lead r) 0)) o).length = o.length := fun l => by
    induction l with
    | nil => exact fun _ => rfl
    | cons r l ih =>
      intro o
      rw [List.foldl_cons, ih, List.length_set]
  rw [this, List.length_set, List.length_replicate]
theorem mem_set' {α : Type} {l : List α} {i : Nat} {a x : α} (h : x ∈ l.set i a) : x ∈ l ∨ x = a := by
  rcases List.mem_or_eq_of_mem_set h with h | h
  · exact .inl h
  · exact .inr h
theorem oneTo_bd {led : List (List Int)} {e n free : Nat} {most : Int} (h : ∀ r ∈ led, ∀ x ∈ r, x.natAbs < 2 ^ e) {k : Nat} (hm : most.natAbs ≤ 2 ^ k) : ∀ x ∈ oneTo led n free most, x.natAbs < 2 ^ (e + k + 1) := by
  have base : ∀ x ∈ (List.replicate n (0 : Int)).set free most, x.natAbs < 2 ^ (e + k + 1) := fun x hx => by
    rcases mem_set' hx with h | h
    · rw [List.eq_of_mem_replicate h]
      exact Nat.two_pow_pos _
    · rw [h]
      exact Nat.lt_of_le_of_lt hm (Nat.pow_lt_pow_right (by decide) (by omega))
  have : ∀ (l : List (List Int)) (o : List Int), (∀ r ∈ l, ∀ x ∈ r, x.natAbs < 2 ^ e) → (∀ x ∈ o, x.natAbs < 2 ^ (e + k + 1)) → ∀ x ∈ l.foldl (fun one r => one.set (lead r) (-r.getD free 0 * most / r.getD (lead r) 0)) o, x.natAbs < 2 ^ (e + k + 1) := fun l => by
    induction l with
    | nil => exact fun _ _ h => h
    | cons r l ih =>
      intro o hl ho
      rw [List.foldl_cons]
      refine ih _ (fun q hq => hl q (List.mem_cons_of_mem _ hq)) fun x hx => ?_
      rcases mem_set' hx with h | h
      · exact ho x h
      · rw [h]
        refine Nat.lt_of_le_of_lt (Int.natAbs_ediv_le_natAbs _ _) ?_
        rw [Int.natAbs_mul, Int.natAbs_neg]
        have h1 := getD_bd (Nat.two_pow_pos e) (hl r (List.mem_cons_self ..)) free
        have h2 := Nat.mul_le_mul (Nat.le_of_lt h1) hm
        rw [← Nat.pow_add] at h2
        exact Nat.lt_of_le_of_lt h2 (Nat.pow_lt_pow_right (by decide) (by omega))
  exact this led _ h base
theorem oneTo_take {led : List (List Int)} {n free i : Nat} {most : Int} (h : i < led.length) : oneTo (led.take (i + 1)) n free most = (oneTo (led.take i) n free most).set (lead led[i]) (-led[i].getD free 0 * most / led[i].getD (lead led[i]) 0) := by
  unfold oneTo
  rw [foldl_take _ _ h]
theorem pivots_take {led : List (List Int)} {i : Nat} (h : i < led.length) : pivots (led.take (i + 1)) = pivots (led.take i) * ((led[i].getD (lead led[i]) 0).natAbs : Int) := by
  unfold pivots
  rw [foldl_take _ _ h]
theorem upTo_get {lo : Int} {n i : Nat} {d : D} (h : (upTo lo n)[i]? = some d) : i < n ∧ d = .int (lo + (i : Nat)) := by
  unfold upTo at h
  rw [List.getElem?_map] at h
  obtain ⟨y, hy, rfl⟩ := Option.map_eq_some_iff.mp h
  obtain ⟨hi, rfl⟩ := List.getElem?_eq_some_iff.mp hy
  rw [List.length_range] at hi
  rw [List.getElem_range]
  exact ⟨hi, rfl⟩
theorem upTo_len (lo : Int) (n : Nat) : (upTo lo n).length = n := by
  unfold upTo
  rw [List.length_map, List.length_range]
theorem upTo_nat (n : Nat) : upTo 0 n = (List.range n).map fun i => D.int (i : Nat) := by
  unfold upTo
  exact List.map_congr_left fun i _ => by rw [Int.zero_add]
theorem nothBy_each {rows : List (List Int)} {n : Nat} (h1 : ∀ r ∈ rows, r.length = n) (h2 : ∀ r ∈ rows, ∀ x ∈ r, x.natAbs < 2 ^ 2) (hn : n ≤ 5) : (nothBy rows n).length ≤ n ∧ ∀ t ∈ nothBy rows n, t.length = n := by
  have hx : ∃ b, ∀ r ∈ nothFound (ledRows rows n) n, ∀ x ∈ r, x.natAbs < 2 ^ b := by
    have : ∀ l : List (List Int), ∃ b : Nat, ∀ r ∈ l, ∀ x ∈ r, x.natAbs < 2 ^ b := fun l => by
      have q : ∀ r : List Int, ∃ b : Nat, ∀ x ∈ r, x.natAbs < 2 ^ b := fun r => by
        induction r with
        | nil => exact ⟨0, fun x h => (by cases h)⟩
        | cons y r ih =>
          obtain ⟨b, hb⟩ := ih
          refine ⟨b + y.natAbs, fun x hx => ?_⟩
          rcases List.mem_cons.mp hx with rfl | hx
          · exact Nat.lt_of_lt_of_le Nat.lt_two_pow_self (Nat.pow_le_pow_right (by decide) (by omega))
          · exact lt_pow (hb x hx) (by omega)
      induction l with
      | nil => exact ⟨0, fun r h => (by cases h)⟩
      | cons r l ih =>
        obtain ⟨b, hb⟩ := ih
        obtain ⟨c, hc⟩ := q r
        refine ⟨b + c, fun z hz x hx => ?_⟩
        rcases List.mem_cons.mp hz with rfl | hz
        · exact lt_pow (hc x hx) (by omega)
        · exact lt_pow (hb z hz x hx) (by omega)
    exact this _
  obtain ⟨b, hb⟩ := hx
  have L := LI.all (n := n) (b := b) (rows := nothFound (ledRows rows n) n) (fun r hr => by
    obtain ⟨free, hf, rfl⟩ := List.mem_map.mp hr
    rw [primL_len, oneTo_len]) hb n
  exact ⟨L.cnt, L.len2⟩
theorem exists_min : ∀ {l : List Int}, l ≠ [] → ∃ m, IsMin l m
  | [], h => absurd rfl h
  | [x], _ => ⟨x, List.mem_cons_self .., fun y hy => by rw [List.mem_singleton.mp hy]; exact Int.le_refl _⟩
  | x :: z :: l, _ => by
    obtain ⟨m, h1, h2⟩ := exists_min (l := z :: l) (by simp)
    by_cases h : x ≤ m
    · exact ⟨x, List.mem_cons_self .., fun y hy => by
        rcases List.mem_cons.mp hy with rfl | hy
        · exact Int.le_refl _
        · exact Int.le_trans h (h2 y hy)⟩
    · exact ⟨m, List.mem_cons_of_mem _ h1, fun y hy => by
        rcases List.mem_cons.mp hy with rfl | hy
        · omega
        · exact h2 y hy⟩
theorem IsMin.all_pos {l : List Int} {m : Int} (h : IsMin l m) (c : Int) : l.all (fun x => decide (c < x)) = decide (c < m) := by
  by_cases q : c < m
  · rw [decide_eq_true q]
    exact List.all_eq_true.mpr fun x hx => decide_eq_true (by have := h.2 x hx; omega)
  · rw [decide_eq_false q]
    rw [List.all_eq_false]
    exact ⟨m, h.1, by simpa using q⟩
end Mf
set_option maxRecDepth 100000
set_option maxHeartbeats 4000000
/-! Meetfolk, plain: folk as a system that meets; one end; rays. -/
namespace Mf
namespace Sy
abbrev Vec := Nat → Int
def tot (n : Nat) (g : Vec) : Int := ((List.range n).map g).sum
theorem tot_succ (n : Nat) (g : Vec) : tot (n + 1) g = tot n g + g n := by
  unfold tot
  rw [List.range_succ, List.map_append, List.sum_append]
  simp
theorem tot_add (n : Nat) (f g : Vec) : tot n (fun i => f i + g i) = tot n f + tot n g := by
  induction n with
  | zero => rfl
  | succ n ih =>
    rw [tot_succ, tot_succ, tot_succ, ih]
    omega
theorem tot_sub (n : Nat) (f g : Vec) : tot n (fun i => f i - g i) = tot n f - tot n g := by
  induction n with
  | zero => rfl
  | succ n ih =>
    rw [tot_succ, tot_succ, tot_succ, ih]
    omega
theorem tot_nn {n : Nat} {g : Vec} (h : ∀ i, 0 ≤ g i) : 0 ≤ tot n g := by
  induction n with
  | zero => exact Int.le_refl _
  | succ n ih =>
    rw [tot_succ]
    have := h n
    omega
theorem tot_le {n : Nat} {f g : Vec} (h : ∀ i, f i ≤ g i) : tot n f ≤ tot n g := by
  induction n with
  | zero => exact Int.le_refl _
  | succ n ih =>
    rw [tot_succ, tot_succ]
    have := h n
    omega
theorem le_tot {n : Nat} {g : Vec} (h : ∀ i, 0 ≤ g i) {i : Nat} (hi : i < n) : g i ≤ tot n g := by
  induction n with
  | zero => omega
  | succ n ih =>
    rw [tot_succ]
    by_cases e : i = n
    · subst e
      have := tot_nn (n := i) h
      omega
    · have := ih (by omega)
      have := h n
      omega
theorem tot_mul (n : Nat) (k : Int) (g : Vec) : tot n (fun i => k * g i) = k * tot n g := by
  induction n with
  | zero => exact (Int.mul_zero k).symm
  | succ n ih => rw [tot_succ, tot_succ, ih, Int.mul_add]
/-- what a rule needs, and what it makes -/
structure Rule where
  need : Vec
  out : Vec
/-- a drawn folk: n moods, the weights of the first half -/
structure Sys where
  n : Nat
  rules : List Rule
  W : Vec
structure Sys.Ok (S : Sys) : Prop where
  needN : ∀ r ∈ S.rules, ∀ i, 0 ≤ r.need i
  outN : ∀ r ∈ S.rules, ∀ i, 0 ≤ r.out i
  needZ : ∀ r ∈ S.rules, ∀ i, S.n ≤ i → r.need i = 0
  outZ : ∀ r ∈ S.rules, ∀ i, S.n ≤ i → r.out i = 0
  need2 : ∀ r ∈ S.rules, tot S.n r.need = 2
  out2 : ∀ r ∈ S.rules, tot S.n r.out = 2
  W0 : ∀ i, 0 ≤ S.W i ∧ S.W i ≤ 1
  Wout : ∀ r ∈ S.rules, tot S.n (fun i => S.W i * r.out i) = 0
  Wneed : ∀ r ∈ S.rules, 1 ≤ tot S.n (fun i => S.W i * r.need i)
/-- a crowd of the folk -/
structure Sys.Cr (S : Sys) (c : Vec) : Prop where
  nn : ∀ i, 0 ≤ c i
  z : ∀ i, S.n ≤ i → c i = 0
def Use (r : Rule) (c : Vec) : Prop := ∀ i, r.need i ≤ c i
def app (r : Rule) (c : Vec) (k : Int) : Vec := fun i => c i + k * (r.out i - r.need i)
inductive Sys.Rch (S : Sys) : Vec → Vec → Prop
  | refl (c : Vec) : Rch S c c
  | step {c d : Vec} {r : Rule} (h : r ∈ S.rules) (u : Use r c) (t : Rch S (app r c 1) d) : Rch S c d
def Sys.Rest (S : Sys) (c : Vec) : Prop := ∀ r ∈ S.rules, ¬ Use r c
def Sys.wt (S : Sys) (c : Vec) : Int := tot S.n fun i => S.W i * c i
section
variable {S : Sys} (ok : S.Ok)
theorem Sys.Rch.trans {c d e : Vec} (a : S.Rch c d) (b : S.Rch d e) : S.Rch c e := by
  induction a with
  | refl c => exact b
  | step h u t ih => exact .step h u (ih b)
theorem add_comm_fn (c g : Vec) (r : Rule) : app r (fun i => c i + g i) 1 = fun i => app r c 1 i + g i := by
  funext i
  show c i + g i + 1 * (r.out i - r.need i) = c i + 1 * (r.out i - r.need i) + g i
  omega
/-- with more folk standing by -/
theorem Sys.Rch.add {c d : Vec} (a : S.Rch c d) (g : Vec) (hg : ∀ i, 0 ≤ g i) : S.Rch (fun i => c i + g i) (fun i => d i + g i) := by
  induction a with
  | refl c => exact .refl _
  | @step c d r h u t ih =>
    refine .step h (fun i => ?_) ?_
    · have := u i
      have := hg i
      omega
    · rw [add_comm_fn]
      exact ih
include ok
theorem Sys.Cr.app {c : Vec} {r : Rule} (h : r ∈ S.rules) (hc : S.Cr c) (u : Use r c) : S.Cr (app r c 1) := by
  refine ⟨fun i => ?_, fun i hi => ?_⟩
  · have := u i
    have := ok.outN r h i
    unfold Sy.app
    omega
  · have := hc.z i hi
    have := ok.needZ r h i hi
    have := ok.outZ r h i hi
    unfold Sy.app
    omega
theorem Sys.Cr.rch {c d : Vec} (hc : S.Cr c) (a : S.Rch c d) : S.Cr d := by
  induction a with
  | refl c => exact hc
  | step h u t ih => exact ih (hc.app ok h u)
theorem tot_app {c : Vec} {r : Rule} (h : r ∈ S.rules) : tot S.n (app r c 1) = tot S.n c := by
  have e : app r c 1 = fun i => c i + (r.out i - r.need i) := by
    funext i
    unfold app
    omega
  rw [e, tot_add, tot_sub, ok.need2 r h, ok.out2 r h]
  omega
theorem tot_rch {c d : Vec} (a : S.Rch c d) : tot S.n d = tot S.n c := by
  induction a with
  | refl c => rfl
  | step h u t ih => rw [ih, tot_app ok h]
theorem wt_app {c : Vec} {r : Rule} (h : r ∈ S.rules) : S.wt (app r c 1) ≤ S.wt c - 1 := by
  unfold Sys.wt
  have e : (fun i => S.W i * app r c 1 i) = fun i => S.W i * c i + (S.W i * r.out i - S.W i * r.need i) := by
    funext i
    unfold app
    rw [Int.one_mul, Int.mul_add, Int.mul_sub]
  rw [e, tot_add, tot_sub, ok.Wout r h]
  have := ok.Wneed r h
  omega
theorem wt_nn {c : Vec} (hc : S.Cr c) : 0 ≤ S.wt c := tot_nn fun i => Int.mul_nonneg (ok.W0 i).1 (hc.nn i)
theorem wt_rch {c d : Vec} (a : S.Rch c d) : S.wt d ≤ S.wt c := by
  induction a with
  | refl c => exact Int.le_refl _
  | @step c d r h u t ih =>
    have := wt_app ok h (c := c)
    exact Int.le_trans ih (Int.le_trans this (by omega))
theorem wt_le_tot {c : Vec} (hc : S.Cr c) : S.wt c ≤ tot S.n c := tot_le fun i => by
  have h := ok.W0 i
  have hz := hc.nn i
  have : S.W i = 0 ∨ S.W i = 1 := by omega
  rcases this with e | e
  · rw [e]
    omega
  · rw [e]
    omega
theorem exists_end {c : Vec} (hc : S.Cr c) : ∃ d, S.Rch c d ∧ S.Rest d := by
  generalize hk : (S.wt c).toNat = k
  induction k using Nat.strongRecOn generalizing c with
  | ind k ih =>
    by_cases hr : S.Rest c
    · exact ⟨c, .refl c, hr⟩
    · have : ∃ r ∈ S.rules, Use r c := by
        refine Classical.byContradiction fun hn => hr fun r h u => hn ⟨r, h, u⟩
      obtain ⟨r, h, u⟩ := this
      have h1 := hc.app ok h u
      have h2 := wt_app ok h (c := c)
      have h3 := wt_nn ok h1
      obtain ⟨d, a, b⟩ := ih (S.wt (app r c 1)).toNat (by omega) h1 rfl
      exact ⟨d, .step h u a, b⟩
/-- each crowd of two or three has one end -/
def Sys.Small (S : Sys) : Prop := ∀ c d d', S.Cr c → (tot S.n c = 2 ∨ tot S.n c = 3) → S.Rch c d → S.Rest d → S.Rch c d' → S.Rest d' → d = d'
theorem tot_max {n : Nat} {f g : Vec} : tot n (fun i => max (f i) (g i)) + tot n (fun i => min (f i) (g i)) = tot n f + tot n g := by
  induction n with
  | zero => rfl
  | succ n ih =>
    rw [tot_succ, tot_succ, tot_succ, tot_succ]
    omega
theorem local_conf (sm : S.Small) {c : Vec} (hc : S.Cr c) {r1 r2 : Rule} (h1 : r1 ∈ S.rules) (h2 : r2 ∈ S.rules) (u1 : Use r1 c) (u2 : Use r2 c) : ∃ e, S.Rch (app r1 c 1) e ∧ S.Rch (app r2 c 1) e := by
  by_cases hd : ∀ i, r1.need i = 0 ∨ r2.need i = 0
  · refine ⟨app r2 (app r1 c 1) 1, .step h2 (fun i => ?_) (.refl _), ?_⟩
    · have a := u1 i
      have b := u2 i
      have o := ok.outN r1 h1 i
      unfold app
      rcases hd i with z | z <;> omega
    · have e : app r2 (app r1 c 1) 1 = app r1 (app r2 c 1) 1 := by
        funext i
        unfold app
        omega
      rw [e]
      refine .step h1 (fun i => ?_) (.refl _)
      have a := u1 i
      have b := u2 i
      have o := ok.outN r2 h2 i
      unfold app
      rcases hd i with z | z <;> omega
  · have : ∃ i, r1.need i ≠ 0 ∧ r2.need i ≠ 0 := by
      refine Classical.byContradiction fun hn => hd fun i => ?_
      by_cases z : r1.need i = 0
      · exact .inl z
      · by_cases y : r2.need i = 0
        · exact .inr y
        · exact absurd ⟨i, z, y⟩ hn
    obtain ⟨i0, z1, z2⟩ := this
    have n1 := ok.needN r1 h1
    have n2 := ok.needN r2 h2
    let mx : Vec := fun i => max (r1.need i) (r2.need i)
    have hmx : S.Cr mx := ⟨fun i => by have := n1 i; show 0 ≤ max _ _; omega, fun i hi => by
      show max _ _ = (0 : Int)
      rw [ok.needZ r1 h1 i hi, ok.needZ r2 h2 i hi]
      rfl⟩
    have hi0 : i0 < S.n := by
      by_cases q : i0 < S.n
      · exact q
      · exact absurd (ok.needZ r1 h1 i0 (by omega)) z1
    have t1 := tot_max ok (n := S.n) (f := r1.need) (g := r2.need)
    rw [ok.need2 r1 h1, ok.need2 r2 h2] at t1
    have t2 : 1 ≤ tot S.n (fun i => min (r1.need i) (r2.need i)) := by
      have := le_tot (n := S.n) (g := fun i => min (r1.need i) (r2.need i)) (fun i => by have := n1 i; have := n2 i; show 0 ≤ min _ _; omega) hi0
      have a := n1 i0
      have b := n2 i0
      have : min (r1.need i0) (r2.need i0) ≥ 1 := by omega
      omega
    have t3 : (2 : Int) ≤ tot S.n mx := by
      have := tot_le (n := S.n) (f := r1.need) (g := mx) (fun i => by show _ ≤ max _ _; omega)
      rw [ok.need2 r1 h1] at this
      exact this
    have t4 : tot S.n mx = 2 ∨ tot S.n mx = 3 := by
      have e : tot S.n mx = tot S.n (fun i => max (r1.need i) (r2.need i)) := rfl
      omega
    have v1 : Use r1 mx := fun i => by show _ ≤ max _ _; omega
    have v2 : Use r2 mx := fun i => by show _ ≤ max _ _; omega
    obtain ⟨e1, a1, b1⟩ := exists_end ok (hmx.app ok h1 v1)
    obtain ⟨e2, a2, b2⟩ := exists_end ok (hmx.app ok h2 v2)
    have ee : e1 = e2 := sm mx e1 e2 hmx t4 (.step h1 v1 a1) b1 (.step h2 v2 a2) b2
    subst ee
    let g : Vec := fun i => c i - mx i
    have hg : ∀ i, 0 ≤ g i := fun i => by
      have := u1 i
      have := u2 i
      show 0 ≤ c i - max _ _
      omega
    have q1 := a1.add g hg
    have q2 := a2.add g hg
    have c1 : (fun i => app r1 mx 1 i + g i) = app r1 c 1 := by
      funext i
      show mx i + 1 * (r1.out i - r1.need i) + (c i - mx i) = c i + 1 * (r1.out i - r1.need i)
      omega
    have c2 : (fun i => app r2 mx 1 i + g i) = app r2 c 1 := by
      funext i
      show mx i + 1 * (r2.out i - r2.need i) + (c i - mx i) = c i + 1 * (r2.out i - r2.need i)
      omega
    rw [c1] at q1
    rw [c2] at q2
    exact ⟨_, q1, q2⟩
theorem one_end (sm : S.Small) {c d d' : Vec} (hc : S.Cr c) (a : S.Rch c d) (b : S.Rest d) (a' : S.Rch c d') (b' : S.Rest d') : d = d' := by
  generalize hk : (S.wt c).toNat = k
  induction k using Nat.strongRecOn generalizing c d d' with
  | ind k ih =>
    cases a with
    | refl =>
      cases a' with
      | refl => rfl
      | step h u t => exact absurd u (b _ h)
    | @step _ _ r1 h1 u1 t1 =>
      cases a' with
      | refl => exact absurd u1 (b' _ h1)
      | @step _ _ r2 h2 u2 t2 =>
        obtain ⟨e, p1, p2⟩ := local_conf ok sm hc h1 h2 u1 u2
        have c1 := hc.app ok h1 u1
        have c2 := hc.app ok h2 u2
        obtain ⟨f, q1, q2⟩ := exists_end ok (c1.rch ok p1)
        have w1 := wt_app ok h1 (c := c)
        have w2 := wt_app ok h2 (c := c)
        have n1 := wt_nn ok c1
        have n2 := wt_nn ok c2
        have x1 := ih _ (by omega) c1 t1 b (p1.trans q1) q2 rfl
        have x2 := ih _ (by omega) c2 t2 b' (p2.trans q1) q2 rfl
        rw [x1, x2]
end
/-! ### rays -/
section
variable {S : Sys} (ok : S.Ok) (sm : S.Small) {e : Nat → Vec} {step g : Vec} {p q : Nat}
/-- it stays at rest along g -/
def Sys.Stays (S : Sys) (c g : Vec) : Prop := ∀ r ∈ S.rules, ∃ i, c i < r.need i ∧ g i = 0
theorem Sys.Stays.rest {c : Vec} (h : S.Stays c g) (t : Int) : S.Rest (fun i => c i + t * g i) := fun r hr u => by
  obtain ⟨i, a, b⟩ := h r hr
  have := u i
  have z : c i + t * g i = c i := by rw [b]; omega
  have : r.need i ≤ c i + t * g i := this
  omega
include ok sm
/-- the ends by one step each repeat, moved along g -/
theorem ray_ends (h0 : ∀ k, S.Cr (e k)) (hst : ∀ i, 0 ≤ step i) (hstz : ∀ i, S.n ≤ i → step i = 0) (hr : ∀ k, S.Rch (fun i => e k i + step i) (e (k + 1))) (hrest : ∀ k, S.Rest (e k))
    (hq : 0 < q) (hg : ∀ i, 0 ≤ g i) (hge : ∀ i, g i = e (p + q) i - e p i) (hs : ∀ k, k < q → S.Stays (e (p + k)) g) : ∀ (t k : Nat), k < q → e (p + k + t * q) = fun i => e (p + k) i + t * g i := by
  have main : ∀ N t k : Nat, N = k + t * q → k < q → e (p + k + t * q) = fun i => e (p + k) i + t * g i := by
    intro N
    induction N with
    | zero =>
      intro t k hN hk
      have ht : t = 0 := by
        rcases Nat.eq_zero_or_pos t with z | z
        · exact z
        · have : 0 < t * q := Nat.mul_pos z hq
          omega
      subst ht
      have hk0 : k = 0 := by omega
      subst hk0
      funext i
      simp
    | succ N ih =>
      intro t k hN hk
      have goal : ∀ (a : Vec) (M : Nat), p + k + t * q = M + 1 → S.Rch (fun i => e M i + step i) a → S.Rest a → e (p + k + t * q) = a := fun a M hM ha hb => by
        rw [hM]
        refine one_end ok sm ?_ (hr M) (hrest (M + 1)) ha hb
        exact ⟨fun i => by have := (h0 M).nn i; have := hst i; omega, fun i hi => by rw [(h0 M).z i hi, hstz i hi]; rfl⟩
      by_cases hk0 : k = 0
      · subst hk0
        cases t with
        | zero => simp at hN
        | succ t =>
          -- the last of a round is followed by the round's first, moved
          have hsq : (t + 1) * q = t * q + q := Nat.succ_mul t q
          obtain ⟨k', hk'⟩ : ∃ k', q = k' + 1 := ⟨q - 1, by omega⟩
          have hM : p + 0 + (t + 1) * q = (p + k' + t * q) + 1 := by omega
          have h1 := ih t k' (by omega) (by omega)
          refine goal _ _ hM ?_ ?_
          · rw [h1]
            have h2 := (hr (p + k')).add (fun i => t * g i) (fun i => Int.mul_nonneg (by omega) (hg i))
            have e1 : (fun i => e (p + k') i + step i + (t : Int) * g i) = fun i => e (p + k') i + t * g i + step i := by
              funext i
              omega
            have e2 : (fun i => e (p + k' + 1) i + (t : Int) * g i) = fun i => e (p + 0) i + ((t + 1 : Nat) : Int) * g i := by
              funext i
              have e3 : p + k' + 1 = p + q := by omega
              rw [e3, Nat.add_zero]
              have := hge i
              have : ((t + 1 : Nat) : Int) * g i = (t : Int) * g i + g i := by
                rw [Int.natCast_add, Int.add_mul]
                omega
              omega
            rw [e1, e2] at h2
            exact h2
          · exact (hs 0 hq).rest _
      · obtain ⟨k', rfl⟩ : ∃ k', k = k' + 1 := ⟨k - 1, by omega⟩
        have hM : p + (k' + 1) + t * q = (p + k' + t * q) + 1 := by omega
        have h1 := ih t k' (by omega) (by omega)
        refine goal _ _ hM ?_ ((hs (k' + 1) hk).rest _)
        rw [h1]
        have h2 := (hr (p + k')).add (fun i => t * g i) (fun i => Int.mul_nonneg (by omega) (hg i))
        have e1 : (fun i => e (p + k') i + step i + (t : Int) * g i) = fun i => e (p + k') i + t * g i + step i := by
          funext i
          omega
        rw [e1] at h2
        exact h2
  exact fun t k hk => main _ t k rfl hk
/-- the whole at once comes to the same end -/
theorem whole_end {c : Vec} (h0 : ∀ k, S.Cr (e k)) (hc : S.Cr c) (hst : ∀ i, 0 ≤ step i) (hstz : ∀ i, S.n ≤ i → step i = 0) (hb : S.Rch c (e 0)) (hr : ∀ k, S.Rch (fun i => e k i + step i) (e (k + 1))) : ∀ k : Nat, S.Rch (fun i => c i + k * step i) (e k)
  | 0 => by
    have : (fun i => c i + ((0 : Nat) : Int) * step i) = c := by
      funext i
      simp
    rw [this]
    exact hb
  | k + 1 => by
    have ih := (whole_end h0 hc hst hstz hb hr k).add step hst
    have e1 : (fun i => c i + (k : Int) * step i + step i) = fun i => c i + ((k + 1 : Nat) : Int) * step i := by
      funext i
      have : ((k + 1 : Nat) : Int) * step i = (k : Int) * step i + step i := by
        rw [Int.natCast_add, Int.add_mul]
        omega
      omega
    rw [e1] at ih
    exact ih.trans (hr k)
end
end Sy
end Mf
set_option maxRecDepth 100000
set_option maxHeartbeats 4000000
/-! Meetfolk, plain: crowds as lists beside crowds as functions. -/
namespace Mf
open PySem L2 Sy
variable [Tt] [Xw]
def fn (c : List Int) : Vec := fun i => c.getD i 0
theorem fn_z {c : List Int} {i : Nat} (h : c.length ≤ i) : fn c i = 0 := by
  unfold fn
  rw [List.getD_eq_getElem?_getD, List.getElem?_eq_none h]
  rfl
theorem fn_at {c : List Int} {i : Nat} (h : i < c.length) : fn c i = c[i] := by
  unfold fn
  rw [List.getD_eq_getElem?_getD, List.getElem?_eq_getElem h]
  rfl
theorem fn_mem {c : List Int} {i : Nat} (h : i < c.length) : fn c i ∈ c := fn_at h ▸ List.getElem_mem h
theorem fn_ext {a b : List Int} (hl : a.length = b.length) (h : ∀ i, fn a i = fn b i) : a = b := by
  refine List.ext_getElem hl fun i h1 h2 => ?_
  rw [← fn_at h1, ← fn_at h2, h i]
theorem tot_fn : ∀ (c : List Int), tot c.length (fn c) = c.sum
  | c => by
    have : ∀ n ≤ c.length, tot n (fn c) = (c.take n).sum := fun n => by
      induction n with
      | zero => exact fun _ => rfl
      | succ n ih =>
        intro hn
        rw [tot_succ, ih (by omega), List.take_add_one, List.getElem?_eq_getElem (by omega), List.sum_append, fn_at (by omega)]
        simp
    rw [this _ (Nat.le_refl _), List.take_length]
theorem fn_zip {a b : List Int} {f : Int → Int → Int} (hl : a.length = b.length) (f0 : f 0 0 = 0) (i : Nat) : fn ((a.zip b).map fun p => f p.1 p.2) i = f (fn a i) (fn b i) := by
  by_cases h : i < a.length
  · rw [fn_at (by rw [List.length_map, List.length_zip]; omega), fn_at h, fn_at (by omega), List.getElem_map, List.getElem_zip]
  · rw [fn_z (by rw [List.length_map, List.length_zip]; omega), fn_z (by omega), fn_z (by omega), f0]
theorem fn_beh {m : Str} {c : List Int} (hc : c.length = m.length) (r : Rl) (k : Int) (i : Nat) : fn (beh m c r k) i = fn c i + k * (fn (cn m r.2) i - fn (cn m r.1) i) := by
  unfold beh chg
  have h1 := fn_zip (a := c) (b := ((cn m r.1).zip (cn m r.2)).map fun p => p.2 - p.1) (f := fun x y => x + k * y) (by rw [List.length_map, List.length_zip, cn_len, cn_len]; omega) (by simp) i
  have h2 := fn_zip (a := cn m r.1) (b := cn m r.2) (f := fun x y => y - x) (by rw [cn_len, cn_len]) (by simp) i
  exact h1.trans (by rw [h2])
theorem beh_len {m : Str} {c : List Int} (hc : c.length = m.length) (r : Rl) (k : Int) : (beh m c r k).length = m.length := by
  unfold beh
  rw [List.length_map, List.length_zip, chg_len]
  omega
theorem fn_pluz {a b : List Int} (hl : a.length = b.length) (k : Int) (i : Nat) : fn (pluz a b k) i = fn a i + k * fn b i :=
  fn_zip (f := fun x y => x + k * y) hl (by simp) i
theorem pluz_len {a b : List Int} (hl : a.length = b.length) (k : Int) : (pluz a b k).length = a.length := by
  unfold pluz
  rw [List.length_map, List.length_zip]
  omega
theorem zip_all {a b : List Int} {p : Int → Int → Bool} (hl : a.length = b.length) : ((a.zip b).all fun q => p q.1 q.2) = true ↔ ∀ i, i < a.length → p (fn a i) (fn b i) = true := by
  rw [List.all_eq_true]
  constructor
  · intro h i hi
    have := h (a[i], b[i]'(by omega)) (by
      rw [List.mem_iff_getElem]
      exact ⟨i, by rw [List.length_zip]; omega, by rw [List.getElem_zip]⟩)
    rw [fn_at hi, fn_at (by omega)]
    exact this
  · intro h x hx
    obtain ⟨i, hi, rfl⟩ := List.mem_iff_getElem.mp hx
    rw [List.length_zip] at hi
    have := h i (by omega)
    rw [fn_at (by omega), fn_at (by omega)] at this
    rw [List.getElem_zip]
    exact this
/-! ### the system of a folk -/
def half (m : Str) : Nat := m.length / 2
def ruleOf (m : Str) (r : Rl) : Rule := ⟨fn (cn m r.1), fn (cn m r.2)⟩
def sysOf (m : Str) (rs : List Rl) : Sys := ⟨m.length, rs.map (ruleOf m), fun i => if i < half m then 1 else 0⟩
/-- a drawn folk -/
structure OkD (m : Str) (rs : List Rl) : Prop where
  ok : OkF m rs
  five : rs.length ≤ 5
  from_ : ∀ r ∈ rs, ∃ x ∈ r.1.cps.toList, x ∉ m.cps.toList.drop (half m)
  to_ : ∀ r ∈ rs, ∀ x ∈ r.2.cps.toList, x ∈ m.cps.toList.drop (half m)
theorem mlen (m : Str) : m.cps.toList.length = m.length := Array.length_toList
theorem OkM.nd {m : Str} (h : OkM m) : m.cps.toList.Nodup := h.asc.imp fun h => Nat.ne_of_lt h
theorem fn_cn {m t : Str} {i : Nat} (h : i < m.length) : fn (cn m t) i = (t.cps.toList.count (m.cps.toList[i]'(by rw [mlen]; exact h)) : Nat) := by
  rw [fn_at (by rw [cn_len]; exact h)]
  unfold cn
  rw [List.getElem_map]
theorem fn_cn_nn (m t : Str) (i : Nat) : 0 ≤ fn (cn m t) i := by
  by_cases h : i < m.length
  · rw [fn_cn h]
    omega
  · rw [fn_z (by rw [cn_len]; omega)]
    exact Int.le_refl _
theorem sum_count : ∀ (w L : List Nat), L.Nodup → (∀ x ∈ w, x ∈ L) → (L.map fun x => ((w.count x : Nat) : Int)).sum = (w.length : Nat)
  | [], L, _, _ => by
    have : ∀ L : List Nat, (L.map fun x => ((([] : List Nat).count x : Nat) : Int)).sum = 0 := fun L => by
      induction L with
      | nil => rfl
      | cons x L ih =>
        rw [List.map_cons, List.sum_cons, ih]
        rfl
    exact this L
  | a :: w, L, hn, h => by
    have ih := sum_count w L hn fun x hx => h x (List.mem_cons_of_mem _ hx)
    have ha := h a (List.mem_cons_self ..)
    have key : ∀ L : List Nat, (L.map fun x => (((a :: w).count x : Nat) : Int)).sum = (L.map fun x => ((w.count x : Nat) : Int)).sum + (L.count a : Nat) := fun L => by
      induction L with
      | nil => rfl
      | cons x L ih =>
        rw [List.map_cons, List.sum_cons, List.map_cons, List.sum_cons, ih, List.count_cons, List.count_cons]
        by_cases e : a = x
        · subst e
          simp
          omega
        · have e2 : ¬ x = a := fun z => e z.symm
          simp [e, e2]
          omega
    rw [key, ih, List.Nodup.count hn, if_pos ha, List.length_cons]
    omega
theorem tot_cn {m t : Str} (hm : OkM m) (h : ∀ x ∈ t.cps.toList, x ∈ m.cps.toList) : tot m.length (fn (cn m t)) = (t.length : Nat) := by
  have h1 := tot_fn (cn m t)
  rw [cn_len] at h1
  rw [h1]
  have := sum_count t.cps.toList m.cps.toList hm.nd h
  rw [mlen] at this
  exact this
theorem OkTwo.sub {m t : Str} (h : OkTwo m t) : ∀ x ∈ t.cps.toList, x ∈ m.cps.toList := by
  obtain ⟨a, b, rfl, ha, hb, _⟩ := h
  intro x hx
  have : x = a ∨ x = b := by simpa using hx
  rcases this with rfl | rfl
  · exact ha
  · exact hb
theorem sysOk {m : Str} {rs : List Rl} (h : OkD m rs) : (sysOf m rs).Ok := by
  have hm := h.ok.moods
  have each : ∀ r ∈ (sysOf m rs).rules, ∃ q ∈ rs, r = ruleOf m q := fun r hr => by
    obtain ⟨q, hq, rfl⟩ := List.mem_map.mp hr
    exact ⟨q, hq, rfl⟩
  have wcase : ∀ i, (sysOf m rs).W i = if i < half m then 1 else 0 := fun i => rfl
  refine ⟨fun r hr i => ?_, fun r hr i => ?_, fun r hr i hi => ?_, fun r hr i hi => ?_, fun r hr => ?_, fun r hr => ?_, fun i => ?_, fun r hr => ?_, fun r hr => ?_⟩
  · obtain ⟨q, hq, rfl⟩ := each r hr
    exact fn_cn_nn m q.1 i
  · obtain ⟨q, hq, rfl⟩ := each r hr
    exact fn_cn_nn m q.2 i
  · obtain ⟨q, hq, rfl⟩ := each r hr
    exact fn_z (by rw [cn_len]; exact hi)
  · obtain ⟨q, hq, rfl⟩ := each r hr
    exact fn_z (by rw [cn_len]; exact hi)
  · obtain ⟨q, hq, rfl⟩ := each r hr
    have := tot_cn hm (h.ok.one q hq).sub
    rw [(h.ok.one q hq).len] at this
    exact this
  · obtain ⟨q, hq, rfl⟩ := each r hr
    have := tot_cn hm (h.ok.two q hq).sub
    rw [(h.ok.two q hq).len] at this
    exact this
  · rw [wcase]
    split <;> omega
  · obtain ⟨q, hq, rfl⟩ := each r hr
    have z : (fun i => (sysOf m rs).W i * (ruleOf m q).out i) = fun _ => 0 := by
      funext i
      rw [wcase]
      by_cases hi : i < half m
      · have him : i < m.length := by
          unfold half at hi
          omega
        have : (ruleOf m q).out i = 0 := by
          show fn (cn m q.2) i = 0
          rw [fn_cn him]
          have : m.cps.toList[i]'(by rw [mlen]; exact him) ∉ q.2.cps.toList := fun hx => by
            have := h.to_ q hq _ hx
            obtain ⟨j, hj, e⟩ := List.mem_iff_getElem.mp this
            rw [List.length_drop, mlen] at hj
            rw [List.getElem_drop] at e
            have := List.pairwise_iff_getElem.mp hm.asc i (half m + j) (by rw [mlen]; exact him) (by rw [mlen]; omega) (by omega)
            omega
          rw [List.count_eq_zero_of_not_mem this]
          rfl
        rw [this, Int.mul_zero]
      · rw [if_neg hi, Int.zero_mul]
    rw [z]
    have : ∀ n, tot n (fun _ => 0) = 0 := fun n => by
      induction n with
      | zero => rfl
      | succ n ih => rw [tot_succ, ih]; rfl
    exact this _
  · obtain ⟨q, hq, rfl⟩ := each r hr
    obtain ⟨x, hx, hn⟩ := h.from_ q hq
    have hxm := (h.ok.one q hq).sub x hx
    obtain ⟨i, hi, rfl⟩ := List.mem_iff_getElem.mp hxm
    have him : i < m.length := by rw [mlen] at hi; exact hi
    have hih : i < half m := by
      by_cases z : i < half m
      · exact z
      · refine absurd ?_ hn
        rw [List.mem_iff_getElem]
        refine ⟨i - half m, by rw [List.length_drop]; omega, ?_⟩
        rw [List.getElem_drop]
        congr 1
        omega
    have nn : ∀ j, 0 ≤ (sysOf m rs).W j * (ruleOf m q).need j := fun j => Int.mul_nonneg (by rw [wcase]; split <;> omega) (fn_cn_nn m q.1 j)
    have := le_tot (n := m.length) nn him
    have e : (sysOf m rs).W i * (ruleOf m q).need i = ((q.1.cps.toList.count m.cps.toList[i] : Nat) : Int) := by
      rw [wcase, if_pos hih, Int.one_mul]
      exact fn_cn him
    have : 0 < q.1.cps.toList.count m.cps.toList[i] := List.count_pos_iff.mpr hx
    show 1 ≤ tot m.length _
    omega
/-! ### what the program asks, told of functions -/
theorem canUse_iff {m : Str} {c : List Int} {r : Rl} (hc : c.length = m.length) : canUse m c r = true ↔ Use (ruleOf m r) (fn c) := by
  have h := zip_all (a := c) (b := cn m r.1) (p := fun x y => decide (y ≤ x)) (by rw [cn_len, hc])
  refine h.trans ⟨fun h i => ?_, fun h i _ => decide_eq_true (h i)⟩
  by_cases hi : i < c.length
  · exact of_decide_eq_true (h i hi)
  · show fn (cn m r.1) i ≤ fn c i
    rw [fn_z (by rw [cn_len]; omega), fn_z (by omega)]
    exact Int.le_refl _
theorem usab_nil {m : Str} {rs : List Rl} {c : List Int} (hc : c.length = m.length) : usab m rs c = [] ↔ (sysOf m rs).Rest (fn c) := by
  unfold usab
  rw [List.filter_eq_nil_iff]
  constructor
  · intro h r hr u
    obtain ⟨q, hq, rfl⟩ := List.mem_map.mp hr
    exact h q hq ((canUse_iff hc).mpr u)
  · intro h r hr u
    exact h _ (List.mem_map.mpr ⟨r, hr, rfl⟩) ((canUse_iff hc).mp u)
theorem cr_of {m : Str} {rs : List Rl} {c : List Int} (h : OkC m c) : (sysOf m rs).Cr (fn c) := by
  refine ⟨fun i => ?_, fun i hi => fn_z (by rw [h.len]; exact hi)⟩
  by_cases hi : i < c.length
  · exact h.nn _ (fn_mem hi)
  · rw [fn_z (by omega)]
    exact Int.le_refl _
theorem okC_of {m : Str} {rs : List Rl} {c : List Int} (hl : c.length = m.length) (h : (sysOf m rs).Cr (fn c)) : OkC m c := ⟨hl, fun x hx => by
  obtain ⟨i, hi, rfl⟩ := List.mem_iff_getElem.mp hx
  rw [← fn_at hi]
  exact h.nn i⟩
theorem app_beh {m : Str} {c : List Int} (hc : c.length = m.length) (r : Rl) (k : Int) : fn (beh m c r k) = app (ruleOf m r) (fn c) k := by
  funext i
  rw [fn_beh hc]
  rfl
theorem lack_iff {m : Str} {c g : List Int} {r : Rl} (hc : c.length = m.length) (hg : g.length = m.length) : lack m c g r = true ↔ ∃ i, fn c i < (ruleOf m r).need i ∧ fn g i = 0 := by
  unfold lack
  rw [List.any_eq_true]
  constructor
  · rintro ⟨x, hx, h⟩
    obtain ⟨i, hi, rfl⟩ := List.mem_iff_getElem.mp hx
    rw [List.length_zip, List.length_zip, cn_len] at hi
    rw [List.getElem_zip, List.getElem_zip, Bool.and_eq_true] at h
    refine ⟨i, ?_, ?_⟩
    · show fn c i < fn (cn m r.1) i
      rw [fn_at (by omega), fn_at (by rw [cn_len]; omega)]
      exact of_decide_eq_true h.1
    · rw [fn_at (by omega)]
      exact of_decide_eq_true h.2
  · rintro ⟨i, h1, h2⟩
    have h1 : fn c i < fn (cn m r.1) i := h1
    by_cases hi : i < m.length
    · refine ⟨(c[i]'(by omega), (cn m r.1)[i]'(by rw [cn_len]; omega), g[i]'(by omega)), ?_, ?_⟩
      · rw [List.mem_iff_getElem]
        exact ⟨i, by rw [List.length_zip, List.length_zip, cn_len]; omega, by rw [List.getElem_zip, List.getElem_zip]⟩
      · rw [Bool.and_eq_true]
        rw [fn_at (by omega), fn_at (by rw [cn_len]; omega)] at h1
        rw [fn_at (by omega)] at h2
        exact ⟨decide_eq_true h1, decide_eq_true h2⟩
    · rw [fn_z (by omega), fn_z (by rw [cn_len]; omega)] at h1
      omega
theorem stayz_iff {m : Str} {rs : List Rl} {cs : List (List Int)} {g : List Int} (hc : ∀ c ∈ cs, c.length = m.length) (hg : g.length = m.length) : stayz m rs cs g = true ↔ ∀ c ∈ cs, (sysOf m rs).Stays (fn c) (fn g) := by
  unfold stayz
  rw [List.all_eq_true]
  constructor
  · intro h c hcc r hr
    obtain ⟨q, hq, rfl⟩ := List.mem_map.mp hr
    exact (lack_iff (hc c hcc) hg).mp (List.all_eq_true.mp (h c hcc) q hq)
  · intro h c hcc
    exact List.all_eq_true.mpr fun r hr => (lack_iff (hc c hcc) hg).mpr (h c hcc _ (List.mem_map.mpr ⟨r, hr, rfl⟩))
/-! ### all crowds of two or three are among the few -/
theorem mem_texts {m : Str} : ∀ (n : Nat) (w : List Nat), w.length = n → (∀ x ∈ w, x ∈ m.cps.toList) → w.Pairwise (· ≤ ·) → (⟨w.toArray⟩ : Str) ∈ textsT m n
  | 0, w, hl, _, _ => by
    rw [List.length_eq_zero_iff.mp hl]
    exact List.mem_singleton.mpr rfl
  | n + 1, w, hl, hs, hp => by
    have hne : w ≠ [] := fun e => by
      rw [e] at hl
      cases hl
    obtain ⟨u, a, rfl⟩ : ∃ u a, w = u ++ [a] := ⟨w.dropLast, w.getLast hne, (List.dropLast_concat_getLast hne).symm⟩
    obtain ⟨p1, _, p3⟩ := List.pairwise_append.mp hp
    have hul : u.length = n := by
      rw [List.length_append] at hl
      exact Nat.succ.inj hl
    have ih := mem_texts n u hul (fun x hx => hs x (List.mem_append_left _ hx)) p1
    refine List.mem_flatMap.mpr ⟨_, ih, List.mem_map.mpr ⟨a, List.mem_filter.mpr ⟨hs a (List.mem_append_right _ (List.mem_singleton.mpr rfl)), ?_⟩, ?_⟩⟩
    · unfold condT
      show (match u.toArray.toList.getLast? with | none => true | some b => decide (b ≤ a)) = true
      rw [List.toList_toArray]
      cases hg : u.getLast? with
      | none => rfl
      | some b => exact decide_eq_true (p3 b (List.mem_of_getLast? hg) a (List.mem_singleton.mpr rfl))
    · refine str_ext ?_
      rw [str_app]
def wrd : List Nat → List Int → List Nat
  | x :: L, k :: c => List.replicate k.toNat x ++ wrd L c
  | _, _ => []
theorem wrd_mem : ∀ {L : List Nat} {c : List Int} {y : Nat}, y ∈ wrd L c → y ∈ L
  | [], c, y, h => by simp [wrd] at h
  | x :: L, [], y, h => by simp [wrd] at h
  | x :: L, k :: c, y, h => by
    rcases List.mem_append.mp (show y ∈ List.replicate k.toNat x ++ wrd L c from h) with h | h
    · rw [List.eq_of_mem_replicate h]
      exact List.mem_cons_self ..
    · exact List.mem_cons_of_mem _ (wrd_mem h)
theorem wrd_len : ∀ {L : List Nat} {c : List Int}, L.length = c.length → (∀ x ∈ c, 0 ≤ x) → ((wrd L c).length : Int) = c.sum
  | [], [], _, _ => rfl
  | x :: L, k :: c, hl, h => by
    have ih := wrd_len (L := L) (c := c) (by simpa using hl) fun x hx => h x (List.mem_cons_of_mem _ hx)
    have := h k (List.mem_cons_self ..)
    show ((List.replicate k.toNat x ++ wrd L c).length : Int) = _
    rw [List.length_append, List.length_replicate, List.sum_cons]
    omega
theorem wrd_pw : ∀ {L : List Nat} {c : List Int}, L.Pairwise (· < ·) → (wrd L c).Pairwise (· ≤ ·)
  | [], c, _ => by
    have : wrd [] c = [] := by cases c <;> rfl
    rw [this]
    exact .nil
  | x :: L, [], _ => .nil
  | x :: L, k :: c, h => by
    obtain ⟨h1, h2⟩ := List.pairwise_cons.mp h
    show (List.replicate k.toNat x ++ wrd L c).Pairwise (· ≤ ·)
    rw [List.pairwise_append]
    refine ⟨?_, wrd_pw h2, fun a ha b hb => ?_⟩
    · rw [List.pairwise_replicate]
      exact .inr (Nat.le_refl _)
    · rw [List.eq_of_mem_replicate ha]
      exact Nat.le_of_lt (h1 b (wrd_mem hb))
theorem wrd_count : ∀ {L : List Nat} {c : List Int}, L.length = c.length → L.Pairwise (· < ·) → (∀ x ∈ c, 0 ≤ x) → (L.map fun x => (((wrd L c).count x : Nat) : Int)) = c
  | [], [], _, _, _ => rfl
  | x :: L, k :: c, hl, hp, h => by
    obtain ⟨h1, h2⟩ := List.pairwise_cons.mp hp
    have ih := wrd_count (L := L) (c := c) (by simpa using hl) h2 fun x hx => h x (List.mem_cons_of_mem _ hx)
    have h0 := h k (List.mem_cons_self ..)
    have hx : x ∉ wrd L c := fun hm => Nat.lt_irrefl _ (h1 x (wrd_mem hm))
    rw [List.map_cons]
    congr 1
    · show (((List.replicate k.toNat x ++ wrd L c).count x : Nat) : Int) = k
      rw [List.count_append, List.count_replicate_self, List.count_eq_zero_of_not_mem hx]
      omega
    · refine Eq.trans (List.map_congr_left fun y hy => ?_) ih
      show (((List.replicate k.toNat x ++ wrd L c).count y : Nat) : Int) = _
      have : y ∉ List.replicate k.toNat x := fun hm => by
        have := h1 y hy
        rw [List.eq_of_mem_replicate hm] at this
        exact Nat.lt_irrefl _ this
      rw [List.count_append, List.count_eq_zero_of_not_mem this, Nat.zero_add]
theorem few_all {m : Str} (hm : OkM m) {c : List Int} (hc : OkC m c) (n : Nat) (hs : c.sum = (n : Nat)) : c ∈ crowdsT m n := by
  have hl : m.cps.toList.length = c.length := by rw [mlen, hc.len]
  refine List.mem_map.mpr ⟨⟨(wrd m.cps.toList c).toArray⟩, mem_texts n _ ?_ (fun x hx => wrd_mem hx) (wrd_pw hm.asc), ?_⟩
  · have := wrd_len hl hc.nn
    omega
  · unfold cn
    exact wrd_count hl hm.asc hc.nn
/-- a function of the folk, as a list -/
def lst (n : Nat) (g : Vec) : List Int := (List.range n).map g
theorem fn_lst {n : Nat} {g : Vec} (h : ∀ i, n ≤ i → g i = 0) : fn (lst n g) = g := by
  funext i
  unfold lst
  by_cases hi : i < n
  · rw [fn_at (by rw [List.length_map, List.length_range]; exact hi), List.getElem_map, List.getElem_range]
  · rw [fn_z (by rw [List.length_map, List.length_range]; omega), h i (by omega)]
theorem lst_len (n : Nat) (g : Vec) : (lst n g).length = n := by
  unfold lst
  rw [List.length_map, List.length_range]
/-! ### leaps -/
def mnL : List Int → Int
  | [] => 0
  | [x] => x
  | x :: y :: l => if x ≤ mnL (y :: l) then x else mnL (y :: l)
theorem mnL_min : ∀ {l : List Int}, l ≠ [] → IsMin l (mnL l)
  | [], h => absurd rfl h
  | [x], _ => ⟨List.mem_cons_self .., fun y hy => by rw [List.mem_singleton.mp hy]; exact Int.le_refl _⟩
  | x :: z :: l, _ => by
    obtain ⟨h1, h2⟩ := mnL_min (l := z :: l) (by simp)
    unfold mnL
    by_cases h : x ≤ mnL (z :: l)
    · rw [if_pos h]
      exact ⟨List.mem_cons_self .., fun y hy => by
        rcases List.mem_cons.mp hy with rfl | hy
        · exact Int.le_refl _
        · exact Int.le_trans h (h2 y hy)⟩
    · rw [if_neg h]
      exact ⟨List.mem_cons_of_mem _ h1, fun y hy => by
        rcases List.mem_cons.mp hy with rfl | hy
        · omega
        · exact h2 y hy⟩
def timesT (m : Str) (c : List Int) (r : Rl) : Int := 1 + mnL (quots m c r)
def leapsGo (m : Str) (rs : List Rl) : Nat → List (Rl × Int) → List Int → Option (List (Rl × Int) × List Int)
  | 0, _, _ => none
  | f + 1, found, c => match usab m rs c with
    | [] => some (found, c)
    | r :: _ => if 5000 ≤ found.length then none else leapsGo m rs f (found ++ [(r, timesT m c r)]) (beh m c r (timesT m c r))
def leapsOf (m : Str) (rs : List Rl) (c : List Int) : Option (List (Rl × Int) × List Int) := leapsGo m rs 5001 [] c
theorem rch_many {S : Sys} {r : Rule} (h : r ∈ S.rules) : ∀ (k : Nat) (c : Vec), (∀ j : Nat, j < k → Use r (app r c j)) → S.Rch c (app r c k)
  | 0, c, _ => by
    have : app r c ((0 : Nat) : Int) = c := by
      funext i
      unfold app
      simp
    rw [this]
    exact .refl c
  | k + 1, c, hu => by
    have h0 : app r c ((0 : Nat) : Int) = c := by
      funext i
      unfold app
      simp
    have u0 : Use r c := by
      have := hu 0 (by omega)
      rwa [h0] at this
    have hs : ∀ j : Int, app r (app r c 1) j = app r c (j + 1) := fun j => by
      funext i
      unfold app
      rw [Int.add_mul]
      omega
    refine .step h u0 ?_
    have := rch_many h k (app r c 1) fun j hj => by
      rw [hs]
      exact hu (j + 1) (by omega)
    rw [hs] at this
    exact this
section
variable {m : Str} {rs : List Rl} (hd : OkD m rs) {c : List Int} {r : Rl}
include hd
theorem chg_at (i : Nat) : fn (chg m r) i = fn (cn m r.2) i - fn (cn m r.1) i := by
  unfold chg
  exact fn_zip (f := fun x y => y - x) (by rw [cn_len, cn_len]) (by simp) i
theorem quots_mem (hc : c.length = m.length) {x : Int} : x ∈ quots m c r ↔ ∃ i, i < m.length ∧ fn (chg m r) i < 0 ∧ x = (fn c i - fn (cn m r.1) i) / -fn (chg m r) i := by
  unfold quots
  rw [List.mem_map]
  constructor
  · rintro ⟨p, hp, rfl⟩
    obtain ⟨h1, h2⟩ := List.mem_filter.mp hp
    obtain ⟨i, hi, rfl⟩ := List.mem_iff_getElem.mp h1
    rw [List.length_zip, List.length_zip, cn_len, chg_len] at hi
    rw [List.getElem_zip, List.getElem_zip] at h2 ⊢
    refine ⟨i, by omega, ?_, ?_⟩
    · rw [fn_at (by rw [chg_len]; omega)]
      exact of_decide_eq_true h2
    · rw [fn_at (by omega), fn_at (by rw [cn_len]; omega), fn_at (by rw [chg_len]; omega)]
  · rintro ⟨i, hi, h1, rfl⟩
    refine ⟨(c[i]'(by omega), (cn m r.1)[i]'(by rw [cn_len]; omega), (chg m r)[i]'(by rw [chg_len]; omega)), List.mem_filter.mpr ⟨?_, ?_⟩, ?_⟩
    · rw [List.mem_iff_getElem]
      exact ⟨i, by rw [List.length_zip, List.length_zip, cn_len, chg_len]; omega, by rw [List.getElem_zip, List.getElem_zip]⟩
    · rw [fn_at (by rw [chg_len]; omega)] at h1
      exact decide_eq_true h1
    · rw [fn_at (by omega), fn_at (by rw [cn_len]; omega), fn_at (by rw [chg_len]; omega)]
theorem quots_ne (hc : c.length = m.length) (hr : r ∈ rs) : quots m c r ≠ [] := by
  obtain ⟨x, hx, hn⟩ := hd.from_ r hr
  have hxm := (hd.ok.one r hr).sub x hx
  obtain ⟨i, hi, rfl⟩ := List.mem_iff_getElem.mp hxm
  have him : i < m.length := by rw [mlen] at hi; exact hi
  have h1 : 0 < r.1.cps.toList.count m.cps.toList[i] := List.count_pos_iff.mpr hx
  have h2 : r.2.cps.toList.count m.cps.toList[i] = 0 := List.count_eq_zero_of_not_mem fun hz => hn (hd.to_ r hr _ hz)
  have h3 : fn (chg m r) i < 0 := by
    rw [chg_at hd]
    have e1 : fn (cn m r.1) i = _ := fn_cn him
    have e2 : fn (cn m r.2) i = 0 := (fn_cn him).trans (congrArg (fun n : Nat => (n : Int)) h2)
    omega
  intro e
  have := (quots_mem hd hc (r := r)).mpr ⟨i, him, h3, rfl⟩
  rw [e] at this
  cases this
/-- one leap -/
theorem leap_ok (hc : OkC m c) (hr : r ∈ rs) (hu : canUse m c r = true) : 1 ≤ timesT m c r ∧ timesT m c r ≤ 1 + c.sum ∧ (sysOf m rs).Rch (fn c) (fn (beh m c r (timesT m c r))) ∧ (sysOf m rs).wt (fn (beh m c r (timesT m c r))) ≤ (sysOf m rs).wt (fn c) - 1 := by
  have hl := hc.len
  have hmin := mnL_min (quots_ne hd hl hr)
  have hU := (canUse_iff hl).mp hu
  have hmem : ruleOf m r ∈ (sysOf m rs).rules := List.mem_map.mpr ⟨r, hr, rfl⟩
  have hcr : (sysOf m rs).Cr (fn c) := cr_of hc
  have ok := sysOk hd
  have q0 : 0 ≤ mnL (quots m c r) ∧ mnL (quots m c r) ≤ c.sum := by
    obtain ⟨i, hi, h1, h2⟩ := (quots_mem hd hl).mp hmin.1
    rw [h2]
    have hui : fn (cn m r.1) i ≤ fn c i := hU i
    have hn := fn_cn_nn m r.1 i
    refine ⟨Int.ediv_nonneg (by omega) (by omega), ?_⟩
    have h3 : (fn c i - fn (cn m r.1) i) / -fn (chg m r) i ≤ fn c i - fn (cn m r.1) i := Int.ediv_le_self _ (by omega)
    have h4 := le_tot (n := m.length) (g := fn c) hcr.nn hi
    have h5 := tot_fn c
    rw [hl] at h5
    omega
  have hk : timesT m c r = ((1 + (mnL (quots m c r)).toNat : Nat) : Int) := by
    unfold timesT
    omega
  have huse : ∀ j : Nat, j < 1 + (mnL (quots m c r)).toNat → Use (ruleOf m r) (app (ruleOf m r) (fn c) j) := fun j hj i => by
    show fn (cn m r.1) i ≤ fn c i + (j : Int) * (fn (cn m r.2) i - fn (cn m r.1) i)
    rw [← chg_at hd]
    have hui : fn (cn m r.1) i ≤ fn c i := hU i
    by_cases hneg : fn (chg m r) i < 0
    · have him : i < m.length := by
        by_cases z : i < m.length
        · exact z
        · rw [fn_z (by rw [chg_len]; omega)] at hneg
          omega
      have h1 := hmin.2 _ ((quots_mem hd hl (r := r)).mpr ⟨i, him, hneg, rfl⟩)
      have hp : (0 : Int) < -fn (chg m r) i := by omega
      have h2 : (j : Int) ≤ (fn c i - fn (cn m r.1) i) / -fn (chg m r) i := by omega
      have h3 := (Int.le_ediv_iff_mul_le hp).mp h2
      have h4 : (j : Int) * fn (chg m r) i = -((j : Int) * -fn (chg m r) i) := by rw [Int.mul_neg, Int.neg_neg]
      omega
    · have h1 : 0 ≤ (j : Int) * fn (chg m r) i := Int.mul_nonneg (by omega) (by omega)
      omega
  have hR := rch_many hmem (1 + (mnL (quots m c r)).toNat) (fn c) huse
  rw [← hk, ← app_beh hl] at hR
  refine ⟨by unfold timesT; omega, by unfold timesT; omega, hR, ?_⟩
  -- the first of the uses lessens
  have h1 : (sysOf m rs).Rch (app (ruleOf m r) (fn c) 1) (app (ruleOf m r) (app (ruleOf m r) (fn c) 1) ((mnL (quots m c r)).toNat : Nat)) := rch_many hmem _ _ fun j hj => by
    have e : app (ruleOf m r) (app (ruleOf m r) (fn c) 1) (j : Int) = app (ruleOf m r) (fn c) ((j + 1 : Nat) : Int) := by
      funext i
      unfold app
      rw [Int.natCast_add, Int.add_mul]
      omega
    rw [e]
    exact huse (j + 1) (by omega)
  have e : app (ruleOf m r) (app (ruleOf m r) (fn c) 1) ((mnL (quots m c r)).toNat : Nat) = fn (beh m c r (timesT m c r)) := by
    rw [app_beh hl, hk]
    funext i
    unfold app
    rw [Int.natCast_add, Int.add_mul]
    omega
  rw [e] at h1
  have a := wt_rch ok h1
  have b := wt_app ok hmem (c := fn c)
  omega
theorem beh_ok (hc : OkC m c) (hr : r ∈ rs) (hu : canUse m c r = true) : OkC m (beh m c r (timesT m c r)) ∧ (beh m c r (timesT m c r)).sum = c.sum := by
  obtain ⟨_, _, h3, _⟩ := leap_ok hd hc hr hu
  have ok := sysOk hd
  have hl := beh_len hc.len r (timesT m c r)
  refine ⟨okC_of hl ((cr_of hc).rch ok h3), ?_⟩
  have := tot_rch ok h3
  have h1 := tot_fn (beh m c r (timesT m c r))
  have h2 := tot_fn c
  rw [hl] at h1
  rw [hc.len] at h2
  rw [← h1, ← h2]
  exact this
theorem mem_usab {q : Rl} {l : List Rl} (h : usab m rs c = q :: l) : q ∈ rs ∧ canUse m c q = true := by
  have : q ∈ usab m rs c := h ▸ List.mem_cons_self ..
  exact ⟨(List.mem_filter.mp this).1, (List.mem_filter.mp this).2⟩
theorem leapsGo_spec : ∀ (f : Nat) (found : List (Rl × Int)) (c : List Int), OkC m c → ∀ l d, leapsGo m rs f found c = some (l, d) → OkC m d ∧ (sysOf m rs).Rch (fn c) (fn d) ∧ (sysOf m rs).Rest (fn d) ∧ d.sum = c.sum
  | 0, found, c, _, l, d, h => by cases h
  | f + 1, found, c, hc, l, d, h => by
    unfold leapsGo at h
    cases hu : usab m rs c with
    | nil =>
      rw [hu] at h
      obtain ⟨rfl, rfl⟩ := Prod.mk.inj (Option.some.inj h)
      exact ⟨hc, .refl _, (usab_nil hc.len).mp hu, rfl⟩
    | cons r tl =>
      rw [hu] at h
      have h : (if 5000 ≤ found.length then none else leapsGo m rs f (found ++ [(r, timesT m c r)]) (beh m c r (timesT m c r))) = some (l, d) := h
      split at h
      · cases h
      · obtain ⟨h1, h2⟩ := mem_usab hd hu
        obtain ⟨a, b⟩ := beh_ok hd hc h1 h2
        obtain ⟨_, _, h3, _⟩ := leap_ok hd hc h1 h2
        obtain ⟨p1, p2, p3, p4⟩ := leapsGo_spec f _ _ a l d h
        exact ⟨p1, h3.trans p2, p3, p4.trans b⟩
theorem leapsGo_some : ∀ (f : Nat) (found : List (Rl × Int)) (c : List Int), OkC m c → (sysOf m rs).wt (fn c) + found.length ≤ 5000 → 5001 ≤ f + found.length → ∃ l d, leapsGo m rs f found c = some (l, d)
  | 0, found, c, hc, h1, h2 => by
    have := wt_nn (sysOk hd) (cr_of (rs := rs) hc)
    omega
  | f + 1, found, c, hc, h1, h2 => by
    unfold leapsGo
    cases hu : usab m rs c with
    | nil => exact ⟨_, _, rfl⟩
    | cons r tl =>
      obtain ⟨q1, q2⟩ := mem_usab hd hu
      obtain ⟨a, b⟩ := beh_ok hd hc q1 q2
      obtain ⟨_, _, h3, h4⟩ := leap_ok hd hc q1 q2
      have hn := wt_nn (sysOk hd) (cr_of (rs := rs) a)
      show ∃ l d, (if 5000 ≤ found.length then none else leapsGo m rs f (found ++ [(r, timesT m c r)]) (beh m c r (timesT m c r))) = some (l, d)
      rw [if_neg (by omega)]
      refine leapsGo_some f _ _ a ?_ ?_
      · rw [List.length_append]
        show _ + ((found.length + 1 : Nat) : Int) ≤ _
        omega
      · rw [List.length_append]
        show _ ≤ f + (found.length + 1)
        omega
theorem leapsOf_spec (hc : OkC m c) {l : List (Rl × Int)} {d : List Int} (h : leapsOf m rs c = some (l, d)) : OkC m d ∧ (sysOf m rs).Rch (fn c) (fn d) ∧ (sysOf m rs).Rest (fn d) ∧ d.sum = c.sum := leapsGo_spec hd 5001 [] c hc l d h
theorem leapsOf_some (hc : OkC m c) (h : c.sum ≤ 5000) : ∃ l d, leapsOf m rs c = some (l, d) := by
  refine leapsGo_some hd 5001 [] c hc ?_ (by decide)
  have h1 := wt_le_tot (sysOk hd) (cr_of (rs := rs) hc)
  have h2 := tot_fn c
  rw [hc.len] at h2
  have h3 : tot (sysOf m rs).n (fn c) = c.sum := h2
  show _ + ((0 : Nat) : Int) ≤ _
  omega
end
end Mf
set_option maxRecDepth 100000
set_option maxHeartbeats 4000000
/-! Meetfolk: defs that raise. -/
namespace Mf
open PySem L2 PyProof.Rows
variable [Tt] [Xw]
abbrev sTmInit : Stmt := inClass (topS 5) 0
abbrev veMro : List Value := [.type "ValueError", .type "Exception", .type "BaseException", .type "object"]
structure TmAt (P : Program) (K : PySem.W.Frag) (mg : Str → Option Value) (C : Addr) : Prop where
  T : TmC P K C (defArgs sTmInit) (defBody sTmInit) (defScope sTmInit) "__init__" "TooMany.__init__"
  m : mg "TooMany" = some (.ref C)
  sup : mg "super" = none
structure NrAt (K : PySem.W.Frag) (mg : Str → Option Value) (C : Addr) : Prop where
  q : PySem.W.excIn K C veMro "ValueError.__new__" = true
  m : mg "NoRay" = some (.ref C)
  kC : PySem.W.keepIn K (.ref C) = true
  exC : PySem.W.subIn K (.ref C) (.type "BaseException") = some true
  tyC : PySem.W.typeIn K (.ref C) = some (.type "type")
section
variable {X : Cx} {C : Addr} {p pos : Pos} {e : Expr} {te : TE} {k : Nat}
theorem pmk_tooMany (T : TmAt X.prog X.K X.mg C) (hr : Room (k + 1) X.A) (hg : Gl X "TooMany") (he : PE X e te) (hs1 : starEach [e] X.env = (false, eval e X.env) :: starEach [] X.env := by rfl) :
    PMk X (.Call (.Name "TooMany" p) [e] [] pos) (fun σ H Q => tCons te tNil σ H fun vs H1 => ∃ v, vs = [v] ∧ ∀ d, H1 d = none → Q (.ref C) (some d) (upd H1 d (.xd [(("most" : Str), v)]))) :=
  pmk_tm T.T (fun env => ⟨_, rfl⟩) rfl rfl T.sup (fun _ _ _ _ _ _ _ _ _ => rfl) hr hg T.m he (by decide) hs1
theorem pmk_noRay (T : NrAt X.K X.mg C) (hg : Gl X "NoRay") : PMk X (.Call (.Name "NoRay" p) [] [] pos) (fun _ H Q => Q (.ref C) none H) := by
  intro pins s σ H Q I h
  refine wpAny_Call_Name_kw (ld_glob I hg T.m ?_ (by decide))
  refine PySem.W.callWith_K0 I.kIn T.kC ?_
  show wpAny _ _ (call (.ref C) []) _ _ _
  obtain ⟨bm, N, nm, qn, bs, hdct, sn, sub, ab, col, dd, k0, k1, k2, k3, k5, mN, hC, hN, hni, T2⟩ := exc_obj I.kIn T.q
  exact wpAny_call_exc_subT F.excBase_ValueError T2 hC hN hni (fun h' e hm => mk_of I hm (raises_own T.exC T.tyC) h (I.hok.gone hm.new)) (Nat.zero_le _)
end
/-! ### raise, on data -/
section
variable {μ : Mu} {ρ : DEnv} {te : TE} {K : Kt} {u : TS} {C : Addr} {n : Int}
theorem sv_raise0 (k : K.ex μ ⟨C, none⟩) : Sv μ (fun _ _ H => Xw.E (.ref C) none H) ρ K := fun σ F M H rs rm w E tk => tk.ex μ ⟨C, none⟩ F M H none k (Stp.pure rm (Same.refl F) w) rfl
theorem sv_raiseT (h : Ev μ te ρ (.int n)) (k : K.ex μ ⟨C, some ("most", n)⟩) : Sv μ (fun _ σ H => tCons te tNil σ H fun vs H1 => ∃ v, vs = [v] ∧ ∀ d, H1 d = none → Xw.E (.ref C) (some d) (upd H1 d (.xd [(("most" : Str), v)]))) ρ K := fun σ F M H rs rm w E tk =>
  h σ F M H rs rm w _ fun v F1 H1 e1 w1 r1 => by
    cases r1
    refine ⟨_, rfl, fun d hd => ?_⟩
    exact tk.ex μ ⟨C, some ("most", n)⟩ _ M _ (some d) k (Stp.pure rm (e1.trans (w1.newS hd)) (w1.new hd)) ⟨d, rfl, upd_same⟩
end
section
variable {P : Program} {w : World} {K : PySem.W.Frag} {mg : Str → Option Value} {base : Heap}
omit [Xw] in
theorem FunAt.defX {x : Str} {st : Stmt} {N ps : List Str} {k : Nat} {fr : List D → Out → Prop} (F : FunAt K mg x st ps) (S : FnScope N ps (defScope st)) (n : ∀ ds o, fr ds o → ds.length = ps.length)
    (hbody : ∀ (cdv : Value) (A : Around) (outer : List Env) (s : Shared) (H : Hp) (E : XK) (f : Addr), Room k (A.deeper (envOfC x (defScope st) s.heap.objs.size f cdv)) →
      ∃ t, PSs (cxOf (L2.CX P w) P w K mg base N x (defScope st) f cdv A outer s H E) (defBody st) t ∧
        letI : Xw := ⟨E⟩; ∀ ds o, fr ds o → Sv mu0 t (start0 N.length ds) { nx := fun _ _ => o = .val .non, rt := fun _ d' => o = .val d', ex := fun _ x => o = .exc x }) :
    Def P w K mg base (L2.CX P w) x (k + 1) ps [] (spX fr) := by
  obtain ⟨f, fd, F, m, b⟩ := F
  refine ⟨f, fd, [], F.okX S (fun vs H Q E h => ?_) (fun cdv A outer s H vs Q E hr h => ?_), m, F.kp, b, .nil⟩
  · obtain ⟨F1, M1, ds, o, _, r, hf, _⟩ := h
    rw [← r.len]
    exact n ds o hf
  · obtain ⟨t, ht, hq⟩ := hbody cdv A outer s H E f hr
    exact ⟨t, ht, run_svX h hq⟩
end
end Mf
set_option maxRecDepth 100000
set_option maxHeartbeats 4000000
/-! Meetfolk, plain: what a crowd comes to; folk with one end. -/
namespace Mf
open PySem L2 Sy
variable [Tt] [Xw]
abbrev Cwd := List Int
def meetR (m : Str) (one : Cwd) (s : List Cwd × List Cwd) (r : Rl) : List Cwd × List Cwd := if beh m one r 1 ∈ s.1 then s else (s.1 ++ [beh m one r 1], s.2 ++ [beh m one r 1])
def comeGo (m : Str) (rs : List Rl) : Nat → List Cwd → List Cwd → List Cwd
  | 0, found, _ => found
  | f + 1, found, here => match here.getLast? with
    | none => found
    | some one => comeGo m rs f ((usab m rs one).foldl (meetR m one) (found, here.dropLast)).1 ((usab m rs one).foldl (meetR m one) (found, here.dropLast)).2
def comeT (m : Str) (rs : List Rl) (c : Cwd) : List Cwd := comeGo m rs 1000 [c] [c]
def endsL (m : Str) (rs : List Rl) (c : Cwd) : List Cwd := (comeT m rs c).filter fun x => (usab m rs x).isEmpty
def few_ (m : Str) : List Cwd := crowdsT m 2 ++ crowdsT m 3
def partG (m : Str) (rs : List Rl) : Option Cwd := (few_ m).find? fun c => decide (1 < (endsL m rs c).length)
theorem pigeon {α : Type} [DecidableEq α] : ∀ (l k : List α), l.Nodup → (∀ x ∈ l, x ∈ k) → l.length ≤ k.length
  | [], _, _, _ => Nat.zero_le _
  | x :: l, k, hn, h => by
    obtain ⟨h1, h2⟩ := List.nodup_cons.mp hn
    have hx := h x (List.mem_cons_self ..)
    have := pigeon l (k.erase x) h2 fun y hy => by
      have hne : y ≠ x := fun e => h1 (e ▸ hy)
      exact (List.mem_erase_of_ne hne).mpr (h y (List.mem_cons_of_mem _ hy))
    rw [List.length_erase_of_mem hx] at this
    have : 0 < k.length := List.length_pos_of_mem hx
    rw [List.length_cons]
    omega
/-- where come_to stands; one: the crowd whose rules are gone through, done: those of them that are -/
structure CJ (m : Str) (rs : List Rl) (c : Cwd) (one : Cwd) (done : List Rl) (s : List Cwd × List Cwd) : Prop where
  nd : s.1.Nodup
  sub : ∀ x ∈ s.2, x ∈ s.1
  ok : ∀ x ∈ s.1, OkC m x ∧ x.sum = c.sum ∧ (sysOf m rs).Rch (fn c) (fn x)
  cl : ∀ x ∈ s.1, x ∉ s.2 → x ≠ one → ∀ r ∈ usab m rs x, beh m x r 1 ∈ s.1
  one_ : ∀ r ∈ done, beh m one r 1 ∈ s.1
  mem : one ∈ s.1
  c0 : c ∈ s.1
structure CI (m : Str) (rs : List Rl) (c : Cwd) (s : List Cwd × List Cwd) : Prop where
  nd : s.1.Nodup
  sub : ∀ x ∈ s.2, x ∈ s.1
  ok : ∀ x ∈ s.1, OkC m x ∧ x.sum = c.sum ∧ (sysOf m rs).Rch (fn c) (fn x)
  cl : ∀ x ∈ s.1, x ∉ s.2 → ∀ r ∈ usab m rs x, beh m x r 1 ∈ s.1
  c0 : c ∈ s.1
section
variable {m : Str} {rs : List Rl} (hd : OkD m rs) {c one : Cwd} {done : List Rl} {s : List Cwd × List Cwd} {r : Rl}
include hd
theorem beh1_ok {x : Cwd} (hx : OkC m x) (hr : r ∈ rs) (hu : canUse m x r = true) : OkC m (beh m x r 1) ∧ (beh m x r 1).sum = x.sum ∧ (sysOf m rs).Rch (fn x) (fn (beh m x r 1)) := by
  have ok := sysOk hd
  have hmem : ruleOf m r ∈ (sysOf m rs).rules := List.mem_map.mpr ⟨r, hr, rfl⟩
  have hU := (canUse_iff hx.len).mp hu
  have hl := beh_len hx.len r 1
  have e := app_beh hx.len r 1
  have hcr := (cr_of (rs := rs) hx).app ok hmem hU
  rw [← e] at hcr
  refine ⟨okC_of hl hcr, ?_, .step hmem hU (by rw [e]; exact .refl _)⟩
  have h1 := tot_fn (beh m x r 1)
  have h2 := tot_fn x
  rw [hl] at h1
  rw [hx.len] at h2
  rw [← h1, ← h2, e]
  exact tot_app ok hmem
theorem CI.start (hc : OkC m c) : CI m rs c ([c], [c]) := by
  refine ⟨List.nodup_cons.mpr ⟨by simp, List.nodup_nil⟩, fun x hx => hx, fun x hx => ?_, fun x hx hn => absurd hx hn, List.mem_singleton.mpr rfl⟩
  rw [List.mem_singleton.mp hx]
  exact ⟨hc, rfl, .refl _⟩
theorem CI.pop (h : CI m rs c s) (e : s.2.getLast? = some one) : CJ m rs c one [] (s.1, s.2.dropLast) := by
  have hne : s.2 ≠ [] := fun z => by
    rw [z] at e
    cases e
  have hs : s.2 = s.2.dropLast ++ [one] := by
    have h1 := (List.dropLast_concat_getLast hne).symm
    have h2 : s.2.getLast hne = one := by
      rw [List.getLast?_eq_some_getLast hne] at e
      exact Option.some.inj e
    rw [h2] at h1
    exact h1
  have hm : one ∈ s.2 := by
    rw [hs]
    exact List.mem_append_right _ (List.mem_singleton.mpr rfl)
  refine ⟨h.nd, fun x hx => h.sub x (List.dropLast_subset _ hx), h.ok, fun x hx hn ho => h.cl x hx fun hz => ?_, fun r hr => (by cases hr), h.sub _ hm, h.c0⟩
  rw [hs] at hz
  rcases List.mem_append.mp hz with z | z
  · exact hn z
  · exact ho (List.mem_singleton.mp z)
theorem CJ.meet (h : CJ m rs c one done s) (hr : r ∈ rs) (hu : canUse m one r = true) : CJ m rs c one (done ++ [r]) (meetR m one s r) := by
  obtain ⟨o1, o2, o3⟩ := h.ok one h.mem
  obtain ⟨b1, b2, b3⟩ := beh1_ok hd o1 hr hu
  unfold meetR
  by_cases hm : beh m one r 1 ∈ s.1
  · rw [if_pos hm]
    refine ⟨h.nd, h.sub, h.ok, h.cl, fun q hq => ?_, h.mem, h.c0⟩
    rcases List.mem_append.mp hq with z | z
    · exact h.one_ q z
    · rw [List.mem_singleton.mp z]
      exact hm
  · rw [if_neg hm]
    refine ⟨?_, fun x hx => ?_, fun x hx => ?_, fun x hx hn ho q hq => ?_, fun q hq => ?_, List.mem_append_left _ h.mem, List.mem_append_left _ h.c0⟩
    · rw [List.nodup_append]
      refine ⟨h.nd, List.nodup_cons.mpr ⟨by simp, List.nodup_nil⟩, fun a ha b hb => ?_⟩
      rw [List.mem_singleton.mp hb]
      exact fun e => hm (e ▸ ha)
    · rcases List.mem_append.mp hx with z | z
      · exact List.mem_append_left _ (h.sub x z)
      · exact List.mem_append_right _ z
    · rcases List.mem_append.mp hx with z | z
      · exact h.ok x z
      · rw [List.mem_singleton.mp z]
        exact ⟨b1, b2.trans o2, o3.trans b3⟩
    · rcases List.mem_append.mp hx with z | z
      · exact List.mem_append_left _ (h.cl x z (fun y => hn (List.mem_append_left _ y)) ho q hq)
      · exact absurd (List.mem_append_right _ z) hn
    · rcases List.mem_append.mp hq with z | z
      · exact List.mem_append_left _ (h.one_ q z)
      · rw [List.mem_singleton.mp z]
        exact List.mem_append_right _ (List.mem_singleton.mpr rfl)
theorem CJ.done_ (h : CJ m rs c one (usab m rs one) s) : CI m rs c s := ⟨h.nd, h.sub, h.ok, fun x hx hn r hr => by
  by_cases e : x = one
  · rw [e] at hr ⊢
    exact h.one_ r hr
  · exact h.cl x hx hn e r hr, h.c0⟩
/-- no more are found than there are -/
theorem found_le {l : List Cwd} (hnd : l.Nodup) (hok : ∀ x ∈ l, OkC m x ∧ x.sum = c.sum) (hs : c.sum = 2 ∨ c.sum = 3) : l.length ≤ 216 := by
  have hm := hd.ok.moods
  have key : ∀ n : Nat, n ≤ 3 → c.sum = (n : Nat) → l.length ≤ 216 := fun n hn hc => by
    have h1 := pigeon l (crowdsT m n) hnd fun x hx => few_all hm (hok x hx).1 n ((hok x hx).2.trans hc)
    have h2 := textsT_len hm.l6 n
    have h3 : (crowdsT m n).length = (textsT m n).length := List.length_map _
    have h4 : 6 ^ n ≤ 216 := Nat.le_trans (Nat.pow_le_pow_right (by decide) hn) (by decide)
    omega
  rcases hs with h | h
  · exact key 2 (by decide) h
  · exact key 3 (by decide) h
theorem meet_len (s : List Cwd × List Cwd) (r : Rl) : (meetR m one s r).1.length + s.2.length = s.1.length + (meetR m one s r).2.length := by
  unfold meetR
  split
  · rfl
  · show (s.1 ++ [_]).length + _ = _ + (s.2 ++ [_]).length
    rw [List.length_append, List.length_append]
    show s.1.length + 1 + s.2.length = s.1.length + (s.2.length + 1)
    omega
theorem meets_len : ∀ (l : List Rl) (s : List Cwd × List Cwd), (l.foldl (meetR m one) s).1.length + s.2.length = s.1.length + (l.foldl (meetR m one) s).2.length ∧ s.1.length ≤ (l.foldl (meetR m one) s).1.length
  | [], s => ⟨rfl, Nat.le_refl _⟩
  | r :: l, s => by
    rw [List.foldl_cons]
    obtain ⟨a, b⟩ := meets_len l (meetR m one s r)
    have h := meet_len hd (one := one) s r
    have h2 : s.1.length ≤ (meetR m one s r).1.length := by
      unfold meetR
      split
      · exact Nat.le_refl _
      · show _ ≤ (s.1 ++ [_]).length
        rw [List.length_append]
        omega
    exact ⟨by omega, by omega⟩
theorem CJ.fold : ∀ (l done : List Rl) (s : List Cwd × List Cwd), CJ m rs c one done s → (∀ r ∈ l, r ∈ usab m rs one) → CJ m rs c one (done ++ l) (l.foldl (meetR m one) s)
  | [], done, s, h, _ => by
    rw [List.append_nil]
    exact h
  | r :: l, done, s, h, hl => by
    have hr := hl r (List.mem_cons_self ..)
    have h1 := h.meet hd (List.mem_filter.mp hr).1 (List.mem_filter.mp hr).2
    have := CJ.fold l (done ++ [r]) _ h1 fun q hq => hl q (List.mem_cons_of_mem _ hq)
    rw [List.append_assoc] at this
    exact this
theorem comeGo_ci : ∀ (f : Nat) (s : List Cwd × List Cwd), CI m rs c s → (c.sum = 2 ∨ c.sum = 3) → 2 * (216 - s.1.length) + s.2.length ≤ f → CI m rs c (comeGo m rs f s.1 s.2, [])
  | 0, s, h, hs, hf => by
    have : s.2 = [] := List.length_eq_zero_iff.mp (by omega)
    have e : s = (s.1, []) := by rw [← this]
    rw [e] at h
    exact h
  | f + 1, s, h, hs, hf => by
    unfold comeGo
    cases hg : s.2.getLast? with
    | none =>
      have : s.2 = [] := List.getLast?_eq_none_iff.mp hg
      have e : s = (s.1, []) := by rw [← this]
      rw [e] at h
      exact h
    | some one =>
      have hne : s.2 ≠ [] := fun z => by
        rw [z] at hg
        cases hg
      have hpos := List.length_pos_iff.mpr hne
      have h1 := (h.pop hd hg).fold hd (usab m rs one) [] _ (fun r hr => hr)
      have h2 := CJ.done_ hd h1
      obtain ⟨a, b⟩ := meets_len hd (one := one) (usab m rs one) (s.1, s.2.dropLast)
      have hl := found_le hd h2.nd (fun x hx => ⟨(h2.ok x hx).1, (h2.ok x hx).2.1⟩) hs
      have hdl : s.2.dropLast.length = s.2.length - 1 := List.length_dropLast
      have a : ((usab m rs one).foldl (meetR m one) (s.1, s.2.dropLast)).1.length + s.2.dropLast.length = s.1.length + ((usab m rs one).foldl (meetR m one) (s.1, s.2.dropLast)).2.length := a
      have b : s.1.length ≤ ((usab m rs one).foldl (meetR m one) (s.1, s.2.dropLast)).1.length := b
      exact comeGo_ci f _ h2 hs (by omega)
theorem come_ci (hc : OkC m c) (hs : c.sum = 2 ∨ c.sum = 3) : CI m rs c (comeT m rs c, []) := comeGo_ci hd 1000 ([c], [c]) (CI.start hd hc) hs (by show 2 * (216 - 1) + 1 ≤ 1000; decide)
theorem come_all {l : List Cwd} (h : CI m rs c (l, [])) {a d : Vec} (t : (sysOf m rs).Rch a d) : ∀ x ∈ l, fn x = a → ∃ y ∈ l, fn y = d := by
  induction t with
  | refl a => exact fun x hx e => ⟨x, hx, e⟩
  | @step a d r hr u t ih =>
    intro x hx e
    subst e
    obtain ⟨q, hq, rfl⟩ := List.mem_map.mp hr
    obtain ⟨o1, _, _⟩ := h.ok x hx
    have hu : q ∈ usab m rs x := List.mem_filter.mpr ⟨hq, (canUse_iff o1.len).mpr u⟩
    exact ih _ (h.cl x hx (by simp) q hu) (app_beh o1.len q 1)
theorem ends_one (hc : OkC m c) (hs : c.sum = 2 ∨ c.sum = 3) (h1 : (endsL m rs c).length ≤ 1) {d d' : Vec} (a : (sysOf m rs).Rch (fn c) d) (b : (sysOf m rs).Rest d) (a' : (sysOf m rs).Rch (fn c) d') (b' : (sysOf m rs).Rest d') : d = d' := by
  have ci := come_ci hd hc hs
  obtain ⟨y, hy, rfl⟩ := come_all hd ci a c ci.c0 rfl
  obtain ⟨y', hy', rfl⟩ := come_all hd ci a' c ci.c0 rfl
  have mem : ∀ z ∈ comeT m rs c, (sysOf m rs).Rest (fn z) → z ∈ endsL m rs c := fun z hz hr => List.mem_filter.mpr ⟨hz, by
    rw [(usab_nil (ci.ok z hz).1.len).mpr hr]
    rfl⟩
  have m1 := mem y hy b
  have m2 := mem y' hy' b'
  generalize endsL m rs c = L at h1 m1 m2
  cases L with
  | nil => cases m1
  | cons z L =>
    have : L = [] := by
      cases L with
      | nil => rfl
      | cons _ _ => simp at h1
    subst this
    rw [List.mem_singleton.mp m1, List.mem_singleton.mp m2]
theorem small_of (h : partG m rs = none) : (sysOf m rs).Small := by
  intro c d d' hc ht a b a' b'
  have hz : ∀ i, m.length ≤ i → c i = 0 := hc.z
  have e := fn_lst hz
  have hl := lst_len m.length c
  have hok : OkC m (lst m.length c) := okC_of (rs := rs) hl (by rw [e]; exact hc)
  have hsum : (lst m.length c).sum = tot m.length c := rfl
  have hs : (lst m.length c).sum = 2 ∨ (lst m.length c).sum = 3 := by
    rw [hsum]
    exact ht
  have hm : lst m.length c ∈ few_ m := by
    rcases hs with h | h
    · exact List.mem_append_left _ (few_all hd.ok.moods hok 2 h)
    · exact List.mem_append_right _ (few_all hd.ok.moods hok 3 h)
  have h1 := List.find?_eq_none.mp h _ hm
  rw [← e] at a a'
  exact ends_one hd hok hs (by
    have : ¬ 1 < (endsL m rs (lst m.length c)).length := by simpa using h1
    omega) a b a' b'
end
end Mf
set_option maxRecDepth 100000
set_option maxHeartbeats 4000000
/-! Meetfolk: a dict whose keys are crowds; list.pop. -/
namespace Mf
open PySem L2 PyProof.Rows PySem.Spec
variable [Tt] [Xw]
/-- {k: v} with a tuple for a key -/
def tDisp1 (tk tv : TE) : TE := fun σ H Q => ∀ p, H p = none → tk σ (upd H p (.dT [])) fun x H1 => tv σ H1 fun y H2 => ∃ x' y', [(x, y)] = [(x', y')] ∧ H2 p = some (.dT []) ∧ ∃ (b : Addr) (ks : List L2.Key), x' = .ref b ∧ H2 b = some (.tup (ks.map kV)) ∧ Q (.ref p) (upd H2 p (.dT [(ks, y')]))
section
variable {X : Cx} {k v : Expr} {tk tv : TE} {pos : Pos}
theorem pe_disp1 (hu : X.A.units < cLine) (hk : PE X k tk) (hv : PE X v tv) : PE X (.Dict [some k] [v] pos) (tDisp1 tk tv) := by
  refine ⟨fun pins s σ H Q I q => ?_⟩
  have hn := I.hok.fresh (Nat.le_refl s.heap.objs.size)
  have I1 := I.laid (a := s.heap.objs.size) (o := .dT []) (h' := s.heap.push { cls := .type "dict", data := .dict #[] }) (t' := s.toks) (fun _ _ q => Heap.get?_push_of_some _ q) (Nat.le_refl _) (dt_empty s.heap I.big)
  rw [arm_eval_Dict]
  have hsh : (evalEachOpt [some k] X.env).zip ((evalEach [v] X.env).map fun v => do let x ← v; standAt pos; pure x) = (pairTrees [some k] [v] X.env pos).map fun p => (some p.1, p.2) := zip_pairTrees [some k] [v] X.env pos rfl rfl
  have hpl : (pairTrees [some k] [v] X.env pos).length = 1 := pairTrees_length [some k] [v] X.env pos rfl rfl
  have hne : pairTrees [some k] [v] X.env pos ≠ [] := fun e => by
    rw [e] at hpl
    cases hpl
  rw [hsh, dictDisplay_pairs _ hne (by omega)]
  refine wpAny_bind (wpAny_standAt (wpAny_bind ?_))
  refine wpAny_subDictH (knd := tupleKind (mixKind X.prog X.w)) (Q := fun d s' => wpAny (model X.prog X.w) X.A (pure (Value.ref d)) (EP X pins σ Q) X.xe s') hu (by omega) ?_
  refine thn ((pps_cons hk hv pps_nil).run pins _ σ _ (fun ps H2 => ∃ x y, ps = [(x, y)] ∧ H2 s.heap.objs.size = some (.dT []) ∧ ∃ (b : Addr) (ks : List L2.Key), x = .ref b ∧ H2 b = some (.tup (ks.map kV)) ∧ Q (.ref s.heap.objs.size) (upd H2 s.heap.objs.size (.dT [(ks, y)]))) I1 ?_) fun ws s2 ⟨ps, H2, I2, rel, x, y, ep, e, b, ks, ex, eb, q2⟩ => ?_
  · exact q _ hn
  subst ep
  subst ex
  cases rel with
  | @cons _ w0 _ wr h0 ht =>
    cases ht
    obtain ⟨r1, r2⟩ := h0
    have hw : w0.1 = Value.ref b := r1
    obtain ⟨w1, w2⟩ := w0
    dsimp only at hw r2
    subst hw
    obtain ⟨z, hd, xs, rel0, dd⟩ := dt_of I2.hok e
    cases rel0
    refine ⟨[(ks, b, w2)], ⟨rfl, rfl, key_of I2.hok eb, trivial⟩, dd, fun h' tk dd' hs => wpAny_pure ⟨.ref s.heap.objs.size, _, ?_, rfl, q2⟩⟩
    obtain ⟨q, es, ep, hq, h2, h3, h4, _, h5⟩ := dd'
    refine d_write (t' := tk) I2 (by rw [e]; exact True.intro) hs ⟨q, hq⟩ ⟨by show 1 ≤ sizeLine; decide, hd, [(ks, b, w2)], .cons ⟨rfl, ?_, r2⟩ .nil, q, es, ep, hq, h2, h3, h4, h5⟩
    show upd H2 s.heap.objs.size (.dT [(ks, y)]) b = some (.tup (ks.map kV))
    rw [upd_ne fun z => by
      rw [z, e] at eb
      cases eb]
    exact eb
end
/-! ### on data -/
abbrev inl (k : List Int) : List L2.Key := k.map Sum.inl
theorem kV_inl (k : List Int) : (inl k).map kV = k.map V.int := by
  unfold inl
  rw [List.map_map]
  rfl
theorem inl_inj {a b : List Int} (h : inl a = inl b) : a = b := (List.map_inj_right (fun x y e => Sum.inl.inj e)).mp h
abbrev kvsOf (ks : List (List Int)) : List (List L2.Key × V) := ks.map fun k => (inl k, V.bl true)
theorem valV_of (c : List Int) : ∀ ks : List (List Int), (valV (kvsOf ks) (inl c)).isSome = decide (c ∈ ks)
  | [] => rfl
  | k :: ks => by
    by_cases e : k = c
    · subst e
      show (valV ((inl k, V.bl true) :: kvsOf ks) (inl k)).isSome = _
      rw [valV_pos rfl]
      simp
    · show (valV ((inl k, V.bl true) :: kvsOf ks) (inl c)).isSome = _
      rw [valV_neg fun z => e (inl_inj z), valV_of c ks]
      have : c ≠ k := fun z => e z.symm
      simp [this]
theorem put_of {c : List Int} {ks : List (List Int)} (h : c ∉ ks) : putK (kvsOf ks) (inl c) (V.bl true) = kvsOf (ks ++ [c]) := by
  rw [putK_new]
  · show _ = (ks ++ [c]).map _
    rw [List.map_append]
    rfl
  · have := valV_of c ks
    rw [decide_eq_false h] at this
    cases e : valV (kvsOf ks) (inl c) with
    | none => rfl
    | some v =>
      rw [e] at this
      cases this
theorem RepM.d {F M : Hp} {μ : Mu} (r : RepM F M μ) {p : Addr} {ks : List (List Int)} (h : μ p = some (.d ks)) : M p = some (.dT (kvsOf ks)) := by
  obtain ⟨o, h1, h2⟩ := r p _ h
  rw [h1]
  exact congrArg some h2
section
variable {μ : Mu} {ρ : DEnv} {ta tb te : TE} {K : Kt} {u : TS} {Kf : PySem.W.Frag} {p : Addr} {ks : List (List Int)} {c : List Int} {l : List D} {d : D} {i : Nat}
theorem rep_crowd {F : Hp} {v : V} (r : Rep F (eCrowd c) v) : ∃ a, v = .ref a ∧ F a = some (.tup ((inl c).map kV)) := by
  cases r with
  | tup h1 t1 =>
    rw [kV_inl, ← t1.ints]
    exact ⟨_, rfl, h1⟩
theorem ev_notinD (ha : Ev μ ta ρ (eCrowd c)) (hb : Ev μ tb ρ (.ref p)) (hm : μ p = some (.d ks)) : Ev μ (tDNotIn ta tb) ρ (.bl (!decide (c ∈ ks))) := fun σ F M H rs rm w Q q =>
  ha σ F M H rs rm w _ fun v F1 H1 e1 w1 r1 => hb σ F1 M H1 (rs.mono e1) (rm.mono e1) w1 _ fun v' F2 H2 e2 w2 r2 => by
    cases r2
    obtain ⟨a, rfl, h1⟩ := rep_crowd r1
    refine ⟨p, valV (kvsOf ks) (inl c), rfl, DGet.t (w2.m _ _ (rm.d hm)) (w2.f _ _ (e2 _ _ h1)), ?_⟩
    rw [valV_of]
    exact q _ F2 H2 (e1.trans e2) w2 (.bl _)
/-- d[c] = True -/
theorem q_dput (hv : Ev μ te ρ (.bl true)) (ho : Ev μ tb ρ (.ref p)) (hi : Ev μ ta ρ (eCrowd c)) (hm : μ p = some (.d ks)) (hn : c ∉ ks) (hl : ks.length < 100000) (k : Sv (mput μ p (.d (ks ++ [c]))) u ρ K) : Sv μ (tSeq (sDPut tb ta te) u) ρ K := fun σ F M H rs rm w E tk =>
  hv σ F M H rs rm w _ fun x F1 H1 e1 w1 r1 => ho σ F1 M H1 (rs.mono e1) (rm.mono e1) w1 _ fun o F2 H2 e2 w2 r2 => by
    cases r1
    cases r2
    refine hi σ F2 M H2 (rs.mono (e1.trans e2)) (rm.mono (e1.trans e2)) w2 _ fun y F3 H3 e3 w3 r3 => ?_
    obtain ⟨a, rfl, h1⟩ := rep_crowd r3
    have e13 := (e1.trans e2).trans e3
    have hM := rm.d hm
    have s : Stp F M μ F3 (upd M p (.dT (kvsOf (ks ++ [c])))) (upd H3 p (.dT (kvsOf (ks ++ [c])))) (mput μ p (.d (ks ++ [c]))) := ⟨e13, w3.write hM, rm.put e13 rfl, fun a o h1 h3 => by
      have q : a ≠ p := fun e => by
        rw [e, hm] at h3
        cases h3
      rw [upd_ne q, mput_ne q]
      exact ⟨h1, h3⟩⟩
    refine ⟨p, upd H3 p (.dT (kvsOf (ks ++ [c]))), rfl, ?_, k σ F3 _ _ (rs.mono e13) s.rm s.wd E (tk.step s)⟩
    rw [← put_of hn]
    refine DPut.t (w3.m _ _ hM) (w3.f _ _ h1) ?_
    rw [List.length_map]
    exact Nat.lt_of_lt_of_le hl (by decide)
/-- found, here = ({c: True}, [c]) -/
theorem q_dnew2 {tr : TA} {j : Nat} {ds : List D} (hc : Ev μ ta ρ (eCrowd c)) (hv : Ev μ te ρ (.bl true)) (hl : ∀ μ, EvA μ tr ρ ds) (hz : ds.length ≤ 100000) (k : ∀ p p2, μ p = none → p2 ≠ p → μ p2 = none → Sv (mset (mput μ p (.d [c])) p2 ds) u ((ρ.set i (some (.ref p))).set j (some (.ref p2))) K) :
    Sv μ (tSeq (tPar i j (tCons (tDisp1 ta te) (tCons (tLst tr) tNil))) u) ρ K := fun σ F M H rs rm w E tk => by
  intro p hp
  have hM := w.freeM hp
  have w0 : Wd F (upd M p (.dT [])) (upd H p (.dT [])) := w.newM hp
  refine hc σ F _ _ rs (rm.newM hM) w0 _ fun x F1 H1 e1 w1 r1 => hv σ F1 _ H1 (rs.mono e1) ((rm.mono e1).newM hM) w1 _ fun y F2 H2 e2 w2 r2 => ?_
  cases r2
  obtain ⟨a, rfl, h1⟩ := rep_crowd r1
  refine ⟨_, _, rfl, w2.m _ _ upd_same, a, inl c, rfl, w2.f _ _ (e2 _ _ h1), ?_⟩
  have hm := rm.none_of hM
  have e12 := e1.trans e2
  have s : Stp F M μ F2 (upd M p (.dT (kvsOf [c]))) (upd H2 p (.dT (kvsOf [c]))) (mput μ p (.d [c])) := ⟨e12, by
    have := w2.write (p := p) (o := .dT (kvsOf [c])) upd_same
    rw [upd_upd] at this
    exact this, rm.put e12 rfl, fun a o h1 h3 => by
    have q : a ≠ p := ne_of_none h1 hM
    rw [upd_ne q, mput_ne q]
    exact ⟨h1, h3⟩⟩
  refine hl _ σ F2 _ _ (rs.mono e12) s.rm s.wd _ fun vs F3 H3 e3 w3 r3 => ⟨Nat.le_trans (by rw [← r3.len]; exact hz) (by decide), fun p2 hp2 => ?_⟩
  have hM2 := w3.freeM hp2
  have hne : p2 ≠ p := fun e => by
    rw [e, upd_same] at hM2
    cases hM2
  have hM3 : M p2 = none := by
    rw [upd_ne hne] at hM2
    exact hM2
  have e13 := e12.trans e3
  have s2 : Stp F M μ F3 (upd (upd M p (.dT (kvsOf [c]))) p2 (.lst vs)) (upd H3 p2 (.lst vs)) (mset (mput μ p (.d [c])) p2 ds) := ⟨e13, w3.newM hp2, (s.rm.mono e3).put (Same.refl F3) ⟨vs, rfl, r3⟩, fun a o h1 h3 => by
    have q : a ≠ p := ne_of_none h1 hM
    have q2 : a ≠ p2 := ne_of_none h1 hM3
    rw [upd_ne q2, upd_ne q, mset_ne q2, mput_ne q]
    exact ⟨h1, h3⟩⟩
  exact ⟨_, _, rfl, k p p2 hm hne (rm.none_of hM3) _ F3 _ _ (((rs.mono e13).set i (.ref p)).set j (.ref p2)) s2.rm s2.wd E (tk.step s2)⟩
/-- x = l.pop() -/
theorem q_pop (ho : Ev μ ta ρ (.ref p)) (hm : μ p = some (.l (l ++ [d]))) (k : Sv (mset μ p l) u (ρ.set i (some d)) K) : Sv μ (tSeq (tAsg (tBM0 Kf "list" rPop ta) (gName i)) u) ρ K := fun σ F M H rs rm w E tk =>
  ho σ F M H rs rm w _ fun x F1 H1 e1 w1 r1 => by
    cases r1
    obtain ⟨xs, h1, h3⟩ := rm.l hm
    refine ⟨Or.inl ⟨rfl, xs, Or.inl (Or.inl (w1.m _ _ h1))⟩, ?_⟩
    have hlen := h3.len
    rw [List.length_append] at hlen
    have hlen : l.length + 1 = xs.length := hlen
    obtain ⟨v, hv, rv⟩ := h3.get (i := l.length) (d := d) (by simp)
    have hx : xs = xs.dropLast ++ [v] := by
      have hne : xs ≠ [] := fun e => by
        rw [e] at hlen
        simp at hlen
      have e1 := (List.dropLast_concat_getLast hne).symm
      have e2 : xs.getLast hne = v := by
        rw [List.getLast_eq_getElem]
        have := (List.getElem?_eq_some_iff.mp hv).2
        have e3 : xs.length - 1 = l.length := by omega
        simp only [e3]
        exact this
      rw [e2] at e1
      exact e1
    have r0 : RepL F l xs.dropLast := by
      have := h3.take l.length
      rw [List.take_left' rfl] at this
      have e2 : xs.take l.length = xs.dropLast := by
        rw [List.dropLast_eq_take]
        congr 1
        omega
      rw [e2] at this
      exact this
    have s : Stp F M μ F1 (upd M p (.lst xs.dropLast)) (upd H1 p (.lst xs.dropLast)) (mset μ p l) := (Stp.pure rm e1 w1).trans (stp_write (rm.mono e1) w1 hm h1 (r0.mono e1))
    refine ⟨p, xs, v, rfl, rfl, w1.m _ _ h1, ?_, k _ F1 _ _ ((rs.mono e1).set i (rv.mono e1)) s.rm s.wd E (tk.step s)⟩
    have e3 : xs.length - 1 = l.length := by omega
    rw [e3]
    exact hv
/-- a list of ours beside the empty one -/
theorem rd_neNilM (hm : μ p = some (.l l)) (hl : pls 8 l = true) : RD μ (rNeD Kf) (.ref p) (.lst []) (.bl (!l.isEmpty)) := fun F M H v w r1 r2 rm wd Q q => by
  cases r1
  obtain ⟨xs, h1, h3⟩ := rm.l hm
  have hp : pl 9 (.lst l) = true := by
    show (decide (1 ≤ 9) && pls 8 l) = true
    rw [hl]
    rfl
  refine ⟨toP (.lst l), toP (.lst []), .lst (Or.inl (Or.inl (wd.m _ _ h1))) (repL_dp wd l _ 8 hl h3), rep_dp wd _ _ 9 rfl r2, pl_shaped hp, pl_shaped rfl, ?_⟩
  have e := eqv_iff (.lst l) (.lst []) 9 9 hp rfl
  have eb : PyData.eqv (toP (.lst l)) (toP (.lst [])) = l.isEmpty := by
    cases hb : PyData.eqv (toP (.lst l)) (toP (.lst [])) with
    | true =>
      have := D.lst.inj (e.mp hb)
      rw [this]
      rfl
    | false =>
      cases l with
      | nil =>
        rw [e.mpr rfl] at hb
        cases hb
      | cons x l => rfl
  rw [eb]
  exact q _ F H (Same.refl F) wd (.bl _)
/-- list(d) -/
def rListD : List V → Hp → VK → Prop := fun xs H Q => ∃ d kvs, xs = [V.ref d] ∧ Rd H d (.dT kvs) ∧ ∀ p bs, H p = none → IsKeys H kvs bs → Q (.ref p) (upd H p (.lst (bs.map V.ref)))
theorem call_listD {X : Cx} (hc : X.calm = true) : CallR X (.type "list") rListD := call_list_dT hc
theorem adopt_all : ∀ {ks : List (List Int)} {bs : List Addr} {F M H : Hp}, Wd F M H → IsKeys H (kvsOf ks) bs → ∃ F2, Same F F2 ∧ Wd F2 M H ∧ RepL F2 (ks.map eCrowd) (bs.map V.ref)
  | [], bs, F, M, H, w, h => by
    cases h
    exact ⟨F, Same.refl F, w, .nil⟩
  | k :: ks, bs, F, M, H, w, h => by
    cases h with
    | @cons _ b _ bs hb ht =>
      have hb2 : H b = some (.tup (k.map V.int)) := by
        have : H b = some (.tup ((inl k).map kV)) := hb
        rw [kV_inl] at this
        exact this
      obtain ⟨w2, e2⟩ := w.adopt hb2
      obtain ⟨F3, e3, w3, r3⟩ := adopt_all w2 ht
      exact ⟨F3, e2.trans e3, w3, .cons (.tup (e3 _ _ upd_same) (RepL.ofInts k)) r3⟩
theorem cd_listD (hm : μ p = some (.d ks)) : CD μ rListD [.ref p] (.lst (ks.map eCrowd)) := fun F M H vs r1 rm wd Q q => by
  cases r1 with
  | cons a b =>
    cases a
    cases b
    refine ⟨p, kvsOf ks, rfl, .inl (wd.m _ _ (rm.d hm)), fun l bs hl hk => ?_⟩
    obtain ⟨F2, e2, w2, r2⟩ := adopt_all wd hk
    exact q _ _ _ (e2.trans (w2.newS hl)) (w2.new hl) (.lst upd_same (r2.mono (w2.newS hl)))
end
end Mf
set_option maxRecDepth 100000
set_option maxHeartbeats 4000000
/-! Meetfolk: the small defs of crowds. -/
namespace Mf
open PySem L2 PyProof.Rows
variable [Tt] [Xw]
local macro_rules
  | `(tactic| walk_at "rd") => `(tactic| first
    | exact rd_addI | refine rd_addL ?_ | refine rd_addS ?_ | exact rd_sub | refine rd_mulI ?_ | refine rd_mulL ?_ ?_ ?_ | refine rd_mulS ?_ ?_ ?_ | refine rd_div ?_ | refine rd_mod ?_ | refine rd_pow ?_ | exact ud_neg
    | exact rd_ltI | exact rd_leI | exact rd_gtI | exact rd_geI | exact rd_ltS | exact rd_leS | exact rd_eqI | exact rd_neI
    | exact rd_ixT rfl | exact rd_ixL rfl | exact cd_lenL | exact cd_lenT | exact cd_int | exact cd_abs | exact cd_tupL | exact cd_listL | exact cd_listT | exact cd_all | exact cd_any | exact cd_sumT | exact bd_count)
local macro_rules
  | `(tactic| walk_at "ev1") => `(tactic| first
    | exact ev_int | exact ev_str | exact ev_bl | exact ev_non | exact ea_nil | refine ea_cons ?_ ?_ | exact ev_var rfl | exact ev_ty
    | refine ev_op ?_ ?_ ?_ | refine ev_un ?_ ?_ | refine ev_cb ?_ ?_ | refine ev_tup ?_ (by decide) | refine ev_bm ?_ ?_ ?_
    | exact et_yes | refine et_test ?_ | refine et_B ?_ | refine et_or ?_ (fun _ => ?_) | refine et_and ?_ (fun _ => ?_) | refine ev_andV ?_ (fun _ => ?_) | refine ev_orV ?_ (fun _ => ?_) | refine ev_notV ?_ | refine ev_chain ?_ ?_ ?_ (fun _ => ?_) (fun _ => ?_) | refine et_not ?_ | exact eo_none | refine eo_some ?_ | walk_at "rd")
local macro_rules
  | `(tactic| walk_at "ev") => `(tactic| repeat' walk_at "ev1")

abbrev sIsInteger : Stmt := topS 15
theorem scIsInteger : FnScope ["value"] ["value"] (defScope sIsInteger) := ⟨rfl, rfl, rfl, by decide +kernel, rfl, by decide +kernel, by decide +kernel⟩
abbrev sIsFrom : Stmt := topS 16
theorem scIsFrom : FnScope ["value", "low", "high"] ["value", "low", "high"] (defScope sIsFrom) := ⟨rfl, rfl, rfl, by decide +kernel, rfl, by decide +kernel, by decide +kernel⟩
abbrev sIsMoods : Stmt := topS 17
theorem scIsMoods : FnScope ["value", "sign", "one", "other"] ["value"] (defScope sIsMoods) := ⟨rfl, rfl, rfl, by decide +kernel, rfl, by decide +kernel, by decide +kernel⟩
abbrev sIsTwo : Stmt := topS 18
theorem scIsTwo : FnScope ["moods", "value", "sign"] ["moods", "value"] (defScope sIsTwo) := ⟨rfl, rfl, rfl, by decide +kernel, rfl, by decide +kernel, by decide +kernel⟩
abbrev sIsRule : Stmt := topS 19
theorem scIsRule : FnScope ["moods", "value", "part"] ["moods", "value"] (defScope sIsRule) := ⟨rfl, rfl, rfl, by decide +kernel, rfl, by decide +kernel, by decide +kernel⟩
abbrev sIsCrowd : Stmt := topS 22
theorem scIsCrowd : FnScope ["folk", "value", "many"] ["folk", "value"] (defScope sIsCrowd) := ⟨rfl, rfl, rfl, by decide +kernel, rfl, by decide +kernel, by decide +kernel⟩
abbrev sNeedCrowd : Stmt := topS 23
theorem scNeedCrowd : FnScope ["folk", "value"] ["folk", "value"] (defScope sNeedCrowd) := ⟨rfl, rfl, rfl, by decide +kernel, rfl, by decide +kernel, by decide +kernel⟩
abbrev sCountsOf : Stmt := topS 24
theorem scCountsOf : FnScope ["moods", "text", "mood"] ["moods", "text"] (defScope sCountsOf) := ⟨rfl, rfl, rfl, by decide +kernel, rfl, by decide +kernel, by decide +kernel⟩
abbrev sChangeOf : Stmt := topS 25
theorem scChangeOf : FnScope ["folk", "rule", "old", "new"] ["folk", "rule"] (defScope sChangeOf) := ⟨rfl, rfl, rfl, by decide +kernel, rfl, by decide +kernel, by decide +kernel⟩
abbrev sCanUse : Stmt := topS 26
theorem scCanUse : FnScope ["folk", "crowd", "rule", "many", "need"] ["folk", "crowd", "rule"] (defScope sCanUse) := ⟨rfl, rfl, rfl, by decide +kernel, rfl, by decide +kernel, by decide +kernel⟩
abbrev sUsable : Stmt := topS 27
theorem scUsable : FnScope ["folk", "crowd", "rule"] ["folk", "crowd"] (defScope sUsable) := ⟨rfl, rfl, rfl, by decide +kernel, rfl, by decide +kernel, by decide +kernel⟩
abbrev sBehind : Stmt := topS 28
theorem scBehind : FnScope ["folk", "crowd", "rule", "times", "many", "change"] ["folk", "crowd", "rule", "times"] (defScope sBehind) := ⟨rfl, rfl, rfl, by decide +kernel, rfl, by decide +kernel, by decide +kernel⟩
abbrev sTextOf : Stmt := topS 29
theorem scTextOf : FnScope ["folk", "crowd", "mood", "many"] ["folk", "crowd"] (defScope sTextOf) := ⟨rfl, rfl, rfl, by decide +kernel, rfl, by decide +kernel, by decide +kernel⟩
abbrev sBySize : Stmt := topS 30
theorem scBySize : FnScope ["folk", "crowd"] ["folk", "crowd"] (defScope sBySize) := ⟨rfl, rfl, rfl, by decide +kernel, rfl, by decide +kernel, by decide +kernel⟩
abbrev sCrowdsOf : Stmt := topS 31
theorem scCrowdsOf : FnScope ["folk", "size", "texts", "turn", "text", "mood"] ["folk", "size"] (defScope sCrowdsOf) := ⟨rfl, rfl, rfl, by decide +kernel, rfl, by decide +kernel, by decide +kernel⟩
section
variable {P : Program} {w : World} {K : PySem.W.Frag} {mg : Str → Option Value} {base : Heap}
def fIsInteger (ds : List D) (d : D) : Prop := ∃ i : Int, ds = [.int i] ∧ d = .bl true
theorem dIsInteger (F : FunAt K mg "is_integer" sIsInteger ["value"]) (T : Bts mg) : Def P w K mg base CX0 "is_integer" 1 ["value"] [] (spF fIsInteger) := by
  refine F.def_ scIsInteger (fun ds d h => ?_) (fun cdv A outer s H E f hr => ?_)
  · obtain ⟨i, rfl, _⟩ := h
    rfl
  · refine ⟨_, (pss_one (ps_ret (pe_and (pe_callB (uIsi K rfl) (by rfl) T.isinstance (by decide +kernel) (pa_cons (pv 0) (pa_cons (pe_bltn (v := .ty "int") (by rfl) T.int (by decide +kernel) rfl) pa_nil))) (pe_one (pe_not (pe_callB (uIsi K rfl) (by rfl) T.isinstance (by decide +kernel) (pa_cons (pv 0) (pa_cons (pe_bltn (v := .ty "bool") (by rfl) T.bool (by decide +kernel) rfl) pa_nil)))))))), fun ds d h => ?_⟩
    obtain ⟨i, rfl, rfl⟩ := h
    exact sv_ret (d := .bl true) (Ev.is (ev_andV (ev_cb (ea_cons (ev_var rfl) (ea_cons ev_ty ea_nil)) (cd_isi rfl (by simp [dty]))) (fun _ => ev_notV (ev_cb (ea_cons (ev_var rfl) (ea_cons ev_ty ea_nil)) (cd_isi rfl (by simp [dty]))))) rfl) rfl
def fIsFrom (ds : List D) (d : D) : Prop := ∃ i lo hi : Int, ds = [.int i, .int lo, .int hi] ∧ d = .bl (decide (lo ≤ i) && decide (i ≤ hi))
theorem dIsFrom (F : FunAt K mg "is_from" sIsFrom ["value", "low", "high"]) (T : Bts mg) (DIsInteger : Def P w K mg base CX0 "is_integer" 1 ["value"] [] (spF fIsInteger)) : Def P w K mg base CX0 "is_from" 2 ["value", "low", "high"] [] (spF fIsFrom) := by
  refine F.def_ scIsFrom (fun ds d h => ?_) (fun cdv A outer s H E f hr => ?_)
  · obtain ⟨i, lo, hi, rfl, _⟩ := h
    rfl
  · refine ⟨_, (pss_one (ps_ret (pe_and (pe_def DIsInteger hr (by decide) (by rfl) pass0 (pa_cons (pv 0) pa_nil)) (pe_one (pe_chain op_leU op_leU (pv 1) (pv 0) (pv 2)))))), fun ds d h => ?_⟩
    obtain ⟨i, lo, hi, rfl, rfl⟩ := h
    exact sv_ret (d := .bl (decide (lo ≤ i) && decide (i ≤ hi))) (Ev.is (ev_andV (ev_call0 (ea_cons (ev_var rfl) ea_nil) (spD ⟨i, rfl, rfl⟩)) (fun _ => ev_chain (ev_var rfl) (ev_var rfl) rd_leI (fun _ => ev_var rfl) (fun _ => rd_leI))) rfl) rfl
def fIsMoods (ds : List D) (d : D) : Prop := ∃ m : Str, ds = [.str m] ∧ d = .bl true ∧ OkM m
theorem dIsMoods (F : FunAt K mg "is_moods" sIsMoods ["value"]) (T : Bts mg) (C : Cst mg) : Def P w K mg base CX0 "is_moods" 1 ["value"] [] (spF fIsMoods) := by
  refine F.def_ scIsMoods (fun ds d h => ?_) (fun cdv A outer s H E f hr => ?_)
  · obtain ⟨i, rfl, _⟩ := h
    rfl
  · refine ⟨_, (pss_cons (ps_if (PW.pt (pw_or (pt_not (pt_val (pe_callB (uIsi K rfl) (by rfl) T.isinstance (by decide +kernel) (pa_cons (pv 0) (pa_cons (pe_bltn (v := .ty "str") (by rfl) T.str (by decide +kernel) rfl) pa_nil))))) (pw_or (pt_not (pt_chain op_leU op_leU pe_int (pe_callB (uLen K rfl) (by rfl) T.len (by decide +kernel) (pa_cons (pv 0) pa_nil)) (pe_gint (by rfl) C.MOST_MOODS))) (pw_or1 (pt_not (pt_val (pe_callB (uAll K rfl rfl) (by rfl) T.all (by decide +kernel) (pa_cons (pe_lc (own := [("sign", 1)]) (g := (gName 1)) (tt := tYes) rfl scIsMoods.nd (uSeq K rfl (pv 0)) (blkOk_by (N := ["value", "sign", "one", "other"]) (sc := (defScope sIsMoods)) (by decide +kernel)) (fun _ _ _ _ _ => (pg_name (i := 1) scIsMoods.nd rfl (by first | exact Or.inl rfl | exact Or.inr rfl))) (fun _ _ _ _ _ => pts_nil) (fun _ _ _ _ _ => (pe_cmpR (uIn K rfl) (pv 1) (pe_gstr (by rfl) C.SMALL) (by rfl)))) pa_nil)))))))) (pss_one (ps_ret pe_bl)) pss_nil)
      (pss_one (ps_ret (pe_callB (uAll K rfl rfl) (by rfl) T.all (by decide +kernel) (pa_cons (pe_lc (own := [("one", 2), ("other", 3)]) (g := (gTup K 2 (gCons (gName 2) (gCons (gName 3) gNil)))) (tt := tYes) rfl scIsMoods.nd (pi_zip2 (by rfl) T.zip (pa_cons (pv 0) (pa_cons (pe_slice (uSl K rfl) (pv 0) (po_some pe_int) po_none) pa_nil))) (blkOk_by (N := ["value", "sign", "one", "other"]) (sc := (defScope sIsMoods)) (by decide +kernel)) (fun _ _ _ _ _ => (uGtup K rfl (pg_tup rfl (pgs_cons (pg_name (i := 2) scIsMoods.nd rfl (by first | exact Or.inl rfl | exact Or.inr rfl)) (pgs_cons (pg_name (i := 3) scIsMoods.nd rfl (by first | exact Or.inl rfl | exact Or.inr rfl)) pgs_nil))))) (fun _ _ _ _ _ => pts_nil) (fun _ _ _ _ _ => (pe_cmpR op_ltU (pv 2) (pv 3) (nomark _)))) pa_nil))))), fun ds d h => ?_⟩
    obtain ⟨m, rfl, rfl, hm⟩ := h
    have hl : m.length ≤ 100000 := Nat.le_trans hm.l6 (by decide)
    have hl2 : m.cps.toList.length = m.length := Array.length_toList
    refine q_if (b := false) (EvT.is (et_or (et_not (et_B (ev_cb (ea_cons (ev_var rfl) (ea_cons ev_ty ea_nil)) (cd_isi rfl (by simp [dty]))))) fun _ => et_or (et_not (et_test (ev_chain ev_int (ev_cb (ea_cons (ev_var rfl) ea_nil) (cd_lenS hl)) rd_leI (fun _ => ev_int) (fun _ => rd_leI)))) fun _ => et_not (et_B (ev_all (ei_sg (ev_var rfl)) (by simp) (fun x _ => asg_name) (fun x _ => ev_op (ev_var rfl) ev_str rd_inS) (by omega)))) ?_) (fun h => by cases h) fun _ => ?_
    · have h1 := hm.l1
      have h2 := hm.l6
      have h3 : m.cps.toList.all (fun c => decide (c ∈ ("abcdefghijklmnopqrstuvwxyz" : Str).cps.toList)) = true := List.all_eq_true.mpr fun c hc => decide_eq_true (hm.small c hc)
      rw [h3, decide_eq_true (show (1 : Int) ≤ (m.length : Nat) by omega), decide_eq_true (show ((m.length : Nat) : Int) ≤ 6 by omega)]
      rfl
    · refine q_next (sv_ret (d := .bl true) (Ev.is (ev_all ((ei_zip2 (ea_cons (ev_var rfl) (ea_cons (ev_sl (ev_var rfl) (eo_some ev_int) eo_none (sd_S hl)) ea_nil)) (Sq.sg m) (Sq.sg _)).is zip2_map) (by simp) (fun x _ => asg_tup2) (fun x _ => ev_op (ev_var rfl) (ev_var rfl) rd_ltS) ?_) ?_) rfl)
      · rw [List.length_zip]
        omega
      · rw [show (cutS m (some (1 : Int)) none).cps.toList = m.cps.toList.drop 1 from cut_tail m 1]
        have := asc_zip _ hm.asc
        rw [← this]
        congr 2
        funext x
        rw [sLt_one]
def fIsTwo (ds : List D) (d : D) : Prop := ∃ m t : Str, ds = [.str m, .str t] ∧ d = .bl true ∧ OkTwo m t
theorem dIsTwo (F : FunAt K mg "is_two" sIsTwo ["moods", "value"]) (T : Bts mg) : Def P w K mg base CX0 "is_two" 1 ["moods", "value"] [] (spF fIsTwo) := by
  refine F.def_ scIsTwo (fun ds d h => ?_) (fun cdv A outer s H E f hr => ?_)
  · obtain ⟨m, t, rfl, _⟩ := h
    rfl
  · refine ⟨_, (pss_cons (ps_if (PW.pt (pw_or (pt_not (pt_val (pe_callB (uIsi K rfl) (by rfl) T.isinstance (by decide +kernel) (pa_cons (pv 1) (pa_cons (pe_bltn (v := .ty "str") (by rfl) T.str (by decide +kernel) rfl) pa_nil))))) (pw_or (pt_cmpR (uNe K rfl (hu64 hr)) (pe_callB (uLen K rfl) (by rfl) T.len (by decide +kernel) (pa_cons (pv 1) pa_nil)) pe_int (nomark _)) (pw_or1 (pt_not (pt_val (pe_callB (uAll K rfl rfl) (by rfl) T.all (by decide +kernel) (pa_cons (pe_lc (own := [("sign", 2)]) (g := (gName 2)) (tt := tYes) rfl scIsTwo.nd (uSeq K rfl (pv 1)) (blkOk_by (N := ["moods", "value", "sign"]) (sc := (defScope sIsTwo)) (by decide +kernel)) (fun _ _ _ _ _ => (pg_name (i := 2) scIsTwo.nd rfl (by first | exact Or.inl rfl | exact Or.inr rfl))) (fun _ _ _ _ _ => pts_nil) (fun _ _ _ _ _ => (pe_cmpR (uIn K rfl) (pv 2) (pv 0) (by rfl)))) pa_nil)))))))) (pss_one (ps_ret pe_bl)) pss_nil)
      (pss_one (ps_ret (pe_cmpR op_leU (pe_ix (uIx K rfl) (pv 1) pe_int (fun _ _ => rfl)) (pe_ix (uIx K rfl) (pv 1) pe_int (fun _ _ => rfl)) (nomark _))))), fun ds d h => ?_⟩
    obtain ⟨m, t, rfl, rfl, a, b, rfl, ha, hb, hab⟩ := h
    refine q_if (b := false) (EvT.is (et_or (et_not (et_B (ev_cb (ea_cons (ev_var rfl) (ea_cons ev_ty ea_nil)) (cd_isi rfl (by simp [dty]))))) fun _ => et_or (et_test (ev_op (ev_cb (ea_cons (ev_var rfl) ea_nil) (cd_lenS (by show 2 ≤ _; decide))) ev_int rd_neI)) fun _ => et_not (et_B (ev_all (ei_sg (ev_var rfl)) (by simp) (fun x _ => asg_name) (fun x _ => ev_op (ev_var rfl) (ev_var rfl) rd_inS) (by show 2 ≤ _; decide)))) ?_) (fun h => by cases h) fun _ => ?_
    · show (false || ((!decide ((2 : Int) = 2)) || !(decide (a ∈ m.cps.toList) && (decide (b ∈ m.cps.toList) && true)))) = false
      rw [decide_eq_true ha, decide_eq_true hb]
      rfl
    · refine q_next (sv_ret (d := .bl true) (Ev.is (ev_op (ev_op (ev_var rfl) ev_int (rd_ixS (c := a) (by show 2 ≤ _; decide) rfl)) (ev_op (ev_var rfl) ev_int (rd_ixS (c := b) (by show 2 ≤ _; decide) rfl)) rd_leS) ?_) rfl)
      rw [sLt_one, decide_eq_false (by omega)]
      rfl
def fIsRule (ds : List D) (d : D) : Prop := ∃ (m : Str) (r : Rl), ds = [.str m, eRule r] ∧ d = .bl true ∧ OkM m ∧ OkTwo m r.1 ∧ OkTwo m r.2 ∧ r.1 ≠ r.2
theorem dIsRule (F : FunAt K mg "is_rule" sIsRule ["moods", "value"]) (T : Bts mg) (DIsTwo : Def P w K mg base CX0 "is_two" 1 ["moods", "value"] [] (spF fIsTwo)) : Def P w K mg base CX0 "is_rule" 2 ["moods", "value"] [] (spF fIsRule) := by
  refine F.def_ scIsRule (fun ds d h => ?_) (fun cdv A outer s H E f hr => ?_)
  · obtain ⟨m, t, rfl, _⟩ := h
    rfl
  · refine ⟨_, (pss_cons (ps_if (PW.pt (pw_or (pt_not (pt_val (pe_callB (uIsi K rfl) (by rfl) T.isinstance (by decide +kernel) (pa_cons (pv 1) (pa_cons (pe_bltn (v := .ty "tuple") (by rfl) T.tuple (by decide +kernel) rfl) pa_nil))))) (pw_or (pt_cmpR (uNe K rfl (hu64 hr)) (pe_callB (uLen K rfl) (by rfl) T.len (by decide +kernel) (pa_cons (pv 1) pa_nil)) pe_int (nomark _)) (pw_or1 (pt_not (pt_val (pe_callB (uAll K rfl rfl) (by rfl) T.all (by decide +kernel) (pa_cons (pe_lc (own := [("part", 2)]) (g := (gName 2)) (tt := tYes) rfl scIsRule.nd (uSeq K rfl (pv 1)) (blkOk_by (N := ["moods", "value", "part"]) (sc := (defScope sIsRule)) (by decide +kernel)) (fun _ _ _ _ _ => (pg_name (i := 2) scIsRule.nd rfl (by first | exact Or.inl rfl | exact Or.inr rfl))) (fun _ _ _ _ _ => pts_nil) (fun _ _ _ _ _ => (pe_def DIsTwo hr (by decide) (by rfl) pass0 (pa_cons (pv 0) (pa_cons (pv 2) pa_nil))))) pa_nil)))))))) (pss_one (ps_ret pe_bl)) pss_nil)
      (pss_one (ps_ret (pe_cmpR (uNe K rfl (hu64 hr)) (pe_ix (uIx K rfl) (pv 1) pe_int (fun _ _ => rfl)) (pe_ix (uIx K rfl) (pv 1) pe_int (fun _ _ => rfl)) (nomark _))))), fun ds d h => ?_⟩
    obtain ⟨m, r, rfl, rfl, h0, h1, h2, h3⟩ := h
    refine q_if (b := false) (EvT.is (et_or (et_not (et_B (ev_cb (ea_cons (ev_var rfl) (ea_cons ev_ty ea_nil)) (cd_isi rfl (by simp [dty]))))) fun _ => et_or (et_test (ev_op (ev_cb (ea_cons (ev_var rfl) ea_nil) cd_lenT) ev_int rd_neI)) fun _ => et_not (et_B (ev_all (xs := [r.1, r.2]) (enc := D.str) (p := fun _ => true) (ei_seqT (ev_var rfl)) (by simp) (fun x _ => asg_name) (fun x hx => ev_call0 (ea_cons (ev_var rfl) (ea_cons (ev_var rfl) ea_nil)) (spD ⟨m, x, rfl, rfl, ?_⟩)) (by show 2 ≤ _; decide)))) ?_) (fun h => by cases h) fun _ => ?_
    · rcases List.mem_cons.mp hx with e | hx
      · exact e ▸ h1
      · exact List.mem_singleton.mp hx ▸ h2
    · rfl
    · refine q_next (sv_ret (d := .bl true) (Ev.is (ev_op (ev_op (ev_var rfl) ev_int (rd_ixT rfl)) (ev_op (ev_var rfl) ev_int (rd_ixT rfl)) (rd_ne (b := false) (h1.pl h0 9) (h2.pl h0 9) ?_)) rfl) rfl)
      exact ⟨fun h => (by cases h), fun h => absurd (D.str.inj h) h3⟩
def fIsCrowd (ds : List D) (d : D) : Prop := ∃ (m : Str) (rs : List Rl) (c : List Int), ds = [eFolk m rs, eCrowd c] ∧ d = .bl true ∧ m.length ≤ 6 ∧ OkC m c ∧ ∀ x ∈ c, x ≤ 10 ^ 40
theorem dIsCrowd (F : FunAt K mg "is_crowd" sIsCrowd ["folk", "value"]) (T : Bts mg) (C : Cst mg) (DIsFrom : Def P w K mg base CX0 "is_from" 2 ["value", "low", "high"] [] (spF fIsFrom)) : Def P w K mg base CX0 "is_crowd" 3 ["folk", "value"] [] (spF fIsCrowd) := by
  refine F.def_ scIsCrowd (fun ds d h => ?_) (fun cdv A outer s H E f hr => ?_)
  · obtain ⟨m, rs, c, rfl, _⟩ := h
    rfl
  · refine ⟨_, (pss_cons (ps_if (PW.pt (pw_or (pt_not (pt_val (pe_callB (uIsi K rfl) (by rfl) T.isinstance (by decide +kernel) (pa_cons (pv 1) (pa_cons (pe_bltn (v := .ty "tuple") (by rfl) T.tuple (by decide +kernel) rfl) pa_nil))))) (pw_or1 (pt_cmpR (uNe K rfl (hu64 hr)) (pe_callB (uLen K rfl) (by rfl) T.len (by decide +kernel) (pa_cons (pv 1) pa_nil)) (pe_callB (uLen K rfl) (by rfl) T.len (by decide +kernel) (pa_cons (pe_ix (uIx K rfl) (pv 0) pe_int (fun _ _ => rfl)) pa_nil)) (nomark _))))) (pss_one (ps_ret pe_bl)) pss_nil)
      (pss_one (ps_ret (pe_callB (uAll K rfl rfl) (by rfl) T.all (by decide +kernel) (pa_cons (pe_lc (own := [("many", 2)]) (g := (gName 2)) (tt := tYes) rfl scIsCrowd.nd (uSeq K rfl (pv 1)) (blkOk_by (N := ["folk", "value", "many"]) (sc := (defScope sIsCrowd)) (by decide +kernel)) (fun _ _ _ _ _ => (pg_name (i := 2) scIsCrowd.nd rfl (by first | exact Or.inl rfl | exact Or.inr rfl))) (fun _ _ _ _ _ => pts_nil) (fun _ _ _ _ _ => (pe_def DIsFrom hr (by decide) (by rfl) pass0 (pa_cons (pv 2) (pa_cons pe_int (pa_cons (pe_gint (by rfl) C.MOST_FOLK) pa_nil)))))) pa_nil))))), fun ds d h => ?_⟩
    obtain ⟨m, rs, c, rfl, rfl, h6, hc, ht⟩ := h
    have hl : m.length ≤ 100000 := Nat.le_trans h6 (by decide)
    refine q_if (b := false) (EvT.is (et_or (et_not (et_B (ev_cb (ea_cons (ev_var rfl) (ea_cons ev_ty ea_nil)) (cd_isi rfl (by simp [dty]))))) fun _ => et_test (ev_op (ev_cb (ea_cons (ev_var rfl) ea_nil) cd_lenT) (ev_cb (ea_cons (ev_op (ev_var rfl) ev_int (rd_ixT rfl)) ea_nil) (cd_lenS hl)) rd_neI)) ?_) (fun h => by cases h) fun _ => ?_
    · rw [List.length_map, hc.len, decide_eq_true rfl]
      rfl
    · refine q_next (sv_ret (d := .bl true) (Ev.is (ev_all (p := fun _ => true) (ei_seqT (ev_var rfl)) (by simp) (fun x _ => asg_name) (fun x hx => Ev.is (ev_call0 (ea_cons (ev_var rfl) (ea_cons ev_int (ea_cons ev_int ea_nil))) (spD ⟨x, 0, 10 ^ 40, rfl, rfl⟩)) ?_) ?_) ?_) rfl)
      · rw [decide_eq_true (hc.nn x hx), decide_eq_true (ht x hx)]
        rfl
      · have := hc.len
        omega
      · rw [List.all_eq_true.mpr fun _ _ => rfl]
def fNeedCrowd (ds : List D) (d : D) : Prop := ∃ (m : Str) (rs : List Rl) (c : List Int), ds = [eFolk m rs, eCrowd c] ∧ d = .non ∧ m.length ≤ 6 ∧ OkC m c ∧ ∀ x ∈ c, x ≤ 10 ^ 40
theorem dNeedCrowd (F : FunAt K mg "need_crowd" sNeedCrowd ["folk", "value"]) (DIsCrowd : Def P w K mg base CX0 "is_crowd" 3 ["folk", "value"] [] (spF fIsCrowd)) : Def P w K mg base CX0 "need_crowd" 4 ["folk", "value"] [] (spF fNeedCrowd) := by
  refine F.def_ scNeedCrowd (fun ds d h => ?_) (fun cdv A outer s H E f hr => ?_)
  · obtain ⟨m, rs, c, rfl, _⟩ := h
    rfl
  · refine ⟨_, (pss_one (ps_if (pt_not (pt_val (pe_def DIsCrowd hr (by decide) (by rfl) pass0 (pa_cons (pv 0) (pa_cons (pv 1) pa_nil))))) (pss_one ps_never) pss_nil)), fun ds d h => ?_⟩
    obtain ⟨m, rs, c, rfl, rfl, hh⟩ := h
    exact sv_if (b := false) (EvT.is (et_not (et_B (ev_call0 (ea_cons (ev_var rfl) (ea_cons (ev_var rfl) ea_nil)) (spD ⟨m, rs, c, rfl, rfl, hh⟩)))) rfl) (fun h => by cases h) fun _ => sv_next rfl
def fCounts (ds : List D) (d : D) : Prop := ∃ m t : Str, ds = [.str m, .str t] ∧ d = eCrowd (cn m t) ∧ m.length ≤ 100
theorem dCountsOf (F : FunAt K mg "counts_of" sCountsOf ["moods", "text"]) (T : Bts mg) : Def P w K mg base CX0 "counts_of" 1 ["moods", "text"] [] (spF fCounts) := by
  refine F.def_ scCountsOf (fun ds d h => ?_) (fun cdv A outer s H E f hr => ?_)
  · obtain ⟨m, t, rfl, _⟩ := h
    rfl
  · refine ⟨_, (pss_one (ps_ret (pe_callTy (uTup K rfl) (by rfl) T.tuple (by decide +kernel) (pa_cons (pe_lc (own := [("mood", 2)]) (g := (gName 2)) (tt := tYes) rfl scCountsOf.nd (uSeq K rfl (pv 0)) (blkOk_by (N := ["moods", "text", "mood"]) (sc := (defScope sCountsOf)) (by decide +kernel)) (fun _ _ _ _ _ => (pg_name (i := 2) scCountsOf.nd rfl (by first | exact Or.inl rfl | exact Or.inr rfl))) (fun _ _ _ _ _ => pts_nil) (fun _ _ _ _ _ => (uBm K rfl PySem.F.plainAttrs_str PySem.F.slot_str_count PySem.F.type_str_count uCount (pv 1) (pa_cons (pv 2) pa_nil)))) pa_nil)))), fun ds d h => ?_⟩
    obtain ⟨m, t, rfl, rfl, hm⟩ := h
    refine sv_ret (d := eCrowd (cn m t)) (ev_tupI (ei_sg (ev_var rfl)) (by simp) (fun x _ => asg_name) (fun x _ => Ev.is (ev_bm (ev_var rfl) (ea_cons (ev_var rfl) ea_nil) bd_count) ?_) ?_) rfl
    · rw [count_one]
    · show m.cps.toList.length ≤ _
      rw [Array.length_toList]
      exact Nat.le_trans hm (by decide)
def fChange (ds : List D) (d : D) : Prop := ∃ (m : Str) (rs : List Rl) (r : Rl), ds = [eFolk m rs, eRule r] ∧ d = eCrowd (chg m r) ∧ m.length ≤ 100
theorem dChangeOf (F : FunAt K mg "change_of" sChangeOf ["folk", "rule"]) (T : Bts mg) (DCountsOf : Def P w K mg base CX0 "counts_of" 1 ["moods", "text"] [] (spF fCounts)) : Def P w K mg base CX0 "change_of" 2 ["folk", "rule"] [] (spF fChange) := by
  refine F.def_ scChangeOf (fun ds d h => ?_) (fun cdv A outer s H E f hr => ?_)
  · obtain ⟨m, rs, r, rfl, _⟩ := h
    rfl
  · refine ⟨_, (pss_one (ps_ret (pe_callTy (uTup K rfl) (by rfl) T.tuple (by decide +kernel) (pa_cons (pe_lc (own := [("old", 2), ("new", 3)]) (g := (gTup K 2 (gCons (gName 2) (gCons (gName 3) gNil)))) (tt := tYes) rfl scChangeOf.nd (pi_zip2 (by rfl) T.zip (pa_cons (pe_def DCountsOf hr (by decide) (by rfl) pass0 (pa_cons (pe_ix (uIx K rfl) (pv 0) pe_int (fun _ _ => rfl)) (pa_cons (pe_ix (uIx K rfl) (pv 1) pe_int (fun _ _ => rfl)) pa_nil))) (pa_cons (pe_def DCountsOf hr (by decide) (by rfl) pass0 (pa_cons (pe_ix (uIx K rfl) (pv 0) pe_int (fun _ _ => rfl)) (pa_cons (pe_ix (uIx K rfl) (pv 1) pe_int (fun _ _ => rfl)) pa_nil))) pa_nil))) (blkOk_by (N := ["folk", "rule", "old", "new"]) (sc := (defScope sChangeOf)) (by decide +kernel)) (fun _ _ _ _ _ => (uGtup K rfl (pg_tup rfl (pgs_cons (pg_name (i := 2) scChangeOf.nd rfl (by first | exact Or.inl rfl | exact Or.inr rfl)) (pgs_cons (pg_name (i := 3) scChangeOf.nd rfl (by first | exact Or.inl rfl | exact Or.inr rfl)) pgs_nil))))) (fun _ _ _ _ _ => pts_nil) (fun _ _ _ _ _ => (pe_op op_subU (pv 3) (pv 2)))) pa_nil)))), fun ds d h => ?_⟩
    obtain ⟨m, rs, r, rfl, rfl, hm⟩ := h
    have call : ∀ t : Str, SpD (spF fCounts) [.str m, .str t] (eCrowd (cn m t)) := fun t => spD ⟨m, t, rfl, rfl, hm⟩
    refine sv_ret (d := eCrowd (chg m r)) (ev_tupI ((ei_zip2 (ea_cons (ev_call0 (ea_cons (ev_op (ev_var rfl) ev_int (rd_ixT rfl)) (ea_cons (ev_op (ev_var rfl) ev_int (rd_ixT rfl)) ea_nil)) (call r.1)) (ea_cons (ev_call0 (ea_cons (ev_op (ev_var rfl) ev_int (rd_ixT rfl)) (ea_cons (ev_op (ev_var rfl) ev_int (rd_ixT rfl)) ea_nil)) (call r.2)) ea_nil)) (.tup _) (.tup _)).is zip2_map) (by simp) (fun x _ => asg_tup2) (fun x _ => ev_op (ev_var rfl) (ev_var rfl) rd_sub) ?_) rfl
    rw [List.length_zip, cn_len, cn_len, Nat.min_self]
    exact Nat.le_trans hm (by decide)
def fCanUse (ds : List D) (d : D) : Prop := ∃ (m : Str) (rs : List Rl) (c : List Int) (r : Rl), ds = [eFolk m rs, eCrowd c, eRule r] ∧ d = .bl (canUse m c r) ∧ m.length ≤ 100
theorem dCanUse (F : FunAt K mg "can_use" sCanUse ["folk", "crowd", "rule"]) (T : Bts mg) (DCountsOf : Def P w K mg base CX0 "counts_of" 1 ["moods", "text"] [] (spF fCounts)) : Def P w K mg base CX0 "can_use" 2 ["folk", "crowd", "rule"] [] (spF fCanUse) := by
  refine F.def_ scCanUse (fun ds d h => ?_) (fun cdv A outer s H E f hr => ?_)
  · obtain ⟨m, rs, c, r, rfl, _⟩ := h
    rfl
  · refine ⟨_, (pss_one (ps_ret (pe_callB (uAll K rfl rfl) (by rfl) T.all (by decide +kernel) (pa_cons (pe_lc (own := [("many", 3), ("need", 4)]) (g := (gTup K 2 (gCons (gName 3) (gCons (gName 4) gNil)))) (tt := tYes) rfl scCanUse.nd (pi_zip2 (by rfl) T.zip (pa_cons (pv 1) (pa_cons (pe_def DCountsOf hr (by decide) (by rfl) pass0 (pa_cons (pe_ix (uIx K rfl) (pv 0) pe_int (fun _ _ => rfl)) (pa_cons (pe_ix (uIx K rfl) (pv 2) pe_int (fun _ _ => rfl)) pa_nil))) pa_nil))) (blkOk_by (N := ["folk", "crowd", "rule", "many", "need"]) (sc := (defScope sCanUse)) (by decide +kernel)) (fun _ _ _ _ _ => (uGtup K rfl (pg_tup rfl (pgs_cons (pg_name (i := 3) scCanUse.nd rfl (by first | exact Or.inl rfl | exact Or.inr rfl)) (pgs_cons (pg_name (i := 4) scCanUse.nd rfl (by first | exact Or.inl rfl | exact Or.inr rfl)) pgs_nil))))) (fun _ _ _ _ _ => pts_nil) (fun _ _ _ _ _ => (pe_cmpR op_geU (pv 3) (pv 4) (nomark _)))) pa_nil)))), fun ds d h => ?_⟩
    obtain ⟨m, rs, c, r, rfl, rfl, hm⟩ := h
    have call : ∀ t : Str, SpD (spF fCounts) [.str m, .str t] (eCrowd (cn m t)) := fun t => spD ⟨m, t, rfl, rfl, hm⟩
    refine sv_ret (d := .bl (canUse m c r)) (ev_all ((ei_zip2 (ea_cons (ev_var rfl) (ea_cons (ev_call0 (ea_cons (ev_op (ev_var rfl) ev_int (rd_ixT rfl)) (ea_cons (ev_op (ev_var rfl) ev_int (rd_ixT rfl)) ea_nil)) (call r.1)) ea_nil)) (.tup _) (.tup _)).is zip2_map) (by simp) (fun x _ => asg_tup2) (fun x _ => ev_op (ev_var rfl) (ev_var rfl) rd_geI) ?_) rfl
    rw [List.length_zip, cn_len]
    omega
def fUsable (ds : List D) (d : D) : Prop := ∃ (m : Str) (rs : List Rl) (c : List Int), ds = [eFolk m rs, eCrowd c] ∧ d = .lst ((usab m rs c).map eRule) ∧ m.length ≤ 100 ∧ rs.length ≤ 100
theorem dUsable (F : FunAt K mg "usable" sUsable ["folk", "crowd"]) (T : Bts mg) (DCanUse : Def P w K mg base CX0 "can_use" 2 ["folk", "crowd", "rule"] [] (spF fCanUse)) : Def P w K mg base CX0 "usable" 3 ["folk", "crowd"] [] (spF fUsable) := by
  refine F.def_ scUsable (fun ds d h => ?_) (fun cdv A outer s H E f hr => ?_)
  · obtain ⟨m, rs, c, rfl, _⟩ := h
    rfl
  · refine ⟨_, (pss_one (ps_ret (pe_lc (own := [("rule", 2)]) (g := (gName 2))  rfl scUsable.nd (uSeq K rfl (pe_ix (uIx K rfl) (pv 0) pe_int (fun _ _ => rfl))) (blkOk_by (N := ["folk", "crowd", "rule"]) (sc := (defScope sUsable)) (by decide +kernel)) (fun _ _ _ _ _ => (pg_name (i := 2) scUsable.nd rfl (by first | exact Or.inl rfl | exact Or.inr rfl))) (fun _ _ _ _ _ => pts_one (pt_val (pe_def DCanUse hr (by decide) (by rfl) pass0 (pa_cons (pv 0) (pa_cons (pv 1) (pa_cons (pv 2) pa_nil)))))) (fun _ _ _ _ _ => (pv 2))))), fun ds d h => ?_⟩
    obtain ⟨m, rs, c, rfl, rfl, hm, hr⟩ := h
    refine sv_ret (d := .lst ((usab m rs c).map eRule)) (ev_lc (xs := rs) (f := canUse m c) (ei_seqT (ev_op (ev_var rfl) ev_int (rd_ixT rfl))) (by simp) (fun x _ => asg_name) (fun x _ => et_test (ev_call0 (ea_cons (ev_var rfl) (ea_cons (ev_var rfl) (ea_cons (ev_var rfl) ea_nil))) (spD ⟨m, rs, c, x, rfl, rfl, hm⟩))) (fun x _ _ => ev_var rfl) (Nat.le_trans hr (by decide))) rfl
def fBehind (ds : List D) (d : D) : Prop := ∃ (m : Str) (rs : List Rl) (c : List Int) (r : Rl) (k : Int), ds = [eFolk m rs, eCrowd c, eRule r, .int k] ∧ d = eCrowd (beh m c r k) ∧ OkF m rs ∧ r ∈ rs ∧ k.natAbs ≤ 2 ^ 200
theorem dBehind (F : FunAtD K mg "behind" sBehind ["folk", "crowd", "rule", "times"] [.int 1]) (T : Bts mg) (DChangeOf : Def P w K mg base CX0 "change_of" 2 ["folk", "rule"] [] (spF fChange)) :
    Def P w K mg base CX0 "behind" 3 ["folk", "crowd", "rule", "times"] [] (spF fBehind) ∧ Def P w K mg base CX0 "behind" 3 ["folk", "crowd", "rule", "times"] [.int 1] (spF fBehind) := by
  refine F.fn_ scBehind (fun ds d h => ?_) (fun cdv A outer s H E f hr => ?_)
  · obtain ⟨m, rs, c, r, k, rfl, _⟩ := h
    rfl
  · refine ⟨_, (pss_one (ps_ret (pe_callTy (uTup K rfl) (by rfl) T.tuple (by decide +kernel) (pa_cons (pe_lc (own := [("many", 4), ("change", 5)]) (g := (gTup K 2 (gCons (gName 4) (gCons (gName 5) gNil)))) (tt := tYes) rfl scBehind.nd (pi_zip2 (by rfl) T.zip (pa_cons (pv 1) (pa_cons (pe_def DChangeOf hr (by decide) (by rfl) pass0 (pa_cons (pv 0) (pa_cons (pv 2) pa_nil))) pa_nil))) (blkOk_by (N := ["folk", "crowd", "rule", "times", "many", "change"]) (sc := (defScope sBehind)) (by decide +kernel)) (fun _ _ _ _ _ => (uGtup K rfl (pg_tup rfl (pgs_cons (pg_name (i := 4) scBehind.nd rfl (by first | exact Or.inl rfl | exact Or.inr rfl)) (pgs_cons (pg_name (i := 5) scBehind.nd rfl (by first | exact Or.inl rfl | exact Or.inr rfl)) pgs_nil))))) (fun _ _ _ _ _ => pts_nil) (fun _ _ _ _ _ => (pe_op op_addU (pv 4) (pe_op op_mulU (pv 3) (pv 5))))) pa_nil)))), fun ds d h => ?_⟩
    obtain ⟨m, rs, c, r, k, rfl, rfl, hf, hr, hk⟩ := h
    refine sv_ret (d := eCrowd (beh m c r k)) (ev_tupI ((ei_zip2 (ea_cons (ev_var rfl) (ea_cons (ev_call0 (ea_cons (ev_var rfl) (ea_cons (ev_var rfl) ea_nil)) (spD ⟨m, rs, r, rfl, rfl, Nat.le_trans hf.moods.l6 (by decide)⟩)) ea_nil)) (.tup _) (.tup _)).is zip2_map) (by simp) (fun x _ => asg_tup2) (fun x hx => ev_op (ev_var rfl) (ev_op (ev_var rfl) (ev_var rfl) (rd_mulI (mulOk (small_big hk) (small_big (two_big (chg_small hf hr (List.of_mem_zip hx).2)))))) rd_addI) ?_) rfl
    rw [List.length_zip, chg_len]
    have := hf.moods.l6
    omega
def fTextOf (ds : List D) (d : D) : Prop := ∃ (m : Str) (rs : List Rl) (c : List Int), ds = [eFolk m rs, eCrowd c] ∧ d = .str (textC m c) ∧ m.length ≤ 6 ∧ ∀ x ∈ c, 0 ≤ x ∧ x ≤ 100
theorem dTextOf (F : FunAt K mg "text_of" sTextOf ["folk", "crowd"]) (T : Bts mg) : Def P w K mg base CX0 "text_of" 1 ["folk", "crowd"] [] (spF fTextOf) := by
  refine F.def_ scTextOf (fun ds d h => ?_) (fun cdv A outer s H E f hr => ?_)
  · obtain ⟨m, rs, c, rfl, _⟩ := h
    rfl
  · refine ⟨_, (pss_one (ps_ret (uBm K rfl PySem.F.plainAttrs_str PySem.F.slot_str_join PySem.F.type_str_join (uJoin K rfl) pe_str (pa_cons (pe_lc (own := [("mood", 2), ("many", 3)]) (g := (gTup K 2 (gCons (gName 2) (gCons (gName 3) gNil)))) (tt := tYes) rfl scTextOf.nd (pi_zip2 (by rfl) T.zip (pa_cons (pe_ix (uIx K rfl) (pv 0) pe_int (fun _ _ => rfl)) (pa_cons (pv 1) pa_nil))) (blkOk_by (N := ["folk", "crowd", "mood", "many"]) (sc := (defScope sTextOf)) (by decide +kernel)) (fun _ _ _ _ _ => (uGtup K rfl (pg_tup rfl (pgs_cons (pg_name (i := 2) scTextOf.nd rfl (by first | exact Or.inl rfl | exact Or.inr rfl)) (pgs_cons (pg_name (i := 3) scTextOf.nd rfl (by first | exact Or.inl rfl | exact Or.inr rfl)) pgs_nil))))) (fun _ _ _ _ _ => pts_nil) (fun _ _ _ _ _ => (pe_op op_mulU (pv 2) (pv 3)))) pa_nil)))), fun ds d h => ?_⟩
    obtain ⟨m, rs, c, rfl, rfl, h6, hc⟩ := h
    have hl2 : m.cps.toList.length = m.length := Array.length_toList
    let g : Nat × Int → Str := fun p => ⟨(List.replicate p.2.toNat [p.1]).flatten.toArray⟩
    have hlen : (m.cps.toList.zip c).length ≤ 6 := by
      rw [List.length_zip]
      omega
    have hg : ∀ p ∈ m.cps.toList.zip c, (g p).length ≤ 100 := fun p hp => by
      have := hc p.2 (List.of_mem_zip hp).2
      show (List.replicate p.2.toNat [p.1]).flatten.toArray.size ≤ 100
      rw [List.size_toArray, List.length_flatten, List.map_replicate, List.sum_replicate_nat]
      show p.2.toNat * 1 ≤ 100
      omega
    refine sv_ret (d := .str (textC m c)) (ev_bm (ds := [.lst (((m.cps.toList.zip c).map g).map D.str)]) ev_str (ea_cons (Ev.is (ev_lc1 (h := fun p => D.str (g p)) ((ei_zip2 (ea_cons (ev_op (ev_var rfl) ev_int (rd_ixT rfl)) (ea_cons (ev_var rfl) ea_nil)) (Sq.sg m) (.tup _)).is zip2_map) (by simp) (fun x _ => asg_tup2) (fun x hx => ev_op (ev_var rfl) (ev_var rfl) (rd_mulS (hc x.2 (List.of_mem_zip hx).2).1 (hc x.2 (List.of_mem_zip hx).2).2 (by show 1 ≤ 100; decide))) (by omega)) (by rw [List.map_map]; rfl)) ea_nil) (bd_join ?_)) rfl
    have h1 : ∀ l : List (Nat × Int), (∀ p ∈ l, (g p).length ≤ 100) → ((l.map g).map (·.length)).sum ≤ l.length * 100 := fun l => by
      induction l with
      | nil => exact fun _ => Nat.le_refl _
      | cons p l ih =>
        intro h
        have a := ih fun q hq => h q (List.mem_cons_of_mem _ hq)
        have b := h p (List.mem_cons_self ..)
        rw [List.map_cons, List.map_cons, List.sum_cons, List.length_cons, Nat.succ_mul]
        omega
    have h2 := h1 _ hg
    have h3 : (Str.ofString "").length = 0 := rfl
    rw [h3, Nat.mul_zero]
    omega
def fBySize (ds : List D) (d : D) : Prop := ∃ (m : Str) (rs : List Rl) (c : List Int), ds = [eFolk m rs, eCrowd c] ∧ d = .tup [.int c.sum, .str (textC m c)] ∧ m.length ≤ 6 ∧ ∀ x ∈ c, 0 ≤ x ∧ x ≤ 100
theorem dBySize (F : FunAt K mg "by_size" sBySize ["folk", "crowd"]) (T : Bts mg) (DTextOf : Def P w K mg base CX0 "text_of" 1 ["folk", "crowd"] [] (spF fTextOf)) : Def P w K mg base CX0 "by_size" 2 ["folk", "crowd"] [] (spF fBySize) := by
  refine F.def_ scBySize (fun ds d h => ?_) (fun cdv A outer s H E f hr => ?_)
  · obtain ⟨m, rs, c, rfl, _⟩ := h
    rfl
  · refine ⟨_, (pss_one (ps_ret (pe_tup (pa_cons (pe_callB (uSum K rfl rfl) (by rfl) T.sum (by decide +kernel) (pa_cons (pv 1) pa_nil)) (pa_cons (pe_def DTextOf hr (by decide) (by rfl) pass0 (pa_cons (pv 0) (pa_cons (pv 1) pa_nil))) pa_nil))))), fun ds d h => ?_⟩
    obtain ⟨m, rs, c, rfl, rfl, hh⟩ := h
    exact sv_ret (d := .tup [.int c.sum, .str (textC m c)]) (ev_tup (ea_cons (ev_cb (ea_cons (ev_var rfl) ea_nil) cd_sumT) (ea_cons (ev_call0 (ea_cons (ev_var rfl) (ea_cons (ev_var rfl) ea_nil)) (spD ⟨m, rs, c, rfl, rfl, hh⟩)) ea_nil)) (by show 2 ≤ _; decide)) rfl
def fCrowdsOf (ds : List D) (d : D) : Prop := ∃ (m : Str) (rs : List Rl) (n : Nat), ds = [eFolk m rs, .int (n : Nat)] ∧ d = .lst ((crowdsT m n).map eCrowd) ∧ OkM m ∧ n ≤ 3
theorem dCrowdsOf (F : FunAt K mg "crowds_of" sCrowdsOf ["folk", "size"]) (T : Bts mg) (DCountsOf : Def P w K mg base CX0 "counts_of" 1 ["moods", "text"] [] (spF fCounts)) : Def P w K mg base CX0 "crowds_of" 2 ["folk", "size"] [] (spF fCrowdsOf) := by
  refine F.def_ scCrowdsOf (fun ds d h => ?_) (fun cdv A outer s H E f hr => ?_)
  · obtain ⟨m, rs, n, rfl, _⟩ := h
    rfl
  · refine ⟨_, (pss_cons (ps_set (i := 2) scCrowdsOf.nd rfl (by first | exact Or.inl rfl | exact Or.inr rfl) (pe_lst (pa_cons pe_str pa_nil)))
      (pss_cons (ps_for PassesOwn.never rfl (pi_range1 (by rfl) T.range (pa_cons (pv 1) pa_nil)) (pg_name (i := 3) scCrowdsOf.nd rfl (by first | exact Or.inl rfl | exact Or.inr rfl)) (pss_one (ps_setLc2 (i := 2) (own := [("text", 4), ("mood", 5)]) (vs1 := [5]) (g := (gName 4)) (g1 := (gName 5)) (tt := tYes)  rfl scCrowdsOf.nd rfl rfl (sw_true rfl rfl rfl (by decide +kernel)) (uSeq K rfl (pv 2)) (blkOk_by (N := ["folk", "size", "texts", "turn", "text", "mood"]) (sc := (defScope sCrowdsOf)) (by decide +kernel)) (by decide) (fun _ _ _ _ _ => (pg_name (i := 4) scCrowdsOf.nd rfl (by first | exact Or.inl rfl | exact Or.inr rfl))) (fun _ _ _ _ _ => pts_nil) (fun _ _ _ _ _ => (uSeq K rfl (pe_ix (uIx K rfl) (pv 0) pe_int (fun _ _ => rfl)))) (fun _ _ _ _ _ => (pg_name (i := 5) scCrowdsOf.nd rfl (by first | exact Or.inl rfl | exact Or.inr rfl))) (fun _ _ _ _ _ => pts_one (PW.pt (pw_or (pt_cmpR (uEq K rfl (hu64 hr)) (pv 4) pe_str (nomark _)) (pw_or1 (pt_cmpR op_leU (pe_ix (uIx K rfl) (pv 4) (pe_un un_negU pe_int) (fun _ _ => rfl)) (pv 5) (nomark _)))))) (fun _ _ _ _ _ => (pe_op op_addU (pv 4) (pv 5))))))
      (pss_one (ps_ret (pe_lc (own := [("text", 4)]) (g := (gName 4)) (tt := tYes) rfl scCrowdsOf.nd (uSeq K rfl (pv 2)) (blkOk_by (N := ["folk", "size", "texts", "turn", "text", "mood"]) (sc := (defScope sCrowdsOf)) (by decide +kernel)) (fun _ _ _ _ _ => (pg_name (i := 4) scCrowdsOf.nd rfl (by first | exact Or.inl rfl | exact Or.inr rfl))) (fun _ _ _ _ _ => pts_nil) (fun _ _ _ _ _ => (pe_def DCountsOf hr (by decide) (by rfl) pass0 (pa_cons (pe_ix (uIx K rfl) (pv 0) pe_int (fun _ _ => rfl)) (pa_cons (pv 4) pa_nil))))))))), fun ds d h => ?_⟩
    obtain ⟨m, rs, n, rfl, rfl, hm, hn⟩ := h
    have h6 := hm.l6
    have hpow : ∀ i, i ≤ 3 → 6 ^ i ≤ 216 := fun i hi => Nat.le_trans (Nat.pow_le_pow_right (by decide) hi) (by decide)
    refine q_asg (ev_lst (ea_cons ev_str ea_nil) (by show 1 ≤ _; decide)) asg_name ?_
    refine q_for (K := { nx := _, rt := _ }) (ei_rng1 (n := (n : Int)) (ea_cons (ev_var rfl) ea_nil) (by omega) (by omega)) (fun i μ ρ => μ = mu0 ∧ ∃ x, ρ = [some (eFolk m rs), some (.int (n : Nat)), some (.lst ((textsT m i).map D.str)), x, none, none]) ⟨rfl, none, rfl⟩ ?_ ?_
    · rintro i d μ ρ hd ⟨rfl, x, rfl⟩
      have hi : i < n := by
        have := (List.getElem?_eq_some_iff.mp hd).1
        unfold upTo at this
        rw [List.length_map, List.length_range] at this
        omega
      refine ⟨_, _, asg_name, ?_⟩
      refine sv_asg (d := .lst ((textsT m (i + 1)).map D.str)) (Ev.is (ev_lc2 (xs := textsT m i) (ys := fun _ => m.cps.toList) (f := condT) (h := fun t c => D.str (t ++ ⟨#[c]⟩)) (ei_seqL (ev_var rfl)) (by simp) (fun x _ => asg_name) (fun x _ => ei_sg (ev_op (ev_var rfl) ev_int (rd_ixT rfl))) (by simp) (fun x _ y _ => asg_name) (fun t ht c hc => ?_) (fun t ht c hc _ => ev_op (ev_var rfl) (ev_var rfl) (rd_addS ?_)) ?_) ?_) asg_name ⟨rfl, _, rfl⟩
      · obtain ⟨e1, e2⟩ := textsT_each i t ht
        have hp : pl 9 (.str t) = true := str_pl t (fun c hc => hm.lt (e2 c hc)) 9
        have hb : (t.cps.toList.isEmpty) = true ↔ D.str t = D.str ⟨#[]⟩ := by
          rw [List.isEmpty_iff]
          refine ⟨fun e => congrArg D.str (str_ext e), fun e => ?_⟩
          rw [D.str.inj e]
        cases hg : t.cps.toList.getLast? with
        | none =>
          have hnil : t.cps.toList = [] := List.getLast?_eq_none_iff.mp hg
          refine EvT.is (et_or (b := true) (et_test (ev_op (ev_var rfl) ev_str (rd_eq hp (by decide +kernel) hb))) fun e => ?_) ?_
          · rw [hnil] at e
            cases e
          · unfold condT
            rw [hg, hnil]
            rfl
        | some a =>
          have hne : t.cps.toList ≠ [] := fun e => by
            rw [e] at hg
            cases hg
          refine EvT.is (et_or (et_test (ev_op (ev_var rfl) ev_str (rd_eq hp (by decide +kernel) hb))) fun e => et_test (ev_op (ev_op (ev_var rfl) (ev_un ev_int ud_neg) (rd_ixS (c := a) (by omega) ((atI_last _ hne).trans hg))) (ev_var rfl) rd_leS)) ?_
          unfold condT
          rw [hg, sLt_one]
          have : t.cps.toList.isEmpty = false := by
            cases h : t.cps.toList with
            | nil => exact absurd h hne
            | cons _ _ => rfl
          rw [this, Bool.false_or]
          by_cases h : a ≤ c
          · simp [h]
          · simp [h]
            omega
      · obtain ⟨e1, e2⟩ := textsT_each i t ht
        rw [e1]
        show i + 1 ≤ _
        omega
      · rw [← growT_flat]
        rw [List.length_map]
        have := textsT_len h6 (i + 1)
        have := hpow (i + 1) (by omega)
        show (textsT m (i + 1)).length ≤ _
        omega
      · rw [← growT_flat]
        rfl
    · rintro μ ρ ⟨rfl, x, rfl⟩
      have e : (upTo 0 ((n : Int)).toNat).length = n := by
        unfold upTo
        rw [List.length_map, List.length_range]
        omega
      rw [e]
      have h1 := textsT_len h6 n
      have h2 := hpow n hn
      refine sv_ret (d := .lst ((crowdsT m n).map eCrowd)) (Ev.is (ev_lc1 (xs := textsT m n) (h := fun t => eCrowd (cn m t)) (ei_seqL (ev_var rfl)) (by simp) (fun x _ => asg_name) (fun x _ => ev_call0 (ea_cons (ev_op (ev_var rfl) ev_int (rd_ixT rfl)) (ea_cons (ev_var rfl) ea_nil)) (spD ⟨m, x, rfl, rfl, by omega⟩)) (by omega)) ?_) rfl
      unfold crowdsT
      rw [List.map_map]
      rfl
end
end Mf
set_option maxRecDepth 100000
set_option maxHeartbeats 4000000
/-! Meetfolk: the tables' defs. -/
namespace Mf
open PySem L2 PyProof.Rows
variable [Tt] [Xw]
local macro_rules
  | `(tactic| walk_at "rd") => `(tactic| first
    | exact rd_addI | refine rd_addL ?_ | refine rd_addS ?_ | exact rd_sub | refine rd_mulI ?_ | refine rd_mulL ?_ ?_ ?_ | refine rd_mulS ?_ ?_ ?_ | refine rd_div ?_ | refine rd_mod ?_ | refine rd_pow ?_ | exact ud_neg
    | exact rd_ltI | exact rd_leI | exact rd_gtI | exact rd_geI | exact rd_ltS | exact rd_leS | exact rd_eqI | exact rd_neI
    | exact rd_ixT rfl | exact rd_ixL rfl | exact cd_lenL | exact cd_lenT | exact cd_int | exact cd_abs | exact cd_tupL | exact cd_listL | exact cd_listT | exact cd_all | exact cd_any | exact cd_sumT | exact bd_count)
local macro_rules
  | `(tactic| walk_at "ev1") => `(tactic| first
    | exact ev_int | exact ev_str | exact ev_bl | exact ev_non | exact ea_nil | refine ea_cons ?_ ?_ | exact ev_var rfl | exact ev_ty
    | refine ev_op ?_ ?_ ?_ | refine ev_un ?_ ?_ | refine ev_cb ?_ ?_ | refine ev_tup ?_ (by decide) | refine ev_bm ?_ ?_ ?_
    | exact et_yes | refine et_test ?_ | refine et_B ?_ | refine et_or ?_ (fun _ => ?_) | refine et_and ?_ (fun _ => ?_) | refine ev_andV ?_ (fun _ => ?_) | refine ev_orV ?_ (fun _ => ?_) | refine ev_notV ?_ | refine ev_chain ?_ ?_ ?_ (fun _ => ?_) (fun _ => ?_) | refine et_not ?_ | exact eo_none | refine eo_some ?_ | walk_at "rd")
local macro_rules
  | `(tactic| walk_at "ev") => `(tactic| repeat' walk_at "ev1")

def CDivWok (g : Nat) : Prop := 0 < (g : Int) ∧ ((g : Nat) : Int).natAbs.log2 < 9000
theorem CDivWok.to {g : Nat} (h : CDivWok g) {i : Int} : CDivW i (g : Int) := ⟨h.1, h.2⟩
/-! ### a, b = x, y -/
section
variable {μ : Mu} {ρ ρ' : DEnv} {K : Kt} {t u : TS} {Kf : PySem.W.Frag} {ta : TA}
theorem q_par2 {i j : Nat} {d e : D} (h : EvA μ ta ρ [d, e]) (k : Sv μ u ((ρ.set i (some d)).set j (some e)) K) : Sv μ (tSeq (tPar i j ta) u) ρ K := fun σ F M H rs rm w E tk =>
  h σ F M H rs rm w _ fun vs F2 H2 e2 w2 r2 => by
    cases r2 with
    | cons a r2 =>
      cases r2 with
      | cons b r2 =>
        cases r2
        exact ⟨_, _, rfl, k _ F2 M H2 (((rs.mono e2).set i a).set j b) (rm.mono e2) w2 E (tk.step (Stp.pure rm e2 w2))⟩
theorem sv_par2 {i j : Nat} {d e : D} (h : EvA μ ta ρ [d, e]) (k : K.nx μ ((ρ.set i (some d)).set j (some e))) : Sv μ (tPar i j ta) ρ K := fun σ F M H rs rm w E tk =>
  h σ F M H rs rm w _ fun vs F2 H2 e2 w2 r2 => by
    cases r2 with
    | cons a r2 =>
      cases r2 with
      | cons b r2 =>
        cases r2
        exact ⟨_, _, rfl, tk.nx μ _ _ F2 M H2 k (Stp.pure rm e2 w2) (((rs.mono e2).set i a).set j b)⟩
theorem q_par3 {i j l : Nat} {d e f : D} (h : EvA μ ta ρ [d, e, f]) (k : Sv μ u (((ρ.set i (some d)).set j (some e)).set l (some f)) K) : Sv μ (tSeq (tPar3 i j l ta) u) ρ K := fun σ F M H rs rm w E tk =>
  h σ F M H rs rm w _ fun vs F2 H2 e2 w2 r2 => by
    cases r2 with
    | cons a r2 =>
      cases r2 with
      | cons b r2 =>
        cases r2 with
        | cons c r2 =>
          cases r2
          exact ⟨_, _, _, rfl, k _ F2 M H2 ((((rs.mono e2).set i a).set j b).set l c) (rm.mono e2) w2 E (tk.step (Stp.pure rm e2 w2))⟩
/-! ### l.index(x) -/
theorem toPs_get : ∀ (l : List D) (j : Nat), (toPs l)[j]? = l[j]?.map toP
  | [], j => by simp [toPs]
  | d :: l, 0 => by simp [toPs]
  | d :: l, j + 1 => by simp [toPs, toPs_get l j]
theorem row_pl (c : List Int) : pl 8 (eRow c) = true := by
  show (decide (1 ≤ 8) && pls 7 (c.map D.int)) = true
  rw [pls_ints]
  rfl
theorem row_inj {a b : List Int} (h : eRow a = eRow b) : a = b := by
  have h1 := D.lst.inj h
  exact (List.map_inj_right (fun x y e => D.int.inj e)).mp h1
theorem bd_index {l : List (List Int)} {h : List Int} (hm : h ∈ l) : BD μ Kf "list" (rIndexD Kf) (.lst (l.map eRow)) [eRow h] (.int (l.idxOf h : Nat)) := fun F M H v r1 rm wd => by
  have hl : pl 9 (.lst (l.map eRow)) = true := by
    show (decide (1 ≤ 9) && pls 8 (l.map eRow)) = true
    rw [pls_map fun x _ => row_pl x]
    rfl
  have hh : pl 9 (eRow h) = true := by
    show (decide (1 ≤ 9) && pls 8 (h.map D.int)) = true
    rw [pls_ints]
    rfl
  cases r1 with
  | lst h1 t1 =>
    refine ⟨Or.inl ⟨rfl, _, Or.inl (Or.inl (wd.f _ _ h1))⟩, fun F1 H1 vs e1 w1 r2 Q q => ?_⟩
    cases r2 with
    | cons r2 r3 =>
      cases r3
      have hj : l.idxOf h < l.length := List.idxOf_lt_length_of_mem hm
      refine ⟨_, _, toP (eRow h), toPs (l.map eRow), l.idxOf h, toP (eRow h), rfl, rfl, rep_dp w1 (.lst (l.map eRow)) _ 9 hl (.lst (e1 _ _ h1) (t1.mono e1)), rep_dp w1 _ _ 9 hh r2, pl_shaped (d := .lst (l.map eRow)) hl, pl_shaped hh, ?_, ?_, ?_, ?_⟩
      · rw [toPs_get, List.getElem?_map, List.getElem?_eq_getElem hj, List.getElem_idxOf hj]
        rfl
      · exact (eqv_iff _ _ 9 9 hh hh).mpr rfl
      · intro m z hlt hz
        rw [toPs_get, List.getElem?_map, List.getElem?_eq_getElem (by omega)] at hz
        obtain rfl := Option.some.inj hz
        cases hb : PyData.eqv (toP (eRow l[m])) (toP (eRow h)) with
        | false => rfl
        | true =>
          have e := row_inj ((eqv_iff _ _ 9 9 (by
            show (decide (1 ≤ 9) && pls 8 (l[m].map D.int)) = true
            rw [pls_ints]
            rfl) hh).mp hb)
          have := List.not_of_lt_findIdx (p := fun x => x == h) (xs := l) hlt
          rw [e] at this
          simp at this
      · exact q _ F1 H1 (Same.refl _) w1 (.int _)
end
abbrev sCommon : Stmt := topS 33
theorem scCommon : FnScope ["one", "other"] ["one", "other"] (defScope sCommon) := ⟨rfl, rfl, rfl, by decide +kernel, rfl, by decide +kernel, by decide +kernel⟩
abbrev sWithoutPart : Stmt := topS 34
theorem scWithoutPart : FnScope ["row", "part", "number", "first"] ["row"] (defScope sWithoutPart) := ⟨rfl, rfl, rfl, by decide +kernel, rfl, by decide +kernel, by decide +kernel⟩
abbrev sCleared : Stmt := topS 35
theorem scCleared : FnScope ["row", "head", "at", "number", "other"] ["row", "head", "at"] (defScope sCleared) := ⟨rfl, rfl, rfl, by decide +kernel, rfl, by decide +kernel, by decide +kernel⟩
abbrev sLedRows : Stmt := topS 36
theorem scLedRows : FnScope ["rows", "left", "found", "size", "at", "heads", "head", "place", "rest", "row"] ["rows"] (defScope sLedRows) := ⟨rfl, rfl, rfl, by decide +kernel, rfl, by decide +kernel, by decide +kernel⟩
abbrev sFirstPlace : Stmt := topS 37
theorem scFirstPlace : FnScope ["row", "at", "number"] ["row"] (defScope sFirstPlace) := ⟨rfl, rfl, rfl, by decide +kernel, rfl, by decide +kernel, by decide +kernel⟩
abbrev sNothingBy : Stmt := topS 38
theorem scNothingBy : FnScope ["rows", "size", "led", "firsts", "found", "free", "most", "row", "one", "at"] ["rows", "size"] (defScope sNothingBy) := ⟨rfl, rfl, rfl, by decide +kernel, rfl, by decide +kernel, by decide +kernel⟩
section
variable {P : Program} {w : World} {K : PySem.W.Frag} {mg : Str → Option Value} {base : Heap}
def fCommon (ds : List D) (d : D) : Prop := ∃ a b : Nat, ds = [.int (a : Nat), .int (b : Nat)] ∧ d = .int (Nat.gcd a b : Nat)
theorem dCommon (F : FunAt K mg "common" sCommon ["one", "other"]) : Def P w K mg base CX0 "common" 1 ["one", "other"] [] (spF fCommon) := by
  refine F.def_ scCommon (fun ds d h => ?_) (fun cdv A outer s H E f hr => ?_)
  · obtain ⟨a, b, rfl, _⟩ := h
    rfl
  · refine ⟨_, (pss_cons (ps_while PassesOwn.never (pt_cmpR op_gtU (pv 1) pe_int (nomark _)) (pss_one (ps_par (i := 0) (j := 1) rfl scCommon.nd rfl rfl (by decide) (by rfl) (by rfl) (pa_cons (pv 1) (pa_cons (pe_op op_modU (pv 0) (pv 1)) pa_nil)) (by rfl) (by rfl))))
      (pss_one (ps_ret (pv 0)))), fun ds d h => ?_⟩
    obtain ⟨a, b, rfl, rfl⟩ := h
    refine q_while (fun k μ ρ => ∃ x y : Nat, k = y ∧ μ = mu0 ∧ ρ = [some (.int (x : Nat)), some (.int (y : Nat))] ∧ Nat.gcd x y = Nat.gcd a b) b ⟨a, b, rfl, rfl, rfl, rfl⟩ ?_
    rintro k μ ρ ⟨x, y, rfl, rfl, rfl, hg⟩
    refine ⟨decide ((0 : Int) < (k : Int)), et_test (ev_op (ev_var rfl) ev_int rd_gtI), fun hb => ?_, fun hb => ?_⟩
    · have hk : 0 < k := by
        have := of_decide_eq_true hb
        omega
      refine sv_par2 (ea_cons (ev_var rfl) (ea_cons (ev_op (ev_var rfl) (ev_var rfl) (rd_mod (by omega))) ea_nil)) ⟨x % k, Nat.mod_lt _ hk, k, x % k, rfl, rfl, ?_, ?_⟩
      · rw [← Int.natCast_emod]
        rfl
      · rw [← hg, Nat.gcd_comm k, ← Nat.gcd_rec, Nat.gcd_comm]
    · have hk : k = 0 := by
        have := of_decide_eq_false hb
        omega
      subst hk
      rw [Nat.gcd_zero_right] at hg
      rw [← hg]
      exact sv_ret (ev_var rfl) rfl
def fWithout (ds : List D) (d : D) : Prop := ∃ ns : List Int, ds = [eRow ns] ∧ d = eCrowd (primL ns) ∧ (∀ x ∈ ns, x.natAbs < 2 ^ 9000) ∧ ns.length ≤ 1000
theorem dWithoutPart (F : FunAt K mg "without_part" sWithoutPart ["row"]) (T : Bts mg) (DCommon : Def P w K mg base CX0 "common" 1 ["one", "other"] [] (spF fCommon)) : Def P w K mg base CX0 "without_part" 2 ["row"] [] (spF fWithout) := by
  refine F.def_ scWithoutPart (fun ds d h => ?_) (fun cdv A outer s H E f hr => ?_)
  · obtain ⟨a, rfl, _⟩ := h
    rfl
  · refine ⟨_, (pss_cons (ps_set (i := 1) scWithoutPart.nd rfl (by first | exact Or.inl rfl | exact Or.inr rfl) pe_int)
      (pss_cons (ps_for PassesOwn.never rfl (uSeq K rfl (pv 0)) (pg_name (i := 2) scWithoutPart.nd rfl (by first | exact Or.inl rfl | exact Or.inr rfl)) (pss_one (ps_set (i := 1) scWithoutPart.nd rfl (by first | exact Or.inl rfl | exact Or.inr rfl) (pe_def DCommon hr (by decide) (by rfl) pass0 (pa_cons (pv 1) (pa_cons (pe_callB call_absU (by rfl) T.abs (by decide +kernel) (pa_cons (pv 2) pa_nil)) pa_nil))))))
      (pss_cons (ps_if (pt_cmpR (uEq K rfl (hu64 hr)) (pv 1) pe_int (nomark _)) (pss_one (ps_ret (pe_callTy (uTup K rfl) (by rfl) T.tuple (by decide +kernel) (pa_cons (pv 0) pa_nil)))) pss_nil)
      (pss_cons (ps_set (i := 3) scWithoutPart.nd rfl (by first | exact Or.inl rfl | exact Or.inr rfl) (pe_ix (uIx K rfl) (pe_lc (own := [("number", 2)]) (g := (gName 2))  rfl scWithoutPart.nd (uSeq K rfl (pv 0)) (blkOk_by (N := ["row", "part", "number", "first"]) (sc := (defScope sWithoutPart)) (by decide +kernel)) (fun _ _ _ _ _ => (pg_name (i := 2) scWithoutPart.nd rfl (by first | exact Or.inl rfl | exact Or.inr rfl))) (fun _ _ _ _ _ => pts_one (pt_cmpR (uNe K rfl (hu64 hr)) (pv 2) pe_int (nomark _))) (fun _ _ _ _ _ => (pv 2))) pe_int (fun _ _ => rfl)))
      (pss_one (ps_ret (pe_callTy (uTup K rfl) (by rfl) T.tuple (by decide +kernel) (pa_cons (pe_lc (own := [("number", 2)]) (g := (gName 2)) (tt := tYes) rfl scWithoutPart.nd (uSeq K rfl (pv 0)) (blkOk_by (N := ["row", "part", "number", "first"]) (sc := (defScope sWithoutPart)) (by decide +kernel)) (fun _ _ _ _ _ => (pg_name (i := 2) scWithoutPart.nd rfl (by first | exact Or.inl rfl | exact Or.inr rfl))) (fun _ _ _ _ _ => pts_nil) (fun _ _ _ _ _ => (pe_ifExp (pt_cmpR op_gtU (pv 3) pe_int (nomark _)) (pe_op op_divU (pv 2) (pv 1)) (pe_op op_divU (pe_un un_negU (pv 2)) (pv 1))))) pa_nil)))))))), fun ds d h => ?_⟩
    obtain ⟨ns, rfl, rfl, hb, hl⟩ := h
    refine q_asg ev_int asg_name ?_
    refine q_for (ei_seqL (ds := ns.map D.int) (ev_var rfl)) (fun i μ ρ => μ = mu0 ∧ ∃ x, ρ = [some (eRow ns), some (.int (gcdL (ns.take i) : Nat)), x, none]) ⟨rfl, none, rfl⟩ ?_ ?_
    · rintro i d μ ρ hd ⟨rfl, x, rfl⟩
      rw [List.getElem?_map] at hd
      obtain ⟨y, hy, rfl⟩ := Option.map_eq_some_iff.mp hd
      obtain ⟨hi, rfl⟩ := List.getElem?_eq_some_iff.mp hy
      refine ⟨_, _, asg_name, sv_asg (ev_call0 (ea_cons (ev_var rfl) (ea_cons (ev_cb (ea_cons (ev_var rfl) ea_nil) cd_abs) ea_nil)) (spD ⟨_, _, rfl, rfl⟩)) asg_name ⟨rfl, some (.int ns[i]), ?_⟩⟩
      rw [gcdL_take hi]
      rfl
    · rintro μ ρ ⟨rfl, x, rfl⟩
      rw [List.length_map, List.take_length]
      refine q_if (b := decide (((gcdL ns : Nat) : Int) = 0)) (et_test (ev_op (ev_var rfl) ev_int rd_eqI)) (fun h0 => ?_) fun h0 => ?_
      · have e0 : gcdL ns = 0 := by
          have := of_decide_eq_true h0
          omega
        refine q_ret (sv_ret (d := eCrowd (primL ns)) (Ev.is (ev_cb (ea_cons (ev_var rfl) ea_nil) cd_tupL) ?_) rfl)
        unfold primL
        rw [if_pos e0]
      · have e0 : gcdL ns ≠ 0 := by
          have := of_decide_eq_false h0
          omega
        have hlead := lead_of_ne (gcdL_ne e0)
        have hg : CDivWok (gcdL ns) := ⟨by omega, by
          have := gcdL_lt hb e0
          rw [Int.natAbs_natCast]
          exact (Nat.log2_lt e0).mpr this⟩
        refine q_next (q_asg (ev_op (ev_lc (xs := ns) (enc := D.int) (h := D.int) (f := fun n => !decide (n = 0)) (ei_seqL (ev_var rfl)) (by simp) (fun x _ => asg_name) (fun x _ => et_test (ev_op (ev_var rfl) ev_int rd_neI)) (fun x _ _ => ev_var rfl) (by omega)) ev_int (rd_ixL (fnz_at hlead))) asg_name ?_)
        refine sv_ret (d := eCrowd (primL ns)) (Ev.is (ev_tupI (xs := ns) (enc := D.int) (f := fun n => if decide (0 < fnz ns) = true then n / (gcdL ns : Int) else -n / (gcdL ns : Int)) (ei_seqL (ev_var rfl)) (by simp) (fun x _ => asg_name) (fun x _ => ev_if (et_test (ev_op (ev_var rfl) ev_int rd_gtI)) (fun hp => Ev.is (ev_op (ev_var rfl) (ev_var rfl) (rd_div (CDivWok.to hg))) ?_) fun hp => Ev.is (ev_op (ev_un (ev_var rfl) ud_neg) (ev_var rfl) (rd_div (CDivWok.to hg))) ?_) (by omega)) ?_) rfl
        · rw [if_pos hp]
        · rw [hp]
          rfl
        · unfold primL
          rw [if_neg e0]
          by_cases hf : 0 < fnz ns
          · rw [if_pos hf, decide_eq_true hf]
            rfl
          · rw [if_neg hf, decide_eq_false hf]
            rfl
/-- a row, as a list or as a tuple -/
def eRw (tp : Bool) (c : List Int) : D := if tp then eCrowd c else eRow c
def fCleared (ds : List D) (d : D) : Prop := ∃ (tp : Bool) (row head : List Int) (a : Nat), ds = [eRw tp row, eCrowd head, .int (a : Nat)] ∧ d = eCrowd (clr row head a) ∧ (∀ x ∈ row, x.natAbs < 2 ^ 4400) ∧ (∀ x ∈ head, x.natAbs < 2 ^ 4400) ∧ row.length = head.length ∧ a < row.length ∧ row.length ≤ 1000
theorem dCleared (F : FunAt K mg "cleared" sCleared ["row", "head", "at"]) (T : Bts mg) (DWithoutPart : Def P w K mg base CX0 "without_part" 2 ["row"] [] (spF fWithout)) : Def P w K mg base CX0 "cleared" 3 ["row", "head", "at"] [] (spF fCleared) := by
  refine F.def_ scCleared (fun ds d h => ?_) (fun cdv A outer s H E f hr => ?_)
  · obtain ⟨tp, row, head, a, rfl, _⟩ := h
    rfl
  · refine ⟨_, (pss_one (ps_ret (pe_def DWithoutPart hr (by decide) (by rfl) pass0 (pa_cons (pe_lc (own := [("number", 3), ("other", 4)]) (g := (gTup K 2 (gCons (gName 3) (gCons (gName 4) gNil)))) (tt := tYes) rfl scCleared.nd (pi_zip2 (by rfl) T.zip (pa_cons (pv 0) (pa_cons (pv 1) pa_nil))) (blkOk_by (N := ["row", "head", "at", "number", "other"]) (sc := (defScope sCleared)) (by decide +kernel)) (fun _ _ _ _ _ => (uGtup K rfl (pg_tup rfl (pgs_cons (pg_name (i := 3) scCleared.nd rfl (by first | exact Or.inl rfl | exact Or.inr rfl)) (pgs_cons (pg_name (i := 4) scCleared.nd rfl (by first | exact Or.inl rfl | exact Or.inr rfl)) pgs_nil))))) (fun _ _ _ _ _ => pts_nil) (fun _ _ _ _ _ => (pe_op op_subU (pe_op op_mulU (pv 3) (pe_ix (uIx K rfl) (pv 1) (pv 2) (fun _ _ => rfl))) (pe_op op_mulU (pv 4) (pe_ix (uIx K rfl) (pv 0) (pv 2) (fun _ _ => rfl)))))) pa_nil)))), fun ds d h => ?_⟩
    obtain ⟨tp, row, head, a, rfl, rfl, h1, h2, hl, ha, hL⟩ := h
    have sq : Sq (eRw tp row) (row.map D.int) := by
      cases tp with
      | true => exact .tup _
      | false => exact .lst _
    have ix : ∀ {μ : Mu}, RD μ (rIx K) (eRw tp row) (.int (a : Nat)) (.int (row.getD a 0)) := by
      cases tp with
      | true => exact rd_ixT (atI_ints ha)
      | false => exact rd_ixL (atI_ints ha)
    have hx : ∀ {r : List Int}, (∀ x ∈ r, x.natAbs < 2 ^ 4400) → ∀ x ∈ r, x.natAbs < 2 ^ 400000 := fun h x hx => Nat.lt_of_lt_of_le (h x hx) (Nat.pow_le_pow_right (by decide) (by decide))
    have hg : ∀ {r : List Int}, (∀ x ∈ r, x.natAbs < 2 ^ 4400) → ∀ j, (r.getD j 0).natAbs < 2 ^ 400000 := fun h j => getD_bd (Nat.two_pow_pos _) (hx h) j
    refine sv_ret (d := eCrowd (clr row head a)) (ev_call0 (ds := [eRow ((row.zip head).map fun p => p.1 * head.getD a 0 - p.2 * row.getD a 0)]) (ea_cons (Ev.is (ev_lc1 (h := fun p => D.int (p.1 * head.getD a 0 - p.2 * row.getD a 0)) ((ei_zip2 (ea_cons (ev_var rfl) (ea_cons (ev_var rfl) ea_nil)) sq (.tup _)).is zip2_map) (by simp) (fun x _ => asg_tup2) (fun x hm => ev_op (ev_op (ev_var rfl) (ev_op (ev_var rfl) (ev_var rfl) (rd_ixT (atI_ints (by omega)))) (rd_mulI (mulOk (hx h1 _ (List.of_mem_zip hm).1) (hg h2 a)))) (ev_op (ev_var rfl) (ev_op (ev_var rfl) (ev_var rfl) ix) (rd_mulI (mulOk (hx h2 _ (List.of_mem_zip hm).2) (hg h1 a)))) rd_sub) (by rw [List.length_zip]; omega)) ?_) ea_nil) (spD ⟨_, rfl, rfl, ?_, ?_⟩)) rfl
    · unfold eRow
      rw [List.map_map]
      rfl
    · exact fun x hx => Nat.lt_of_lt_of_le (crs_bd h1 h2 a x hx) (Nat.pow_le_pow_right (by decide) (by decide))
    · rw [List.length_map, List.length_zip]
      omega
def fLedRows (ds : List D) (d : D) : Prop := ∃ (tp : Bool) (rows : List (List Int)) (n b : Nat), ds = [.lst (rows.map (eRw tp))] ∧ d = .lst ((ledRows rows n).map eCrowd) ∧ (∀ r ∈ rows, r.length = n) ∧ (∀ r ∈ rows, ∀ x ∈ r, x.natAbs < 2 ^ b) ∧ n ≤ 100 ∧ bits b n ≤ 8800 ∧ rows.length ≤ 1000
theorem dLedRows (F : FunAt K mg "led_rows" sLedRows ["rows"]) (T : Bts mg) (DWithoutPart : Def P w K mg base CX0 "without_part" 2 ["row"] [] (spF fWithout)) (DCleared : Def P w K mg base CX0 "cleared" 3 ["row", "head", "at"] [] (spF fCleared)) :
    Def P w K mg base CX0 "led_rows" 4 ["rows"] [] (spF fLedRows) := by
  refine F.def_ scLedRows (fun ds d h => ?_) (fun cdv A outer s H E f hr => ?_)
  · obtain ⟨tp, row, n, b, rfl, _⟩ := h
    rfl
  · refine ⟨_, (pss_cons (ps_par3 (i := 1) (j := 2) (l := 3) rfl scLedRows.nd rfl rfl rfl (by decide) (by decide) (by decide) (by rfl) (by rfl) (by rfl) (pa_cons (pe_lc (own := [("row", 9)]) (g := (gName 9)) (tt := tYes) rfl scLedRows.nd (uSeq K rfl (pv 0)) (blkOk_by (N := ["rows", "left", "found", "size", "at", "heads", "head", "place", "rest", "row"]) (sc := (defScope sLedRows)) (by decide +kernel)) (fun _ _ _ _ _ => (pg_name (i := 9) scLedRows.nd rfl (by first | exact Or.inl rfl | exact Or.inr rfl))) (fun _ _ _ _ _ => pts_nil) (fun _ _ _ _ _ => (pe_callTy (uList K rfl rfl) (by rfl) T.list (by decide +kernel) (pa_cons (pv 9) pa_nil)))) (pa_cons (pe_lst pa_nil) (pa_cons (pe_ifExp (pt_cmpR (uNe K rfl (hu64 hr)) (pv 0) (pe_lst pa_nil) (nomark _)) (pe_callB (uLen K rfl) (by rfl) T.len (by decide +kernel) (pa_cons (pe_ix (uIx K rfl) (pv 0) pe_int (fun _ _ => rfl)) pa_nil)) pe_int) pa_nil))) (by rfl) (by rfl))
      (pss_cons (ps_for PassesOwn.never rfl (pi_range1 (by rfl) T.range (pa_cons (pv 3) pa_nil)) (pg_name (i := 4) scLedRows.nd rfl (by first | exact Or.inl rfl | exact Or.inr rfl)) (pss_cons (ps_setLc (i := 5) (own := [("row", 9)]) (g := (gName 9))  rfl scLedRows.nd rfl rfl (sw_true rfl rfl rfl (by decide +kernel)) (uSeq K rfl (pv 1)) (blkOk_by (N := ["rows", "left", "found", "size", "at", "heads", "head", "place", "rest", "row"]) (sc := (defScope sLedRows)) (by decide +kernel)) (fun _ _ _ _ _ => (pg_name (i := 9) scLedRows.nd rfl (by first | exact Or.inl rfl | exact Or.inr rfl))) (fun _ _ _ _ _ => pts_one (pt_cmpR (uNe K rfl (hu64 hr)) (pe_ix (uIx K rfl) (pv 9) (pv 4) (fun _ _ => rfl)) pe_int (nomark _))) (fun _ _ _ _ _ => (pv 9)))
      (pss_one (ps_if (pt_cmpR (uNe K rfl (hu64 hr)) (pv 5) (pe_lst pa_nil) (nomark _)) (pss_cons (ps_set (i := 6) scLedRows.nd rfl (by first | exact Or.inl rfl | exact Or.inr rfl) (pe_def DWithoutPart hr (by decide) (by rfl) pass0 (pa_cons (pe_ix (uIx K rfl) (pv 5) pe_int (fun _ _ => rfl)) pa_nil)))
      (pss_cons (ps_set (i := 7) scLedRows.nd rfl (by first | exact Or.inl rfl | exact Or.inr rfl) (uBm K rfl PySem.F.plainAttrs_list PySem.F.slot_list_index PySem.F.type_list_index (uIndex K rfl (hu65 hr)) (pv 1) (pa_cons (pe_ix (uIx K rfl) (pv 5) pe_int (fun _ _ => rfl)) pa_nil)))
      (pss_cons (ps_set (i := 8) scLedRows.nd rfl (by first | exact Or.inl rfl | exact Or.inr rfl) (pe_op op_addU (pe_slice (uSl K rfl) (pv 1) po_none (po_some (pv 7))) (pe_slice (uSl K rfl) (pv 1) (po_some (pe_op op_addU (pv 7) pe_int)) po_none)))
      (pss_cons (ps_setLc (i := 1) (own := [("row", 9)]) (g := (gName 9)) (tt := tYes) rfl scLedRows.nd rfl rfl (sw_true rfl rfl rfl (by decide +kernel)) (uSeq K rfl (pv 8)) (blkOk_by (N := ["rows", "left", "found", "size", "at", "heads", "head", "place", "rest", "row"]) (sc := (defScope sLedRows)) (by decide +kernel)) (fun _ _ _ _ _ => (pg_name (i := 9) scLedRows.nd rfl (by first | exact Or.inl rfl | exact Or.inr rfl))) (fun _ _ _ _ _ => pts_nil) (fun _ _ _ _ _ => (pe_ifExp (pt_cmpR (uNe K rfl (hu64 hr)) (pe_ix (uIx K rfl) (pv 9) (pv 4) (fun _ _ => rfl)) pe_int (nomark _)) (pe_callTy (uList K rfl rfl) (by rfl) T.list (by decide +kernel) (pa_cons (pe_def DCleared hr (by decide) (by rfl) pass0 (pa_cons (pv 9) (pa_cons (pv 6) (pa_cons (pv 4) pa_nil)))) pa_nil)) (pv 9))))
      (pss_one (ps_set (i := 2) scLedRows.nd rfl (by first | exact Or.inl rfl | exact Or.inr rfl) (pe_op op_addU (pe_lc (own := [("row", 9)]) (g := (gName 9)) (tt := tYes) rfl scLedRows.nd (uSeq K rfl (pv 2)) (blkOk_by (N := ["rows", "left", "found", "size", "at", "heads", "head", "place", "rest", "row"]) (sc := (defScope sLedRows)) (by decide +kernel)) (fun _ _ _ _ _ => (pg_name (i := 9) scLedRows.nd rfl (by first | exact Or.inl rfl | exact Or.inr rfl))) (fun _ _ _ _ _ => pts_nil) (fun _ _ _ _ _ => (pe_ifExp (pt_cmpR (uNe K rfl (hu64 hr)) (pe_ix (uIx K rfl) (pv 9) (pv 4) (fun _ _ => rfl)) pe_int (nomark _)) (pe_def DCleared hr (by decide) (by rfl) pass0 (pa_cons (pv 9) (pa_cons (pv 6) (pa_cons (pv 4) pa_nil)))) (pv 9)))) (pe_lst (pa_cons (pv 6) pa_nil))))))))) pss_nil))))
      (pss_one (ps_ret (pv 2))))), fun ds d h => ?_⟩
    obtain ⟨tp, rows, n, b, rfl, rfl, h1, h2, hn, hb, hL⟩ := h
    have hLI := LI.all h1 h2
    have lcp : ∀ r : List Int, CD mu0 (rListU K) [eRw tp r] (eRow r) := fun r => by
      cases tp with
      | true => exact cd_listT
      | false => exact cd_listL
    have lln : ∀ r : List Int, CD mu0 (rLenU K) [eRw tp r] (.int (r.length : Nat)) := fun r => by
      cases tp with
      | true => exact (congrArg (fun k : Nat => CD mu0 (rLenU K) [eCrowd r] (.int (k : Nat))) (List.length_map (f := D.int) (as := r))).mp cd_lenT
      | false => exact (congrArg (fun k : Nat => CD mu0 (rLenU K) [eRow r] (.int (k : Nat))) (List.length_map (f := D.int) (as := r))).mp cd_lenL
    have rpl : ∀ r : List Int, pl 8 (eRw tp r) = true := fun r => by
      cases tp with
      | true =>
        show (decide (1 ≤ 8) && pls 7 (r.map D.int)) = true
        rw [pls_ints]
        rfl
      | false => exact row_pl r
    let sz : Nat := if rows = [] then 0 else n
    have hfin : (ledTo rows sz).2 = ledRows rows n := by
      show (ledTo rows (if rows = [] then 0 else n)).2 = _
      by_cases e : rows = []
      · rw [e, ledRows_nil, ledTo_nil]
      · rw [if_neg e]
        rfl
    have hszn : sz ≤ n := by
      show (if rows = [] then 0 else n) ≤ n
      split <;> omega
    refine q_par3 (d := .lst (rows.map eRow)) (e := .lst []) (f := .int (sz : Nat)) (ea_cons (ev_lc1 (ei_seqL (ev_var rfl)) (by simp) (fun x _ => asg_name) (fun x _ => ev_cb (ea_cons (ev_var rfl) ea_nil) (lcp x)) (by omega)) (ea_cons (ev_lst ea_nil (by decide)) (ea_cons (ev_if (et_test (ev_op (ev_var rfl) (ev_lst ea_nil (by decide)) (rd_neNil (pls_map fun x _ => rpl x)))) (fun hne => ?_) fun he => ?_) ea_nil))) ?_
    · cases rows with
      | nil => cases hne
      | cons r0 rt =>
        refine Ev.is (ev_cb (ea_cons (ev_op (ev_var rfl) ev_int (rd_ixL (atI_getD (j := 0) (by simp) .non))) ea_nil) (lln r0)) ?_
        rw [h1 r0 (List.mem_cons_self ..)]
        rfl
    · cases rows with
      | nil => exact ev_int
      | cons r0 rt => cases he
    refine q_for (ei_rng1 (n := (sz : Nat)) (ea_cons (ev_var rfl) ea_nil) (by omega) (by omega)) (fun i μ ρ => μ = mu0 ∧ ∃ x4 x5 x6 x7 x8 : Option D, ρ = [some (.lst (rows.map (eRw tp))), some (.lst ((ledTo rows i).1.map eRow)), some (.lst ((ledTo rows i).2.map eCrowd)), some (.int (sz : Nat)), x4, x5, x6, x7, x8, none]) ⟨rfl, none, none, none, none, none, rfl⟩ ?_ ?_
    · rintro i d μ ρ hd ⟨rfl, x4, x5, x6, x7, x8, rfl⟩
      have hi : i < sz ∧ d = .int (0 + (i : Nat)) := by
        unfold upTo at hd
        rw [List.getElem?_map] at hd
        obtain ⟨y, hy, rfl⟩ := Option.map_eq_some_iff.mp hd
        obtain ⟨hi, rfl⟩ := List.getElem?_eq_some_iff.mp hy
        rw [List.length_range] at hi
        rw [List.getElem_range]
        exact ⟨by omega, rfl⟩
      obtain ⟨hi, rfl⟩ := hi
      rw [Int.zero_add]
      have L := hLI i
      have hin : i < n := by omega
      have hsm := L.small hin hb
      have hl1 := ledTo_len1 rows i
      have hl2 := L.cnt
      have at1 : ∀ r ∈ (ledTo rows i).1, i < r.length := fun r hr => by rw [L.len1 r hr]; exact hin
      have at2 : ∀ r ∈ (ledTo rows i).2, i < r.length := fun r hr => by rw [L.len2 r hr]; exact hin
      refine ⟨_, _, asg_name, ?_⟩
      refine q_asg (ev_lc (xs := (ledTo rows i).1) (f := nz i) (h := eRow) (ei_seqL (ev_var rfl)) (by simp) (fun x _ => asg_name) (fun x hx => et_test (ev_op (ev_op (ev_var rfl) (ev_var rfl) (rd_ixL (atI_ints (at1 x hx)))) ev_int rd_neI)) (fun x _ _ => ev_var rfl) (by omega)) asg_name ?_
      have hst : ledTo rows (i + 1) = ledStep i (ledTo rows i) := rfl
      unfold ledStep at hst
      refine sv_if (et_test (ev_op (ev_var rfl) (ev_lst ea_nil (by decide)) (rd_neNil (pls_map fun x _ => row_pl x)))) (fun hne => ?_) fun he => ?_
      · cases hf : (ledTo rows i).1.filter (nz i) with
        | nil =>
          rw [hf] at hne
          cases hne
        | cons h tl =>
          rw [hf] at hst
          have hm : h ∈ (ledTo rows i).1 := (List.mem_filter.mp (hf ▸ List.mem_cons_self .. : h ∈ (ledTo rows i).1.filter (nz i))).1
          have hhl : (primL h).length = n := (primL_len h).trans (L.len1 h hm)
          have hhb : ∀ x ∈ primL h, x.natAbs < 2 ^ 4400 := fun x hx => lt_pow (primL_small (L.bd1 h hm) x hx) hsm
          have hj : (ledTo rows i).1.idxOf h < (ledTo rows i).1.length := List.idxOf_lt_length_of_mem hm
          have sub : ∀ r ∈ (ledTo rows i).1.take ((ledTo rows i).1.idxOf h) ++ (ledTo rows i).1.drop ((ledTo rows i).1.idxOf h + 1), r ∈ (ledTo rows i).1 := fun r hr => by
            rcases List.mem_append.mp hr with q | q
            · exact List.mem_of_mem_take q
            · exact List.mem_of_mem_drop q
          have hsl : ((ledTo rows i).1.take ((ledTo rows i).1.idxOf h) ++ (ledTo rows i).1.drop ((ledTo rows i).1.idxOf h + 1)).length ≤ 1000 := by
            rw [List.length_append, List.length_take, List.length_drop]
            omega
          refine q_asg (ev_call0 (ea_cons (ev_op (ev_var rfl) ev_int (rd_ixL (d := eRow h) (by rw [List.map_cons]; exact atI_getD (j := 0) (by simp) .non))) ea_nil) (spD ⟨h, rfl, rfl, fun x hx => lt_pow (L.bd1 h hm x hx) (by omega), by rw [L.len1 h hm]; omega⟩)) asg_name ?_
          refine q_asg (ev_bm (ev_var rfl) (ea_cons (ev_op (ev_var rfl) ev_int (rd_ixL (d := eRow h) (by rw [List.map_cons]; exact atI_getD (j := 0) (by simp) .non))) ea_nil) (bd_index hm)) asg_name ?_
          refine q_asg (d := .lst (((ledTo rows i).1.take ((ledTo rows i).1.idxOf h) ++ (ledTo rows i).1.drop ((ledTo rows i).1.idxOf h + 1)).map eRow)) (Ev.is (ev_op (ev_sl (ev_var rfl) eo_none (eo_some (ev_var rfl)) sd_L) (ev_sl (ev_var rfl) (eo_some (ev_op (ev_var rfl) ev_int rd_addI)) eo_none sd_L) (rd_addL ?_)) ?_) asg_name ?_
          · rw [cutD_head (by rw [List.length_map]; omega), ← Int.natCast_add_one, cutD_tail, List.length_take, List.length_drop, List.length_map]
            omega
          · rw [cutD_head (by rw [List.length_map]; omega), ← Int.natCast_add_one, cutD_tail, List.map_append, List.map_take, List.map_drop]
          have clrEv : ∀ (tp : Bool) (r : List Int) (ρ : DEnv), r.length = n → (∀ x ∈ r, x.natAbs < 2 ^ 4400) → ρ[6]? = some (some (eCrowd (primL h))) → ρ[4]? = some (some (.int (i : Nat))) → ρ[9]? = some (some (eRw tp r)) →
              ∀ {dvs : List V} {E : XK}, dvs = [] → Ev mu0 (tCall (spF fCleared) dvs E (tCons (tVar 9) (tCons (tVar 6) (tCons (tVar 4) tNil)))) ρ (eCrowd (clr r (primL h) i)) := fun tp r ρ hrl hrb h6 h4 h9 dvs E hd => by
            subst hd
            exact ev_call0 (ea_cons (ev_var h9) (ea_cons (ev_var h6) (ea_cons (ev_var h4) ea_nil))) (spD ⟨tp, r, primL h, i, rfl, rfl, hrb, hhb, by omega, by omega, by omega⟩)
          refine q_asg (d := .lst ((ledTo rows (i + 1)).1.map eRow)) (Ev.is (ev_lc1 (h := fun r => eRow (clrIf (primL h) i r)) (ei_seqL (ev_var rfl)) (by simp) (fun x _ => asg_name) (fun x hx => ev_if (b := nz i x) (et_test (ev_op (ev_op (ev_var rfl) (ev_var rfl) (rd_ixL (atI_ints (at1 x (sub x hx))))) ev_int rd_neI)) (fun hb => Ev.is (ev_cb (ea_cons (clrEv false x _ (L.len1 x (sub x hx)) (fun y hy => lt_pow (L.bd1 x (sub x hx) y hy) hsm) rfl rfl rfl rfl) ea_nil) cd_listT) ?_) fun hb => Ev.is (ev_var rfl) ?_) (by omega)) ?_) asg_name ?_
          · unfold clrIf
            rw [if_pos hb]
          · unfold clrIf
            rw [hb]
            rfl
          · rw [hst, List.map_map]
            rfl
          refine sv_asg (d := .lst ((ledTo rows (i + 1)).2.map eCrowd)) (Ev.is (ev_op (ev_lc1 (h := fun r => eCrowd (clrIf (primL h) i r)) (ei_seqL (ev_var rfl)) (by simp) (fun x _ => asg_name) (fun x hx => ev_if (b := nz i x) (et_test (ev_op (ev_op (ev_var rfl) (ev_var rfl) (rd_ixT (atI_ints (at2 x hx)))) ev_int rd_neI)) (fun hb => Ev.is (clrEv true x _ (L.len2 x hx) (fun y hy => lt_pow (L.bd2 x hx y hy) hsm) rfl rfl rfl rfl) ?_) fun hb => Ev.is (ev_var rfl) ?_) (by omega)) (ev_lst (ea_cons (ev_var rfl) ea_nil) (by show 1 ≤ _; decide)) (rd_addL ?_)) ?_) asg_name ⟨rfl, _, _, _, _, _, rfl⟩
          · unfold clrIf
            rw [if_pos hb]
          · unfold clrIf
            rw [hb]
            rfl
          · rw [List.length_map]
            show _ + 1 ≤ _
            omega
          · rw [hst, List.map_append, List.map_map]
            rfl
      · cases hf : (ledTo rows i).1.filter (nz i) with
        | cons h tl =>
          rw [hf] at he
          cases he
        | nil =>
          rw [hf] at hst
          exact sv_next ⟨rfl, _, _, _, _, _, by rw [hst]; rfl⟩
    · rintro μ ρ ⟨rfl, x4, x5, x6, x7, x8, rfl⟩
      have e : (upTo 0 (((sz : Nat) : Int)).toNat).length = sz := by
        unfold upTo
        rw [List.length_map, List.length_range]
        omega
      rw [e]
      exact sv_ret (ev_var rfl) (congrArg (fun l : List (List Int) => D.lst (l.map eCrowd)) hfin)
def fFirst (ds : List D) (d : D) : Prop := ∃ ns : List Int, ds = [eCrowd ns] ∧ d = .int (lead ns : Nat) ∧ LeadAt ns (lead ns) ∧ ns.length ≤ 1000
theorem dFirstPlace (F : FunAt K mg "first_place" sFirstPlace ["row"]) (T : Bts mg) : Def P w K mg base CX0 "first_place" 1 ["row"] [] (spF fFirst) := by
  refine F.def_ scFirstPlace (fun ds d h => ?_) (fun cdv A outer s H E f hr => ?_)
  · obtain ⟨a, rfl, _⟩ := h
    rfl
  · refine ⟨_, (pss_one (ps_ret (pe_ix (uIx K rfl) (pe_lc (own := [("at", 1), ("number", 2)]) (g := (gTup K 2 (gCons (gName 1) (gCons (gName 2) gNil))))  rfl scFirstPlace.nd (pi_enumU (by rfl) T.enumerate (pa_cons (pv 0) pa_nil)) (blkOk_by (N := ["row", "at", "number"]) (sc := (defScope sFirstPlace)) (by decide +kernel)) (fun _ _ _ _ _ => (uGtup K rfl (pg_tup rfl (pgs_cons (pg_name (i := 1) scFirstPlace.nd rfl (by first | exact Or.inl rfl | exact Or.inr rfl)) (pgs_cons (pg_name (i := 2) scFirstPlace.nd rfl (by first | exact Or.inl rfl | exact Or.inr rfl)) pgs_nil))))) (fun _ _ _ _ _ => pts_one (pt_cmpR (uNe K rfl (hu64 hr)) (pv 2) pe_int (nomark _))) (fun _ _ _ _ _ => (pv 1))) pe_int (fun _ _ => rfl)))), fun ds d h => ?_⟩
    obtain ⟨ns, rfl, rfl, hl, hL⟩ := h
    have he : enumD (ns.map D.int) = ns.zipIdx.map fun p => D.tup [.int (p.2 : Nat), .int p.1] := by
      unfold enumD
      rw [List.zipIdx_map, List.map_map]
      rfl
    refine sv_ret (d := .int (lead ns : Nat)) (ev_op (ev_lc (xs := ns.zipIdx) (f := fun p => !decide (p.1 = 0)) (h := fun p => D.int (p.2 : Nat)) ((ei_enum (ea_cons (ev_var rfl) ea_nil) (.tup _)).is he) (by simp) (fun x _ => asg_tup2) (fun x _ => et_test (ev_op (ev_var rfl) ev_int rd_neI)) (fun x _ _ => ev_var rfl) (by rw [List.length_zipIdx]; omega)) ev_int (rd_ixL ?_)) rfl
    have h1 : ∀ (l : List Int) (k : Nat), LeadAt l (lead l) → ∃ r, ((l.zipIdx k).filter fun p => !decide (p.1 = 0)) = (l.getD (lead l) 0, k + lead l) :: r := fun l => by
      induction l with
      | nil => exact fun k h => absurd h.lt (by simp)
      | cons x l ih =>
        intro k h
        by_cases e : x = 0
        · have hs : lead (x :: l) = lead l + 1 := by
            unfold lead
            rw [List.findIdx_cons]
            simp [e]
          rw [hs] at h ⊢
          have h2 : LeadAt l (lead l) := ⟨h.nz, fun j hj => h.z (j + 1) (by omega)⟩
          obtain ⟨r, hr⟩ := ih (k + 1) h2
          refine ⟨r, ?_⟩
          rw [List.zipIdx_cons, List.filter_cons_of_neg (by simp [e]), hr]
          congr 2
          omega
        · have hs : lead (x :: l) = 0 := by
            unfold lead
            rw [List.findIdx_cons]
            simp [e]
          rw [hs, List.zipIdx_cons, List.filter_cons_of_pos (by simp [e])]
          exact ⟨_, rfl⟩
    obtain ⟨r, hr⟩ := h1 ns 0 hl
    rw [hr, List.map_cons]
    refine (atI_getD (j := 0) (by simp) .non).trans ?_
    show some (D.int ((0 + lead ns : Nat) : Int)) = _
    rw [Nat.zero_add]
theorem q_newRep {μ : Mu} {ρ : DEnv} {Kk : Kt} {u : TS} {ta tb : TE} {l : List D} {k : Int} {i : Nat} (h : Ev μ ta ρ (.lst l)) (hb : Ev μ tb ρ (.int k)) (h0 : 0 ≤ k) (h1 : k ≤ 1000) (hl : l.length ≤ 100) (kk : ∀ p, μ p = none → Sv (mset μ p (List.replicate k.toNat l).flatten) u (ρ.set i (some (.ref p))) Kk) :
    Sv μ (tSeq (tAsg (tOp rMulU ta tb) (gName i)) u) ρ Kk := fun σ F M H rs rm w E tk =>
  h σ F M H rs rm w _ fun v F1 H1 e1 w1 r1 => hb σ F1 M H1 (rs.mono e1) (rm.mono e1) w1 _ fun v' F2 H2 e2 w2 r2 => by
    cases r1 with
    | @lst _ xs0 _ h2 t2 =>
      cases r2
      have e12 := e1.trans e2
      refine Or.inr (Or.inl ⟨_, k, _, rfl, rfl, w2.f _ _ (e2 _ _ h2), by omega, by omega, ?_, fun p hp => ?_⟩)
      · rw [← t2.len]
        exact Nat.le_trans (Nat.mul_le_mul hl (show k.toNat ≤ 1000 by omega)) (by decide)
      · have hM := w2.freeM hp
        have hm : μ p = none := rm.none_of hM
        have s : Stp F M μ F2 _ (upd H2 p _) (mset μ p (List.replicate k.toNat l).flatten) := ⟨e12, w2.newM (o := .lst (List.replicate k.toNat xs0).flatten) hp, rm.put e12 ⟨_, rfl, repL_rep (t2.mono e2) _⟩, fun a o h1 h3 => by
          have q : a ≠ p := ne_of_none h1 hM
          rw [upd_ne q, mset_ne q]
          exact ⟨h1, h3⟩⟩
        exact kk p hm _ F2 _ _ ((rs.mono e12).set i (.ref p)) s.rm s.wd E (tk.step s)
theorem flat_one {α : Type} (x : α) : ∀ n : Nat, (List.replicate n [x]).flatten = List.replicate n x
  | 0 => rfl
  | n + 1 => by
    rw [List.replicate_succ, List.flatten_cons, flat_one x n, List.replicate_succ]
    rfl
def fNothBy (ds : List D) (d : D) : Prop := ∃ (rows : List (List Int)) (n : Nat), ds = [.lst (rows.map eRow), .int (n : Nat)] ∧ d = .lst ((nothBy rows n).map eCrowd) ∧ (∀ r ∈ rows, r.length = n) ∧ (∀ r ∈ rows, ∀ x ∈ r, x.natAbs < 2 ^ 2) ∧ n ≤ 5 ∧ rows.length ≤ 1000
theorem dNothingBy (F : FunAt K mg "nothing_by" sNothingBy ["rows", "size"]) (T : Bts mg) (DFirstPlace : Def P w K mg base CX0 "first_place" 1 ["row"] [] (spF fFirst)) (DWithoutPart : Def P w K mg base CX0 "without_part" 2 ["row"] [] (spF fWithout))
    (DLedRows : Def P w K mg base CX0 "led_rows" 4 ["rows"] [] (spF fLedRows)) : Def P w K mg base CX0 "nothing_by" 5 ["rows", "size"] [] (spF fNothBy) := by
  refine F.def_ scNothingBy (fun ds d h => ?_) (fun cdv A outer s H E f hr => ?_)
  · obtain ⟨rows, n, rfl, _⟩ := h
    rfl
  · refine ⟨_, (pss_cons (ps_set (i := 2) scNothingBy.nd rfl (by first | exact Or.inl rfl | exact Or.inr rfl) (pe_def DLedRows hr (by decide) (by rfl) pass0 (pa_cons (pv 0) pa_nil)))
      (pss_cons (ps_set (i := 3) scNothingBy.nd rfl (by first | exact Or.inl rfl | exact Or.inr rfl) (pe_lc (own := [("row", 7)]) (g := (gName 7)) (tt := tYes) rfl scNothingBy.nd (uSeq K rfl (pv 2)) (blkOk_by (N := ["rows", "size", "led", "firsts", "found", "free", "most", "row", "one", "at"]) (sc := (defScope sNothingBy)) (by decide +kernel)) (fun _ _ _ _ _ => (pg_name (i := 7) scNothingBy.nd rfl (by first | exact Or.inl rfl | exact Or.inr rfl))) (fun _ _ _ _ _ => pts_nil) (fun _ _ _ _ _ => (pe_def DFirstPlace hr (by decide) (by rfl) pass0 (pa_cons (pv 7) pa_nil)))))
      (pss_cons (ps_set (i := 4) scNothingBy.nd rfl (by first | exact Or.inl rfl | exact Or.inr rfl) (pe_lst pa_nil))
      (pss_cons (ps_for PassesOwn.never rfl (uSeq K rfl (pe_lc (own := [("at", 9)]) (g := (gName 9))  rfl scNothingBy.nd (pi_range1 (by rfl) T.range (pa_cons (pv 1) pa_nil)) (blkOk_by (N := ["rows", "size", "led", "firsts", "found", "free", "most", "row", "one", "at"]) (sc := (defScope sNothingBy)) (by decide +kernel)) (fun _ _ _ _ _ => (pg_name (i := 9) scNothingBy.nd rfl (by first | exact Or.inl rfl | exact Or.inr rfl))) (fun _ _ _ _ _ => pts_one (pt_cmpR (uNin K rfl) (pv 9) (pv 3) (by rfl))) (fun _ _ _ _ _ => (pv 9)))) (pg_name (i := 5) scNothingBy.nd rfl (by first | exact Or.inl rfl | exact Or.inr rfl)) (pss_cons (ps_set (i := 6) scNothingBy.nd rfl (by first | exact Or.inl rfl | exact Or.inr rfl) pe_int)
      (pss_cons (ps_for PassesOwn.never rfl (uSeq K rfl (pv 2)) (pg_name (i := 7) scNothingBy.nd rfl (by first | exact Or.inl rfl | exact Or.inr rfl)) (pss_one (ps_set (i := 6) scNothingBy.nd rfl (by first | exact Or.inl rfl | exact Or.inr rfl) (pe_op op_mulU (pv 6) (pe_callB call_absU (by rfl) T.abs (by decide +kernel) (pa_cons (pe_ix (uIx K rfl) (pv 7) (pe_def DFirstPlace hr (by decide) (by rfl) pass0 (pa_cons (pv 7) pa_nil)) (fun _ _ => rfl)) pa_nil))))))
      (pss_cons (ps_set (i := 8) scNothingBy.nd rfl (by first | exact Or.inl rfl | exact Or.inr rfl) (pe_op op_mulU (pe_lst (pa_cons pe_int pa_nil)) (pv 1)))
      (pss_cons (ps_asg (pv 6) (pg_sub (pv 8) (pv 5) set_list))
      (pss_cons (ps_for PassesOwn.never rfl (uSeq K rfl (pv 2)) (pg_name (i := 7) scNothingBy.nd rfl (by first | exact Or.inl rfl | exact Or.inr rfl)) (pss_one (ps_asg (pe_op op_divU (pe_op op_mulU (pe_un un_negU (pe_ix (uIx K rfl) (pv 7) (pv 5) (fun _ _ => rfl))) (pv 6)) (pe_ix (uIx K rfl) (pv 7) (pe_def DFirstPlace hr (by decide) (by rfl) pass0 (pa_cons (pv 7) pa_nil)) (fun _ _ => rfl))) (pg_sub (pv 8) (pe_def DFirstPlace hr (by decide) (by rfl) pass0 (pa_cons (pv 7) pa_nil)) set_list))))
      (pss_one (ps_expr (uBm K rfl PySem.F.plainAttrs_list PySem.F.slot_list_append PySem.F.type_list_append mt_append (pv 4) (pa_cons (pe_def DWithoutPart hr (by decide) (by rfl) pass0 (pa_cons (pv 8) pa_nil)) pa_nil))))))))))
      (pss_one (ps_ret (pe_def DLedRows hr (by decide) (by rfl) pass0 (pa_cons (pv 4) pa_nil)))))))), fun ds d h => ?_⟩
    obtain ⟨rows, n, rfl, rfl, h1, h2, hn, hL⟩ := h
    have hb5 : bits 2 n ≤ 8800 := Nat.le_trans (bits_le 2 (show n ≤ 5 by omega)) (by decide)
    have L := LI.all h1 h2 n
    let led := ledRows rows n
    have hledd : led = (ledTo rows n).2 := rfl
    have hledl : led.length ≤ n := L.cnt
    have hlead : ∀ r ∈ led, LeadAt r (lead r) ∧ 0 < r.getD (lead r) 0 ∧ r.length = n := fun r hr => ⟨(L.ld r hr).2.1, (L.ld r hr).2.2, L.len2 r hr⟩
    -- one row's place
    have hcall : ∀ (μ : Mu) (ρ : DEnv) (r : List Int), r ∈ led → ρ[7]? = some (some (eCrowd r)) → ∀ {dvs : List V} {E : XK}, dvs = [] → Ev μ (tCall (spF fFirst) dvs E (tCons (tVar 7) tNil)) ρ (.int (lead r : Nat)) := fun μ ρ r hr h7 dvs E hd => by
      subst hd
      exact ev_call0 (ea_cons (ev_var h7) ea_nil) (spD ⟨r, rfl, rfl, (hlead r hr).1, by rw [(hlead r hr).2.2]; omega⟩)
    refine q_asg (ev_call0 (ea_cons (ev_var rfl) ea_nil) (spD (f := fLedRows) ⟨false, rows, n, 2, rfl, rfl, h1, h2, by omega, hb5, hL⟩)) asg_name ?_
    refine q_asg (d := .lst ((led.map fun r => ((lead r : Nat) : Int)).map D.int)) (Ev.is (ev_lc1 (xs := led) (enc := eCrowd) (h := fun r => D.int (lead r : Nat)) (ei_seqL (ev_var rfl)) (by simp) (fun x _ => asg_name) (fun x hx => hcall _ _ x hx rfl rfl) (by omega)) (by rw [List.map_map]; rfl)) asg_name ?_
    refine q_newL ea_nil (by decide) fun p0 hp0 => ?_
    have fr : (List.range n).filter (fun a => !decide (((a : Nat) : Int) ∈ led.map fun r => ((lead r : Nat) : Int))) = frees led n := by
      unfold frees
      refine List.filter_congr fun a _ => ?_
      congr 1
      rw [decide_eq_decide]
      constructor
      · intro h
        obtain ⟨r, hr, e⟩ := List.mem_map.mp h
        exact List.mem_map.mpr ⟨r, hr, by omega⟩
      · intro h
        obtain ⟨r, hr, e⟩ := List.mem_map.mp h
        exact List.mem_map.mpr ⟨r, hr, by omega⟩
    refine q_for (ds := (frees led n).map fun a => D.int (a : Nat)) (ei_seqL (Ev.is (ev_lc (xs := List.range n) (enc := fun a => D.int (a : Nat)) (f := fun a => !decide (((a : Nat) : Int) ∈ led.map fun r => ((lead r : Nat) : Int))) (h := fun a => D.int (a : Nat)) ((ei_rng1 (n := (n : Nat)) (ea_cons (ev_var rfl) ea_nil) (by omega) (by omega)).is (by rw [Int.toNat_natCast, upTo_nat])) (by simp) (fun x _ => asg_name) (fun x _ => et_test (ev_op (ev_var rfl) (ev_var rfl) rd_ninI)) (fun x _ _ => ev_var rfl) (by rw [List.length_range]; omega)) (by rw [fr])))
      (fun i μ ρ => μ = mset mu0 p0 (((nothFound led n).take i).map eCrowd) ∧ ∃ x5 x6 x7 x8 : Option D, ρ = [some (.lst (rows.map eRow)), some (.int (n : Nat)), some (.lst (led.map eCrowd)), some (.lst ((led.map fun r => ((lead r : Nat) : Int)).map D.int)), some (.ref p0), x5, x6, x7, x8, none]) ⟨rfl, none, none, none, none, rfl⟩ ?_ ?_
    · rintro i d μ ρ hd ⟨rfl, x5, x6, x7, x8, rfl⟩
      rw [List.getElem?_map] at hd
      obtain ⟨free, hfr, rfl⟩ := Option.map_eq_some_iff.mp hd
      obtain ⟨hi, hfe⟩ := List.getElem?_eq_some_iff.mp hfr
      have hmem : free ∈ frees led n := hfe ▸ List.getElem_mem hi
      obtain ⟨hf1, hf2⟩ := List.mem_filter.mp hmem
      have hfn : free < n := List.mem_range.mp hf1
      have hl4 : led.length ≤ 4 := by
        have hf3 : free ∉ led.map lead := by simpa using hf2
        have := L.cnt_free hfn hf3
        show (ledTo rows n).2.length ≤ 4
        omega
      have hbd : ∀ r ∈ led, ∀ x ∈ r, x.natAbs < 2 ^ 47 := fun r hr x hx => lt_pow (L.bd2 r hr x hx) (Nat.le_trans (bits_le 2 hl4) (by decide))
      have hpb : ∀ k, (pivots (led.take k)).natAbs ≤ 2 ^ 188 := fun k => Nat.le_trans (pivots_take_bd hbd k) (Nat.pow_le_pow_right (by decide) (by omega))
      have hpb2 : (pivots led).natAbs ≤ 2 ^ 188 := Nat.le_trans (pivots_bd hbd) (Nat.pow_le_pow_right (by decide) (by omega))
      have hgd : ∀ r ∈ led, ∀ j, (r.getD j 0).natAbs < 2 ^ 47 := fun r hr j => getD_bd (Nat.two_pow_pos _) (hbd r hr) j
      refine ⟨_, _, asg_name, ?_⟩
      refine q_asg ev_int asg_name ?_
      refine q_for (ei_seqL (ds := led.map eCrowd) (ev_var rfl)) (fun j μ ρ => μ = mset mu0 p0 (((nothFound led n).take i).map eCrowd) ∧ ∃ x7 x8 : Option D, ρ = [some (.lst (rows.map eRow)), some (.int (n : Nat)), some (.lst (led.map eCrowd)), some (.lst ((led.map fun r => ((lead r : Nat) : Int)).map D.int)), some (.ref p0), some (.int (free : Nat)), some (.int (pivots (led.take j))), x7, x8, none]) ⟨rfl, x7, x8, rfl⟩ ?_ ?_
      · rintro j d μ ρ hd ⟨rfl, x7, x8, rfl⟩
        rw [List.getElem?_map] at hd
        obtain ⟨r, hr, rfl⟩ := Option.map_eq_some_iff.mp hd
        obtain ⟨hj, rfl⟩ := List.getElem?_eq_some_iff.mp hr
        have hm : led[j] ∈ led := List.getElem_mem hj
        obtain ⟨a1, a2, a3⟩ := hlead _ hm
        refine ⟨_, _, asg_name, sv_asg (d := .int (pivots (led.take (j + 1)))) (Ev.is (ev_op (ev_var rfl) (ev_cb (ea_cons (ev_op (ev_var rfl) (hcall _ _ _ hm rfl rfl) (rd_ixT (atI_ints a1.lt))) ea_nil) cd_abs) (rd_mulI (mulOk (small_big (Nat.le_trans (hpb j) (Nat.pow_le_pow_right (by decide) (by decide)))) ?_))) ?_) asg_name ⟨rfl, some (eCrowd led[j]), x8, rfl⟩⟩
        · rw [Int.natAbs_natCast]
          exact lt_pow (hgd _ hm _) (by decide)
        · rw [pivots_take hj]
      · rintro μ ρ ⟨rfl, x7, x8, rfl⟩
        rw [List.length_map, List.take_length]
        refine q_newRep (ev_lst (ea_cons ev_int ea_nil) (by show 1 ≤ _; decide)) (ev_var rfl) (by omega) (by omega) (by show 1 ≤ _; decide) fun p1 hp1 => ?_
        have hp10 : p1 ≠ p0 := fun e => by
          rw [e, mset_same] at hp1
          cases hp1
        rw [flat_one, Int.toNat_natCast]
        refine q_setL (j := free) (ev_var rfl) (ev_var rfl) mset_same (ev_var rfl) (by rw [List.length_replicate]; omega) ?_
        rw [mset_mset]
        have e1 : (List.replicate n (D.int 0)).set free (.int (pivots led)) = (oneTo (led.take 0) n free (pivots led)).map D.int := by
          rw [List.take_zero]
          show _ = ((List.replicate n (0 : Int)).set free (pivots led)).map D.int
          rw [List.map_set, List.map_replicate]
        rw [e1]
        refine q_for (ei_seqL (ds := led.map eCrowd) (ev_var rfl)) (fun j μ ρ => μ = mset (mset mu0 p0 (((nothFound led n).take i).map eCrowd)) p1 ((oneTo (led.take j) n free (pivots led)).map D.int) ∧ ∃ x7 : Option D, ρ = [some (.lst (rows.map eRow)), some (.int (n : Nat)), some (.lst (led.map eCrowd)), some (.lst ((led.map fun r => ((lead r : Nat) : Int)).map D.int)), some (.ref p0), some (.int (free : Nat)), some (.int (pivots led)), x7, some (.ref p1), none]) ⟨rfl, x7, rfl⟩ ?_ ?_
        · rintro j d μ ρ hd ⟨rfl, x7, rfl⟩
          rw [List.getElem?_map] at hd
          obtain ⟨r, hr, rfl⟩ := Option.map_eq_some_iff.mp hd
          obtain ⟨hj, rfl⟩ := List.getElem?_eq_some_iff.mp hr
          have hm : led[j] ∈ led := List.getElem_mem hj
          obtain ⟨a1, a2, a3⟩ := hlead _ hm
          refine ⟨_, _, asg_name, sv_setL (j := lead led[j]) (ev_op (ev_op (ev_un (ev_op (ev_var rfl) (ev_var rfl) (rd_ixT (atI_ints (by omega)))) ud_neg) (ev_var rfl) (rd_mulI (mulOk ?_ ?_))) (ev_op (ev_var rfl) (hcall _ _ _ hm rfl rfl) (rd_ixT (atI_ints a1.lt))) (rd_div ⟨a2, ?_⟩)) (ev_var rfl) mset_same (hcall _ _ _ hm rfl rfl) ?_ ⟨?_, some (eCrowd led[j]), rfl⟩⟩
          · rw [Int.natAbs_neg]
            exact lt_pow (hgd _ hm _) (by decide)
          · exact small_big (Nat.le_trans hpb2 (Nat.pow_le_pow_right (by decide) (by decide)))
          · exact (Nat.log2_lt (by omega)).mpr (lt_pow (hgd _ hm _) (by decide))
          · rw [List.length_map, oneTo_len]
            have := a1.lt
            omega
          · rw [mset_mset, oneTo_take hj, List.map_set]
        · rintro μ ρ ⟨rfl, x7, rfl⟩
          rw [List.length_map, List.take_length]
          refine sv_freeze (i := 8) rfl mset_same ?_
          rw [mdel_mset hp1]
          have hnl : (nothFound led n).length = (frees led n).length := by
            unfold nothFound
            rw [List.length_map]
          refine sv_app (ev_var rfl) mset_same (ev_call0 (ea_cons (ev_var rfl) ea_nil) (spD ⟨oneTo led n free (pivots led), rfl, rfl, fun x hx => lt_pow (oneTo_bd hbd hpb2 x hx) (by decide), by rw [oneTo_len]; omega⟩)) ?_ ⟨?_, _, _, _, _, rfl⟩
          · rw [List.length_map, List.length_take]
            have h3 : (frees led n).length ≤ n := by
              have := List.length_filter_le (fun a => !decide (a ∈ led.map lead)) (List.range n)
              rwa [List.length_range] at this
            omega
          · rw [mset_mset]
            congr 1
            have e2 : (nothFound led n)[i]? = some (primL (oneTo led n free (pivots led))) := by
              unfold nothFound
              rw [List.getElem?_map, hfr]
              rfl
            rw [List.take_add_one, e2, List.map_append]
            rfl
    · rintro μ ρ ⟨rfl, x5, x6, x7, x8, rfl⟩
      have hnl : (nothFound led n).length = (frees led n).length := by
        unfold nothFound
        rw [List.length_map]
      rw [List.length_map, ← hnl, List.take_length]
      refine sv_freeze (i := 4) rfl mset_same ?_
      refine sv_ret (d := .lst ((nothBy rows n).map eCrowd)) (ev_call0 (ea_cons (ev_var rfl) ea_nil) (spD (f := fLedRows) ⟨true, nothFound led n, n, 236, rfl, rfl, ?_, ?_, by omega, Nat.le_trans (bits_le 236 hn) (by decide), ?_⟩)) rfl
      · intro r hr
        obtain ⟨free, hf, rfl⟩ := List.mem_map.mp hr
        rw [primL_len, oneTo_len]
      · intro r hr
        obtain ⟨free, hf, rfl⟩ := List.mem_map.mp hr
        obtain ⟨hf1, hf2⟩ := List.mem_filter.mp hf
        have hl4 : led.length ≤ 4 := by
          have hf3 : free ∉ led.map lead := by simpa using hf2
          have := L.cnt_free (List.mem_range.mp hf1) hf3
          show (ledTo rows n).2.length ≤ 4
          omega
        have hbd : ∀ r ∈ led, ∀ x ∈ r, x.natAbs < 2 ^ 47 := fun r hr x hx => lt_pow (L.bd2 r hr x hx) (Nat.le_trans (bits_le 2 hl4) (by decide))
        exact primL_small (oneTo_bd hbd (Nat.le_trans (pivots_bd hbd) (Nat.pow_le_pow_right (by decide) (by omega)) : _ ≤ 2 ^ 188))
      · have h3 : (frees led n).length ≤ n := by
          have := List.length_filter_le (fun a => !decide (a ∈ led.map lead)) (List.range n)
          rwa [List.length_range] at this
        omega
end
end Mf
set_option maxRecDepth 100000
set_option maxHeartbeats 4000000
/-! Meetfolk: the defs of resting. -/
namespace Mf
open PySem L2 PyProof.Rows
variable [Tt] [Xw]
local macro_rules
  | `(tactic| walk_at "rd") => `(tactic| first
    | exact rd_addI | refine rd_addL ?_ | refine rd_addS ?_ | exact rd_sub | refine rd_mulI ?_ | refine rd_mulL ?_ ?_ ?_ | refine rd_mulS ?_ ?_ ?_ | refine rd_div ?_ | refine rd_mod ?_ | refine rd_pow ?_ | exact ud_neg
    | exact rd_ltI | exact rd_leI | exact rd_gtI | exact rd_geI | exact rd_ltS | exact rd_leS | exact rd_eqI | exact rd_neI
    | exact rd_ixT rfl | exact rd_ixL rfl | exact cd_lenL | exact cd_lenT | exact cd_int | exact cd_abs | exact cd_tupL | exact cd_listL | exact cd_listT | exact cd_all | exact cd_any | exact cd_sumT | exact bd_count)
local macro_rules
  | `(tactic| walk_at "ev1") => `(tactic| first
    | exact ev_int | exact ev_str | exact ev_bl | exact ev_non | exact ea_nil | refine ea_cons ?_ ?_ | exact ev_var rfl | exact ev_ty
    | refine ev_op ?_ ?_ ?_ | refine ev_un ?_ ?_ | refine ev_cb ?_ ?_ | refine ev_tup ?_ (by decide) | refine ev_bm ?_ ?_ ?_
    | exact et_yes | refine et_test ?_ | refine et_B ?_ | refine et_or ?_ (fun _ => ?_) | refine et_and ?_ (fun _ => ?_) | refine ev_andV ?_ (fun _ => ?_) | refine ev_orV ?_ (fun _ => ?_) | refine ev_notV ?_ | refine ev_chain ?_ ?_ ?_ (fun _ => ?_) (fun _ => ?_) | refine et_not ?_ | exact eo_none | refine eo_some ?_ | walk_at "rd")
local macro_rules
  | `(tactic| walk_at "ev") => `(tactic| repeat' walk_at "ev1")

theorem uStar {X : Cx} (K : PySem.W.Frag) (hK : X.K = K) {e : Expr} {es : List Expr} {te : TE} {t : TA} {p : Pos} (he : PE X e te) (hr : PA X es t) (hs : starEach (.Starred e p :: es) X.env = (true, eval e X.env) :: starEach es X.env := by rfl) : PA X (.Starred e p :: es) (StX.tStar K te t) := hK ▸ StX.pa_star he hr hs
theorem ea_star {μ : Mu} {ρ : DEnv} {K : PySem.W.Frag} {te : TE} {t : TA} {l ds : List D} (h : Ev μ te ρ (.tup l)) (h2 : EvA μ t ρ ds) : EvA μ (StX.tStar K te t) ρ (l ++ ds) := fun σ F M H rs rm w Q q =>
  h σ F M H rs rm w _ fun v F1 H1 e1 w1 r1 => by
    cases r1 with
    | tup h1 t1 => exact ⟨_, _, rfl, Or.inl (Or.inl (Or.inl (w1.f _ _ h1))), h2 σ F1 M H1 (rs.mono e1) (rm.mono e1) w1 _ fun ys F2 H2 e2 w2 r2 => q _ F2 H2 (e1.trans e2) w2 ((t1.mono e2).app r2)⟩
abbrev eLot (l : List Nat) : D := .tup (l.map fun a => D.int (a : Nat))
theorem lot_pl (l : List Nat) : pl 9 (eLot l) = true := by
  show (decide (1 ≤ 9) && pls 8 (l.map fun a => D.int (a : Nat))) = true
  rw [pls_map fun x _ => rfl]
  rfl
abbrev sLotsOf : Stmt := topS 40
theorem scLotsOf : FnScope ["size", "many", "found", "turn", "lot", "at"] ["size", "many"] (defScope sLotsOf) := ⟨rfl, rfl, rfl, by decide +kernel, rfl, by decide +kernel, by decide +kernel⟩
abbrev sBalance : Stmt := topS 41
theorem scBalance : FnScope ["folk", "changes", "many", "lot", "rows", "told", "rule", "mood", "at", "times"] ["folk"] (defScope sBalance) := ⟨rfl, rfl, rfl, by decide +kernel, rfl, by decide +kernel, by decide +kernel⟩
abbrev sDoesRest : Stmt := topS 42
theorem scDoesRest : FnScope ["folk"] ["folk"] (defScope sDoesRest) := ⟨rfl, rfl, rfl, by decide +kernel, rfl, by decide +kernel, by decide +kernel⟩
abbrev sAlwaysRests : Stmt := topS 43
theorem scAlwaysRests : FnScope ["folk"] ["folk"] (defScope sAlwaysRests) := ⟨rfl, rfl, rfl, by decide +kernel, rfl, by decide +kernel, by decide +kernel⟩
abbrev sNeedRest : Stmt := topS 44
theorem scNeedRest : FnScope ["folk"] ["folk"] (defScope sNeedRest) := ⟨rfl, rfl, rfl, by decide +kernel, rfl, by decide +kernel, by decide +kernel⟩
section
variable {P : Program} {w : World} {K : PySem.W.Frag} {mg : Str → Option Value} {base : Heap}
def fLotsOf (ds : List D) (d : D) : Prop := ∃ size many : Nat, ds = [.int (size : Nat), .int (many : Nat)] ∧ d = .lst ((lotsOf size many).map eLot) ∧ size ≤ 5 ∧ many ≤ 6
theorem dLotsOf (F : FunAt K mg "lots_of" sLotsOf ["size", "many"]) (T : Bts mg) : Def P w K mg base CX0 "lots_of" 1 ["size", "many"] [] (spF fLotsOf) := by
  refine F.def_ scLotsOf (fun ds d h => ?_) (fun cdv A outer s H E f hr => ?_)
  · obtain ⟨a, b, rfl, _⟩ := h
    rfl
  · refine ⟨_, (pss_cons (ps_set (i := 2) scLotsOf.nd rfl (by first | exact Or.inl rfl | exact Or.inr rfl) (pe_lst (pa_cons (pe_tup pa_nil) pa_nil)))
      (pss_cons (ps_for PassesOwn.never rfl (pi_range1 (by rfl) T.range (pa_cons (pv 1) pa_nil)) (pg_name (i := 3) scLotsOf.nd rfl (by first | exact Or.inl rfl | exact Or.inr rfl)) (pss_one (ps_setLc2 (i := 2) (own := [("lot", 4), ("at", 5)]) (vs1 := [5]) (g := (gName 4)) (g1 := (gName 5)) (tt := tYes)  rfl scLotsOf.nd rfl rfl (sw_true rfl rfl rfl (by decide +kernel)) (uSeq K rfl (pv 2)) (blkOk_by (N := ["size", "many", "found", "turn", "lot", "at"]) (sc := (defScope sLotsOf)) (by decide +kernel)) (by decide) (fun _ _ _ _ _ => (pg_name (i := 4) scLotsOf.nd rfl (by first | exact Or.inl rfl | exact Or.inr rfl))) (fun _ _ _ _ _ => pts_nil) (fun _ _ _ _ _ => (pi_range1 (by rfl) T.range (pa_cons (pv 0) pa_nil))) (fun _ _ _ _ _ => (pg_name (i := 5) scLotsOf.nd rfl (by first | exact Or.inl rfl | exact Or.inr rfl))) (fun _ _ _ _ _ => pts_one (PW.pt (pw_or (pt_cmpR (uEq K rfl (hu64 hr)) (pv 4) (pe_tup pa_nil) (nomark _)) (pw_or1 (pt_cmpR op_gtU (pv 5) (pe_ix (uIx K rfl) (pv 4) (pe_un un_negU pe_int) (fun _ _ => rfl)) (nomark _)))))) (fun _ _ _ _ _ => (pe_tup (uStar K rfl (pv 4) (pa_cons (pv 5) pa_nil)))))))
      (pss_one (ps_ret (pv 2))))), fun ds d h => ?_⟩
    obtain ⟨size, many, rfl, rfl, hs, hm⟩ := h
    have hpow : ∀ i, i ≤ 6 → size ^ i ≤ 15625 := fun i hi => Nat.le_trans (Nat.pow_le_pow_left hs i) (Nat.le_trans (Nat.pow_le_pow_right (by decide) hi) (by decide))
    refine q_asg (ev_lst (ea_cons (ev_tup ea_nil (by decide)) ea_nil) (by show 1 ≤ _; decide)) asg_name ?_
    refine q_for (K := { nx := _, rt := _ }) (ei_rng1 (n := (many : Nat)) (ea_cons (ev_var rfl) ea_nil) (by omega) (by omega)) (fun i μ ρ => μ = mu0 ∧ ∃ x, ρ = [some (.int (size : Nat)), some (.int (many : Nat)), some (.lst ((lotsOf size i).map eLot)), x, none, none]) ⟨rfl, none, rfl⟩ ?_ ?_
    · rintro i d μ ρ hd ⟨rfl, x, rfl⟩
      obtain ⟨hi, rfl⟩ := upTo_get hd
      have hi : i < many := by omega
      have hflat : (lotsOf size (i + 1)).map eLot = (lotsOf size i).flatMap fun lot => ((List.range size).filter fun a => lot.isEmpty || decide (lot.getLastD 0 < a)).map fun a => eLot (lot ++ [a]) := by
        show (lotGrow size (lotsOf size i)).map eLot = _
        unfold lotGrow
        rw [List.map_flatMap]
        congr 1
        funext lot
        rw [List.map_map]
        rfl
      refine ⟨_, _, asg_name, sv_asg (d := .lst ((lotsOf size (i + 1)).map eLot)) (Ev.is (ev_lc2 (xs := lotsOf size i) (enc := eLot) (ys := fun _ => List.range size) (enc1 := fun _ a => D.int (a : Nat)) (f := fun lot a => lot.isEmpty || decide (lot.getLastD 0 < a)) (h := fun lot a => eLot (lot ++ [a])) (ei_seqL (ev_var rfl)) (by simp) (fun x _ => asg_name) (fun x _ => (ei_rng1 (n := (size : Nat)) (ea_cons (ev_var rfl) ea_nil) (by omega) (by omega)).is (by rw [Int.toNat_natCast, upTo_nat])) (by simp) (fun x _ y _ => asg_name) (fun lot _ a _ => ?_) (fun lot hl a _ _ => ?_) ?_) ?_) asg_name ⟨rfl, _, rfl⟩⟩
      · refine EvT.is (et_or (a := lot.isEmpty) (b := lot.isEmpty || decide (lot.getLastD 0 < a)) (et_test (ev_op (ev_var rfl) (ev_tup ea_nil (by decide)) (rd_eq (lot_pl lot) rfl ?_))) fun h => ?_) ?_
        · rw [List.isEmpty_iff]
          constructor
          · rintro rfl
            rfl
          · intro h
            exact List.map_eq_nil_iff.mp (D.tup.inj h)
        · have hne : lot ≠ [] := fun e => by
            rw [e] at h
            cases h
          refine et_test (Ev.is (ev_op (ev_var rfl) (ev_op (ev_var rfl) (ev_un ev_int ud_neg) (rd_ixT (d := .int (lot.getLastD 0 : Nat)) ?_)) rd_gtI) ?_)
          · have hne2 : lot.map (fun a => D.int (a : Nat)) ≠ [] := fun e => hne (List.map_eq_nil_iff.mp e)
            rw [show (-1 : Int) = -1 from rfl, atI_last _ hne2, List.getLast?_map, List.getLastD_eq_getLast?]
            rw [List.getLast?_eq_some_getLast hne]
            rfl
          · rw [h, Bool.false_or]
            congr 1
            rw [decide_eq_decide]
            omega
        · cases lot.isEmpty <;> rfl
      · refine Ev.is (ev_tup (ea_star (ev_var rfl) (ea_cons (ev_var rfl) ea_nil)) ?_) ?_
        · rw [List.length_append, List.length_map, (lotsOf_each size i lot hl).1]
          show i + 1 ≤ _
          omega
        · unfold eLot
          rw [List.map_append]
          rfl
      · rw [← hflat, List.length_map]
        have := lotsOf_len size (i + 1)
        have := hpow (i + 1) (by omega)
        omega
      · rw [hflat]
    · rintro μ ρ ⟨rfl, x, rfl⟩
      rw [upTo_len, Int.toNat_natCast]
      exact sv_ret (ev_var rfl) rfl
def fBalance (ds : List D) (d : D) : Prop := ∃ (m : Str) (rs : List Rl), ds = [eFolk m rs] ∧ d = (bal m rs).getD .non ∧ OkF m rs ∧ rs.length ≤ 5
theorem dBalance (F : FunAt K mg "balance" sBalance ["folk"]) (T : Bts mg) (DChangeOf : Def P w K mg base CX0 "change_of" 2 ["folk", "rule"] [] (spF fChange)) (DLotsOf : Def P w K mg base CX0 "lots_of" 1 ["size", "many"] [] (spF fLotsOf))
    (DNothingBy : Def P w K mg base CX0 "nothing_by" 5 ["rows", "size"] [] (spF fNothBy)) : Def P w K mg base CX0 "balance" 6 ["folk"] [] (spF fBalance) := by
  refine F.def_ scBalance (fun ds d h => ?_) (fun cdv A outer s H E f hr => ?_)
  · obtain ⟨a, b, rfl, _⟩ := h
    rfl
  · refine ⟨_, (pss_cons (ps_set (i := 1) scBalance.nd rfl (by first | exact Or.inl rfl | exact Or.inr rfl) (pe_lc (own := [("rule", 6)]) (g := (gName 6)) (tt := tYes) rfl scBalance.nd (uSeq K rfl (pe_ix (uIx K rfl) (pv 0) pe_int (fun _ _ => rfl))) (blkOk_by (N := ["folk", "changes", "many", "lot", "rows", "told", "rule", "mood", "at", "times"]) (sc := (defScope sBalance)) (by decide +kernel)) (fun _ _ _ _ _ => (pg_name (i := 6) scBalance.nd rfl (by first | exact Or.inl rfl | exact Or.inr rfl))) (fun _ _ _ _ _ => pts_nil) (fun _ _ _ _ _ => (pe_def DChangeOf hr (by decide) (by rfl) pass0 (pa_cons (pv 0) (pa_cons (pv 6) pa_nil))))))
      (pss_cons (ps_for PassesOwn.never rfl (pi_range2 (by rfl) T.range (pa_cons pe_int (pa_cons (pe_op op_addU (pe_callB (uLen K rfl) (by rfl) T.len (by decide +kernel) (pa_cons (pe_ix (uIx K rfl) (pv 0) pe_int (fun _ _ => rfl)) pa_nil)) pe_int) pa_nil))) (pg_name (i := 2) scBalance.nd rfl (by first | exact Or.inl rfl | exact Or.inr rfl)) (pss_one (ps_for PassesOwn.never rfl (uSeq K rfl (pe_def DLotsOf hr (by decide) (by rfl) pass0 (pa_cons (pe_callB (uLen K rfl) (by rfl) T.len (by decide +kernel) (pa_cons (pv 1) pa_nil)) (pa_cons (pv 2) pa_nil)))) (pg_name (i := 3) scBalance.nd rfl (by first | exact Or.inl rfl | exact Or.inr rfl)) (pss_cons (ps_setLc (i := 4) (own := [("mood", 7)]) (g := (gName 7)) (tt := tYes) rfl scBalance.nd rfl rfl (sw_true rfl rfl rfl (by decide +kernel)) (pi_range1 (by rfl) T.range (pa_cons (pe_callB (uLen K rfl) (by rfl) T.len (by decide +kernel) (pa_cons (pe_ix (uIx K rfl) (pv 0) pe_int (fun _ _ => rfl)) pa_nil)) pa_nil)) (blkOk_by (N := ["folk", "changes", "many", "lot", "rows", "told", "rule", "mood", "at", "times"]) (sc := (defScope sBalance)) (by decide +kernel)) (fun _ _ _ _ _ => (pg_name (i := 7) scBalance.nd rfl (by first | exact Or.inl rfl | exact Or.inr rfl))) (fun _ _ _ _ _ => pts_nil) (fun _ _ _ _ _ => (pe_lc (own := [("at", 8)]) (g := (gName 8)) (tt := tYes) rfl scBalance.nd (uSeq K rfl (pv 3)) (blkOk_by (N := ["folk", "changes", "many", "lot", "rows", "told", "rule", "mood", "at", "times"]) (sc := { kind := .function, names := [(".0", .local), ("mood", .cell), ("changes", .cell), ("lot", .cell)], isGenerator := false, isCoroutine := false }) (by decide +kernel)) (fun _ _ _ _ _ => (pg_name (i := 8) scBalance.nd rfl (by first | exact Or.inl rfl | exact Or.inr rfl))) (fun _ _ _ _ _ => pts_nil) (fun _ _ _ _ _ => (pe_ix (uIx K rfl) (pe_ix (uIx K rfl) (pv 1) (pv 8) (fun _ _ => rfl)) (pv 7) (fun _ _ => rfl))))))
      (pss_cons (ps_set (i := 5) scBalance.nd rfl (by first | exact Or.inl rfl | exact Or.inr rfl) (pe_def DNothingBy hr (by decide) (by rfl) pass0 (pa_cons (pv 4) (pa_cons (pv 2) pa_nil))))
      (pss_one (ps_if (PW.pt (pw_and (pt_cmpR (uEq K rfl (hu64 hr)) (pe_callB (uLen K rfl) (by rfl) T.len (by decide +kernel) (pa_cons (pv 5) pa_nil)) pe_int (nomark _)) (pw_and1 (pt_cmpR op_gtU (pe_callB (uMin K rfl rfl (hu_of hr)) (by rfl) T.min (by decide +kernel) (pa_cons (pe_ix (uIx K rfl) (pv 5) pe_int (fun _ _ => rfl)) pa_nil)) pe_int (nomark _))))) (pss_one (ps_ret (pe_lc (own := [("at", 8), ("times", 9)]) (g := (gTup K 2 (gCons (gName 8) (gCons (gName 9) gNil)))) (tt := tYes) rfl scBalance.nd (pi_zip2 (by rfl) T.zip (pa_cons (pv 3) (pa_cons (pe_ix (uIx K rfl) (pv 5) pe_int (fun _ _ => rfl)) pa_nil))) (blkOk_by (N := ["folk", "changes", "many", "lot", "rows", "told", "rule", "mood", "at", "times"]) (sc := (defScope sBalance)) (by decide +kernel)) (fun _ _ _ _ _ => (uGtup K rfl (pg_tup rfl (pgs_cons (pg_name (i := 8) scBalance.nd rfl (by first | exact Or.inl rfl | exact Or.inr rfl)) (pgs_cons (pg_name (i := 9) scBalance.nd rfl (by first | exact Or.inl rfl | exact Or.inr rfl)) pgs_nil))))) (fun _ _ _ _ _ => pts_nil) (fun _ _ _ _ _ => (pe_tup (pa_cons (pe_ix (uIx K rfl) (pe_ix (uIx K rfl) (pv 0) pe_int (fun _ _ => rfl)) (pv 8) (fun _ _ => rfl)) (pa_cons (pv 9) pa_nil))))))) pss_nil)))))))
      (pss_one (ps_ret pe_non)))), fun ds d h => ?_⟩
    obtain ⟨m, rs, rfl, rfl, hf, hrs⟩ := h
    have hm6 := hf.moods.l6
    have hm1 := hf.moods.l1
    let cs : List (List Int) := rs.map (chg m)
    have hml : m.length ≤ 100 := by omega
    refine q_asg (d := .lst (cs.map eCrowd)) (Ev.is (ev_lc1 (xs := rs) (enc := eRule) (h := fun r => eCrowd (chg m r)) (ei_seqT (ev_op (ev_var rfl) ev_int (rd_ixT rfl))) (by simp) (fun x _ => asg_name) (fun x _ => ev_call0 (ea_cons (ev_var rfl) (ea_cons (ev_var rfl) ea_nil)) (spD ⟨m, rs, x, rfl, rfl, hml⟩)) (by omega)) (by rw [List.map_map]; rfl)) asg_name ?_
    have hcl : cs.length = rs.length := List.length_map _
    refine q_for (K := { nx := _, rt := _ }) (ei_rng2 (lo := 1) (n := (m.length : Nat) + 1) (ea_cons ev_int (ea_cons (ev_op (ev_cb (ea_cons (ev_op (ev_var rfl) ev_int (rd_ixT rfl)) ea_nil) (cd_lenS (by omega))) ev_int rd_addI) ea_nil)) (by omega) (by omega)) (fun i μ ρ => μ = mu0 ∧ (∀ k, k < i → balAt m rs k = none) ∧ ∃ x2 x3 x4 x5 : Option D, ρ = [some (eFolk m rs), some (.lst (cs.map eCrowd)), x2, x3, x4, x5, none, none, none, none]) ⟨rfl, fun k hk => absurd hk (by omega), none, none, none, none, rfl⟩ ?_ ?_
    · rintro i d μ ρ hd ⟨rfl, hno, x2, x3, x4, x5, rfl⟩
      obtain ⟨hi, rfl⟩ := upTo_get hd
      have hi : i < m.length := by omega
      have hi1 : (1 : Int) + (i : Nat) = ((i + 1 : Nat) : Int) := by omega
      rw [hi1]
      refine ⟨_, _, asg_name, ?_⟩
      refine sv_for (K := { nx := _, rt := _, ct := _ }) (ds := (lotsOf rs.length (i + 1)).map eLot) (ei_seqL (ev_call0 (ea_cons (Ev.is (ev_cb (ea_cons (ev_var rfl) ea_nil) cd_lenL) (by rw [List.length_map, hcl])) (ea_cons (ev_var rfl) ea_nil)) (spD ⟨rs.length, i + 1, rfl, rfl, hrs, by omega⟩))) (fun j μ ρ => μ = mu0 ∧ (∀ k (hk : k < j) (hl : k < (lotsOf rs.length (i + 1)).length), toldOf cs m.length (lotsOf rs.length (i + 1))[k] = none) ∧ ∃ x3 x4 x5 : Option D, ρ = [some (eFolk m rs), some (.lst (cs.map eCrowd)), some (.int (i + 1 : Nat)), x3, x4, x5, none, none, none, none]) ⟨rfl, fun k hk => absurd hk (by omega), x3, x4, x5, rfl⟩ ?_ ?_
      · rintro j d μ ρ hd ⟨rfl, hno2, x3, x4, x5, rfl⟩
        rw [List.getElem?_map] at hd
        obtain ⟨lot, hlot, rfl⟩ := Option.map_eq_some_iff.mp hd
        obtain ⟨hj, hje⟩ := List.getElem?_eq_some_iff.mp hlot
        have hmem : lot ∈ lotsOf rs.length (i + 1) := hje ▸ List.getElem_mem hj
        obtain ⟨l1, l2, l3⟩ := lotsOf_each _ _ lot hmem
        have hn5 : i + 1 ≤ 5 := by
          have := nodup_len rs.length lot (l2.imp fun h => Nat.ne_of_lt h) l3
          omega
        have hrl : ∀ r ∈ rowsOf cs lot m.length, r.length = i + 1 := fun r hr => by
          obtain ⟨mood, _, rfl⟩ := List.mem_map.mp hr
          rw [List.length_map, l1]
        have hrb : ∀ r ∈ rowsOf cs lot m.length, ∀ x ∈ r, x.natAbs < 2 ^ 2 := fun r hr x hx => by
          obtain ⟨mood, _, rfl⟩ := List.mem_map.mp hr
          obtain ⟨a, ha, rfl⟩ := List.mem_map.mp hx
          have hal : a < rs.length := l3 a ha
          by_cases e : (cs.getD a []).getD mood 0 = 0
          · rw [e]
            decide
          · have h1 := getD_mem e
            have h2 : cs.getD a [] = chg m rs[a] := by
              rw [List.getD_eq_getElem?_getD, List.getElem?_map, List.getElem?_eq_getElem hal]
              rfl
            rw [h2] at h1 ⊢
            have := chg_small hf (List.getElem_mem hal) h1
            omega
        obtain ⟨nl, nr⟩ := nothBy_each hrl hrb hn5
        refine ⟨_, _, asg_name, ?_⟩
        refine q_asg (d := .lst ((rowsOf cs lot m.length).map eRow)) (Ev.is (ev_lc1 (xs := List.range m.length) (enc := fun i => D.int (i : Nat)) (h := fun mood => eRow (lot.map fun a => (cs.getD a []).getD mood 0)) ((ei_rng1 (n := (m.length : Nat)) (ea_cons (ev_cb (ea_cons (ev_op (ev_var rfl) ev_int (rd_ixT rfl)) ea_nil) (cd_lenS (by omega))) ea_nil) (by omega) (by omega)).is (by rw [Int.toNat_natCast, upTo_nat])) (by simp) (fun x _ => asg_name) (fun mood hmood => Ev.is (ev_lc1 (xs := lot) (enc := fun a => D.int (a : Nat)) (h := fun a => D.int ((cs.getD a []).getD mood 0)) (ei_seqT (ev_var rfl)) (by simp) (fun x _ => asg_name) (fun a ha => ev_op (ev_op (ev_var rfl) (ev_var rfl) (rd_ixL (d := eCrowd (cs.getD a [])) ?_)) (ev_var rfl) (rd_ixT (atI_ints ?_))) (by omega)) ?_) (by rw [List.length_range]; omega)) ?_) asg_name ?_
        · have hal : a < cs.length := by rw [hcl]; exact l3 a ha
          rw [atI_getD (by rw [List.length_map]; exact hal) .non]
          congr 1
          rw [List.getD_eq_getElem?_getD, List.getD_eq_getElem?_getD, List.getElem?_map, List.getElem?_eq_getElem hal]
          rfl
        · have hal : a < rs.length := l3 a ha
          have h2 : cs.getD a [] = chg m rs[a] := by
            rw [List.getD_eq_getElem?_getD, List.getElem?_map, List.getElem?_eq_getElem hal]
            rfl
          rw [h2, chg_len]
          exact List.mem_range.mp hmood
        · unfold eRow
          rw [List.map_map]
          rfl
        · unfold rowsOf
          rw [List.map_map]
          rfl
        refine q_asg (ev_call0 (ea_cons (ev_var rfl) (ea_cons (ev_var rfl) ea_nil)) (spD ⟨rowsOf cs lot m.length, i + 1, rfl, rfl, hrl, hrb, hn5, by unfold rowsOf; rw [List.length_map, List.length_range]; omega⟩)) asg_name ?_
        have key : toldOf cs m.length lot = pickOne (nothBy (rowsOf cs lot m.length) (i + 1)) := by
          unfold toldOf
          rw [l1]
        have keep : toldOf cs m.length lot = none → ∀ k (hk : k < j + 1) (hl : k < (lotsOf rs.length (i + 1)).length), toldOf cs m.length (lotsOf rs.length (i + 1))[k] = none := fun hn k hk hl => by
          by_cases e : k = j
          · subst e
            rw [hje]
            exact hn
          · exact hno2 k (by omega) hl
        by_cases h1 : (nothBy (rowsOf cs lot m.length) (i + 1)).length = 1
        · cases ht : nothBy (rowsOf cs lot m.length) (i + 1) with
          | nil =>
            rw [ht] at h1
            cases h1
          | cons t tl =>
            rw [ht] at h1
            cases tl with
            | cons _ _ => simp at h1
            | nil =>
              rw [ht] at key
              have htl : t.length = i + 1 := nr t (ht ▸ List.mem_cons_self ..)
              have hne : t ≠ [] := fun e => by
                rw [e] at htl
                simp at htl
              obtain ⟨mn, hmn⟩ := exists_min hne
              have hall := hmn.all_pos 0
              refine sv_if (b := decide (0 < mn)) (EvT.is (et_and (a := true) (et_test (Ev.is (ev_op (ev_cb (ea_cons (ev_var rfl) ea_nil) cd_lenL) ev_int rd_eqI) ?_)) fun _ => et_test (ev_op (ev_cb (ea_cons (ev_op (ev_var rfl) ev_int (rd_ixL rfl)) ea_nil) (cd_minT hmn)) ev_int rd_gtI)) (Bool.true_and _)) (fun hb => ?_) fun hb => ?_
              · rfl
              · have hst : toldOf cs m.length lot = some t := by
                  rw [key]
                  show (if t.all (fun x => decide (0 < x)) = true then some t else none) = _
                  rw [hall, if_pos hb]
                have hbal : bal m rs = some (balOf rs lot t) := by
                  refine find_first (i := i) (by rw [List.length_range]; exact hi) (fun k hk => ?_) ?_
                  · rw [List.getElem_range]
                    exact hno k hk
                  · rw [List.getElem_range]
                    refine find_first (i := j) hj (fun k hk => ?_) ?_
                    · show (toldOf cs m.length _).map _ = none
                      rw [hno2 k hk (by omega)]
                      rfl
                    · show (toldOf cs m.length _).map _ = _
                      rw [hje, hst]
                      rfl
                refine sv_ret (d := balOf rs lot t) (ev_lc1 (xs := lot.zip t) (enc := fun p => D.tup [.int (p.1 : Nat), .int p.2]) (h := fun p => .tup [eRule (rs.getD p.1 ("", "")), .int p.2]) ((ei_zip2 (ea_cons (ev_var rfl) (ea_cons (ev_op (ev_var rfl) ev_int (rd_ixL rfl)) ea_nil)) (.tup _) (.tup _)).is zip2_map) (by simp) (fun x _ => asg_tup2) (fun x hx => ev_tup (ea_cons (ev_op (ev_op (ev_var rfl) ev_int (rd_ixT rfl)) (ev_var rfl) (rd_ixT ?_)) (ea_cons (ev_var rfl) ea_nil)) (by show 2 ≤ _; decide)) (by rw [List.length_zip]; omega)) ?_
                · have hal : x.1 < rs.length := l3 _ (List.of_mem_zip hx).1
                  rw [atI_getD (by rw [List.length_map]; exact hal) .non]
                  congr 1
                  rw [List.getD_eq_getElem?_getD, List.getD_eq_getElem?_getD, List.getElem?_map, List.getElem?_eq_getElem hal]
                  rfl
                · rw [hbal]
                  rfl
              · have hst : toldOf cs m.length lot = none := by
                  rw [key]
                  show (if t.all (fun x => decide (0 < x)) = true then some t else none) = _
                  rw [hall, hb]
                  rfl
                exact sv_next ⟨rfl, keep hst, _, _, _, rfl⟩
        · have hst : toldOf cs m.length lot = none := by
            rw [key]
            unfold pickOne
            split
            · rename_i t ht
              rw [ht] at h1
              exact absurd rfl h1
            · rfl
          refine sv_if (b := false) (EvT.is (et_and (a := false) (b := false) (et_test (Ev.is (ev_op (ev_cb (ea_cons (ev_var rfl) ea_nil) cd_lenL) ev_int rd_eqI) ?_)) fun h => by cases h) rfl) (fun h => by cases h) fun _ => sv_next ⟨rfl, keep hst, _, _, _, rfl⟩
          rw [List.length_map, decide_eq_false (by omega)]
      · rintro μ ρ ⟨rfl, hno2, x3, x4, x5, rfl⟩
        rw [List.length_map] at hno2
        have : balAt m rs i = none := find_none fun k hk => by
          show (toldOf cs m.length _).map _ = none
          rw [hno2 k hk hk]
          rfl
        refine ⟨rfl, fun k hk => ?_, _, _, _, _, rfl⟩
        by_cases e : k = i
        · rw [e]
          exact this
        · exact hno k (by omega)
    · rintro μ ρ ⟨rfl, hno, x2, x3, x4, x5, rfl⟩
      rw [upTo_len] at hno
      have hb : bal m rs = none := find_none fun k hk => by
        rw [List.getElem_range]
        rw [List.length_range] at hk
        exact hno k (by omega)
      rw [hb]
      exact sv_ret ev_non rfl
def fDoesRest (ds : List D) (d : D) : Prop := ∃ (m : Str) (rs : List Rl), ds = [eFolk m rs] ∧ d = .bl (rests m rs) ∧ OkF m rs ∧ rs.length ≤ 5
theorem dDoesRest (F : FunAt K mg "does_rest" sDoesRest ["folk"]) (DBalance : Def P w K mg base CX0 "balance" 6 ["folk"] [] (spF fBalance)) : Def P w K mg base CX0 "does_rest" 7 ["folk"] [] (spF fDoesRest) := by
  refine F.def_ scDoesRest (fun ds d h => ?_) (fun cdv A outer s H E f hr => ?_)
  · obtain ⟨a, b, rfl, _⟩ := h
    rfl
  · refine ⟨_, (pss_one (ps_ret (pe_cmpR uIsN (pe_def DBalance hr (by decide) (by rfl) pass0 (pa_cons (pv 0) pa_nil)) pe_non (nomark _)))), fun ds d h => ?_⟩
    obtain ⟨m, rs, rfl, rfl, hf, hrs⟩ := h
    refine sv_ret (d := .bl (rests m rs)) (ev_op (ev_call0 (ea_cons (ev_var rfl) ea_nil) (spD ⟨m, rs, rfl, rfl, hf, hrs⟩)) ev_non ?_) rfl
    unfold rests
    cases hb : bal m rs with
    | none => exact rd_isN1
    | some d =>
      refine rd_isN fun e => ?_
      have : ∀ (o : Option D), o = some d → bal m rs = o → d ≠ .non := fun o ho hbo e => by
        subst e
        obtain ⟨k, hk, h1⟩ := List.exists_of_findSome?_eq_some (hb : (List.range m.length).findSome? (balAt m rs) = some D.non)
        obtain ⟨lot, hlot, h2⟩ := List.exists_of_findSome?_eq_some h1
        obtain ⟨t, ht, h3⟩ := Option.map_eq_some_iff.mp h2
        cases h3
      exact this _ rfl hb e
end
end Mf
set_option maxRecDepth 100000
set_option maxHeartbeats 4000000
/-! Meetfolk: small defs of ending and of rays. -/
namespace Mf
open PySem L2 PyProof.Rows
variable [Tt] [Xw]
local macro_rules
  | `(tactic| walk_at "rd") => `(tactic| first
    | exact rd_addI | refine rd_addL ?_ | refine rd_addS ?_ | exact rd_sub | refine rd_mulI ?_ | refine rd_mulL ?_ ?_ ?_ | refine rd_mulS ?_ ?_ ?_ | refine rd_div ?_ | refine rd_mod ?_ | refine rd_pow ?_ | exact ud_neg
    | exact rd_ltI | exact rd_leI | exact rd_gtI | exact rd_geI | exact rd_ltS | exact rd_leS | exact rd_eqI | exact rd_neI
    | exact rd_ixT rfl | exact rd_ixL rfl | exact cd_lenL | exact cd_lenT | exact cd_int | exact cd_abs | exact cd_tupL | exact cd_listL | exact cd_listT | exact cd_all | exact cd_any | exact cd_sumT | exact bd_count)
local macro_rules
  | `(tactic| walk_at "ev1") => `(tactic| first
    | exact ev_int | exact ev_str | exact ev_bl | exact ev_non | exact ea_nil | refine ea_cons ?_ ?_ | exact ev_var rfl | exact ev_ty
    | refine ev_op ?_ ?_ ?_ | refine ev_un ?_ ?_ | refine ev_cb ?_ ?_ | refine ev_tup ?_ (by decide) | refine ev_bm ?_ ?_ ?_
    | exact et_yes | refine et_test ?_ | refine et_B ?_ | refine et_or ?_ (fun _ => ?_) | refine et_and ?_ (fun _ => ?_) | refine ev_andV ?_ (fun _ => ?_) | refine ev_orV ?_ (fun _ => ?_) | refine ev_notV ?_ | refine ev_chain ?_ ?_ ?_ (fun _ => ?_) (fun _ => ?_) | refine et_not ?_ | exact eo_none | refine eo_some ?_ | walk_at "rd")
local macro_rules
  | `(tactic| walk_at "ev") => `(tactic| repeat' walk_at "ev1")

def cd_anyOK {α : Type} (K : PySem.W.Frag) (xs : List α) (p : α → Bool) (b : Bool) : Prop := CD mu0 (rAny K) [.lst (xs.map fun x => D.bl (p x))] (.bl b)
theorem cd_anyOK.of {α : Type} {K : PySem.W.Frag} {xs : List α} {p : α → Bool} {b : Bool} (h : b = xs.any p) : cd_anyOK K xs p b := by
  have := cd_any (μ := mu0) (K := K) (bs := xs.map p)
  rw [List.map_map, List.any_map] at this
  rw [h]
  exact this
abbrev sFew : Stmt := topS 49
theorem scFew : FnScope ["folk"] ["folk"] (defScope sFew) := ⟨rfl, rfl, rfl, by decide +kernel, rfl, by decide +kernel, by decide +kernel⟩
abbrev sTimesOf : Stmt := topS 53
theorem scTimesOf : FnScope ["folk", "crowd", "rule", "told", "many", "need", "change"] ["folk", "crowd", "rule"] (defScope sTimesOf) := ⟨rfl, rfl, rfl, by decide +kernel, rfl, by decide +kernel, by decide +kernel⟩
abbrev sPlus : Stmt := topS 59
theorem scPlus : FnScope ["one", "other", "times", "found", "many", "step"] ["one", "other", "times"] (defScope sPlus) := ⟨rfl, rfl, rfl, by decide +kernel, rfl, by decide +kernel, by decide +kernel⟩
abbrev sLacks : Stmt := topS 60
theorem scLacks : FnScope ["folk", "crowd", "gains", "rule", "told", "many", "need", "gain"] ["folk", "crowd", "gains", "rule"] (defScope sLacks) := ⟨rfl, rfl, rfl, by decide +kernel, rfl, by decide +kernel, by decide +kernel⟩
abbrev sStays : Stmt := topS 61
theorem scStays : FnScope ["folk", "crowds", "gains", "crowd", "rule"] ["folk", "crowds", "gains"] (defScope sStays) := ⟨rfl, rfl, rfl, by decide +kernel, rfl, by decide +kernel, by decide +kernel⟩
section
variable {P : Program} {w : World} {K : PySem.W.Frag} {mg : Str → Option Value} {base : Heap}
def fewT (m : Str) : List (List Int) := crowdsT m 2 ++ crowdsT m 3
def fFew (ds : List D) (d : D) : Prop := ∃ (m : Str) (rs : List Rl), ds = [eFolk m rs] ∧ d = .lst ((fewT m).map eCrowd) ∧ OkM m
theorem dFew (F : FunAt K mg "few" sFew ["folk"]) (DCrowdsOf : Def P w K mg base CX0 "crowds_of" 2 ["folk", "size"] [] (spF fCrowdsOf)) : Def P w K mg base CX0 "few" 3 ["folk"] [] (spF fFew) := by
  refine F.def_ scFew (fun ds d h => ?_) (fun cdv A outer s H E f hr => ?_)
  · obtain ⟨m, rs, rfl, _⟩ := h
    rfl
  · refine ⟨_, (pss_one (ps_ret (pe_op op_addU (pe_def DCrowdsOf hr (by decide) (by rfl) pass0 (pa_cons (pv 0) (pa_cons pe_int pa_nil))) (pe_def DCrowdsOf hr (by decide) (by rfl) pass0 (pa_cons (pv 0) (pa_cons pe_int pa_nil)))))), fun ds d h => ?_⟩
    obtain ⟨m, rs, rfl, rfl, hm⟩ := h
    have h2 := textsT_len hm.l6 2
    have h3 := textsT_len hm.l6 3
    refine sv_ret (d := .lst ((fewT m).map eCrowd)) (Ev.is (ev_op (ev_call0 (ea_cons (ev_var rfl) (ea_cons ev_int ea_nil)) (spD ⟨m, rs, 2, rfl, rfl, hm, by decide⟩)) (ev_call0 (ea_cons (ev_var rfl) (ea_cons ev_int ea_nil)) (spD ⟨m, rs, 3, rfl, rfl, hm, by decide⟩)) (rd_addL ?_)) ?_) rfl
    · unfold crowdsT
      rw [List.length_map, List.length_map, List.length_map, List.length_map]
      omega
    · unfold fewT
      rw [List.map_append]
def fTimes (ds : List D) (d : D) : Prop := ∃ (m : Str) (rs : List Rl) (c : List Int) (r : Rl) (mn : Int), ds = [eFolk m rs, eCrowd c, eRule r] ∧ d = .int (1 + mn) ∧ OkF m rs ∧ r ∈ rs ∧ IsMin (quots m c r) mn
theorem dTimesOf (F : FunAt K mg "times_of" sTimesOf ["folk", "crowd", "rule"]) (T : Bts mg) (DCountsOf : Def P w K mg base CX0 "counts_of" 1 ["moods", "text"] [] (spF fCounts)) (DChangeOf : Def P w K mg base CX0 "change_of" 2 ["folk", "rule"] [] (spF fChange)) :
    Def P w K mg base CX0 "times_of" 3 ["folk", "crowd", "rule"] [] (spF fTimes) := by
  refine F.def_ scTimesOf (fun ds d h => ?_) (fun cdv A outer s H E f hr => ?_)
  · obtain ⟨m, rs, c, r, mn, rfl, _⟩ := h
    rfl
  · refine ⟨_, (pss_cons (ps_set (i := 3) scTimesOf.nd rfl (by first | exact Or.inl rfl | exact Or.inr rfl) (pe_zipV (by rfl) T.zip (pa_cons (pv 1) (pa_cons (pe_def DCountsOf hr (by decide) (by rfl) pass0 (pa_cons (pe_ix (uIx K rfl) (pv 0) pe_int (fun _ _ => rfl)) (pa_cons (pe_ix (uIx K rfl) (pv 2) pe_int (fun _ _ => rfl)) pa_nil))) (pa_cons (pe_def DChangeOf hr (by decide) (by rfl) pass0 (pa_cons (pv 0) (pa_cons (pv 2) pa_nil))) pa_nil)))))
      (pss_one (ps_ret (pe_op op_addU pe_int (pe_callB (uMin K rfl rfl (hu_of hr)) (by rfl) T.min (by decide +kernel) (pa_cons (pe_lc (own := [("many", 4), ("need", 5), ("change", 6)]) (g := (gTup K 3 (gCons (gName 4) (gCons (gName 5) (gCons (gName 6) gNil)))))  rfl scTimesOf.nd (pi_zipV (k := 3) rfl (by first | exact Or.inl rfl | exact Or.inr (Or.inl rfl))) (blkOk_by (N := ["folk", "crowd", "rule", "told", "many", "need", "change"]) (sc := (defScope sTimesOf)) (by decide +kernel)) (fun _ _ _ _ _ => (uGtup K rfl (pg_tup rfl (pgs_cons (pg_name (i := 4) scTimesOf.nd rfl (by first | exact Or.inl rfl | exact Or.inr rfl)) (pgs_cons (pg_name (i := 5) scTimesOf.nd rfl (by first | exact Or.inl rfl | exact Or.inr rfl)) (pgs_cons (pg_name (i := 6) scTimesOf.nd rfl (by first | exact Or.inl rfl | exact Or.inr rfl)) pgs_nil)))))) (fun _ _ _ _ _ => pts_one (pt_cmpR op_ltU (pv 6) pe_int (nomark _))) (fun _ _ _ _ _ => (pe_op op_divU (pe_op op_subU (pv 4) (pv 5)) (pe_un un_negU (pv 6))))) pa_nil)))))), fun ds d h => ?_⟩
    obtain ⟨m, rs, c, r, mn, rfl, rfl, hf, hr, hmn⟩ := h
    have h6 := hf.moods.l6
    refine q_told (ea_cons (ev_var rfl) (ea_cons (ev_call0 (ea_cons (ev_op (ev_var rfl) ev_int (rd_ixT rfl)) (ea_cons (ev_op (ev_var rfl) ev_int (rd_ixT rfl)) ea_nil)) (spD ⟨m, r.1, rfl, rfl, by omega⟩)) (ea_cons (ev_call0 (ea_cons (ev_var rfl) (ea_cons (ev_var rfl) ea_nil)) (spD ⟨m, rs, r, rfl, rfl, by omega⟩)) ea_nil))) (.tup _) (.tup _) (.tup _) (by simp [start0]) (ew_op (x := .int mn) (ew_cb (x := .lst ((quots m c r).map D.int)) ?_ (cd_minL hmn)) rd_addI) rfl
    have e : D.lst ((quots m c r).map D.int) = .lst (((c.zip ((cn m r.1).zip (chg m r))).filter fun p => decide (p.2.2 < 0)).map fun p => D.int ((p.1 - p.2.1) / -p.2.2)) := by
      unfold quots
      rw [List.map_map]
      rfl
    rw [e]
    refine ew_lc (xs := c.zip ((cn m r.1).zip (chg m r))) (enc := fun (p : Int × Int × Int) => D.tup [.int p.1, .int p.2.1, .int p.2.2]) (f := fun p => decide (p.2.2 < 0)) (h := fun p => D.int ((p.1 - p.2.1) / -p.2.2)) (js := [4, 5, 6]) (ρ' := fun p => [some (eFolk m rs), some (eCrowd c), some (eRule r), none, some (.int p.1), some (.int p.2.1), some (.int p.2.2)]) zip3_map ?_ ?_ ?_ ?_ ?_
    · simp
    · exact fun x _ => asg_tup3
    · exact fun x _ => et_test (ev_op (ev_var rfl) ev_int rd_ltI)
    · refine fun x hx hb => ev_op (ev_op (ev_var rfl) (ev_var rfl) rd_sub) (ev_un (ev_var rfl) ud_neg) (rd_div (divOk ?_ ?_))
      · have := of_decide_eq_true hb
        omega
      · have : (x.2.2).natAbs ≤ 2 := chg_small hf hr (List.of_mem_zip (List.of_mem_zip hx).2).2
        omega
    · rw [List.length_zip, List.length_zip, cn_len]
      omega
def fPlus (ds : List D) (d : D) : Prop := ∃ (a b : List Int) (k : Int), ds = [eCrowd a, eCrowd b, .int k] ∧ d = eCrowd (pluz a b k) ∧ k.natAbs ≤ 2 ^ 200 ∧ (∀ x ∈ b, x.natAbs ≤ 2 ^ 200) ∧ pluz a b k ≠ [] ∧ (∀ x ∈ pluz a b k, x ≤ 10 ^ 40) ∧ a.length ≤ 1000
theorem exists_max : ∀ {l : List Int}, l ≠ [] → ∃ m, IsMax l m
  | [], h => absurd rfl h
  | [x], _ => ⟨x, List.mem_cons_self .., fun y hy => by rw [List.mem_singleton.mp hy]; exact Int.le_refl _⟩
  | x :: z :: l, _ => by
    obtain ⟨m, h1, h2⟩ := exists_max (l := z :: l) (by simp)
    by_cases h : m ≤ x
    · exact ⟨x, List.mem_cons_self .., fun y hy => by
        rcases List.mem_cons.mp hy with rfl | hy
        · exact Int.le_refl _
        · exact Int.le_trans (h2 y hy) h⟩
    · exact ⟨m, List.mem_cons_of_mem _ h1, fun y hy => by
        rcases List.mem_cons.mp hy with rfl | hy
        · omega
        · exact h2 y hy⟩
theorem dPlus (F : FunAtD K mg "plus" sPlus ["one", "other", "times"] [.int 1]) (T : Bts mg) (C : Cst mg) :
    Def P w K mg base CX0 "plus" 1 ["one", "other", "times"] [] (spF fPlus) ∧ Def P w K mg base CX0 "plus" 1 ["one", "other", "times"] [.int 1] (spF fPlus) := by
  refine F.fn_ scPlus (fun ds d h => ?_) (fun cdv A outer s H E f hr => ?_)
  · obtain ⟨a, b, k, rfl, _⟩ := h
    rfl
  · refine ⟨_, (pss_cons (ps_set (i := 3) scPlus.nd rfl (by first | exact Or.inl rfl | exact Or.inr rfl) (pe_callTy (uTup K rfl) (by rfl) T.tuple (by decide +kernel) (pa_cons (pe_lc (own := [("many", 4), ("step", 5)]) (g := (gTup K 2 (gCons (gName 4) (gCons (gName 5) gNil)))) (tt := tYes) rfl scPlus.nd (pi_zip2 (by rfl) T.zip (pa_cons (pv 0) (pa_cons (pv 1) pa_nil))) (blkOk_by (N := ["one", "other", "times", "found", "many", "step"]) (sc := (defScope sPlus)) (by decide +kernel)) (fun _ _ _ _ _ => (uGtup K rfl (pg_tup rfl (pgs_cons (pg_name (i := 4) scPlus.nd rfl (by first | exact Or.inl rfl | exact Or.inr rfl)) (pgs_cons (pg_name (i := 5) scPlus.nd rfl (by first | exact Or.inl rfl | exact Or.inr rfl)) pgs_nil))))) (fun _ _ _ _ _ => pts_nil) (fun _ _ _ _ _ => (pe_op op_addU (pv 4) (pe_op op_mulU (pv 2) (pv 5))))) pa_nil)))
      (pss_cons (ps_if (pt_cmpR op_gtU (pe_callB (uMax K rfl rfl (hu_of hr)) (by rfl) T.max (by decide +kernel) (pa_cons (pv 3) pa_nil)) (pe_gint (by rfl) C.MOST_FOLK) (nomark _)) (pss_one ps_never) pss_nil)
      (pss_one (ps_ret (pv 3))))), fun ds d h => ?_⟩
    obtain ⟨a, b, k, rfl, rfl, hk, hb, hne, hle, hl⟩ := h
    obtain ⟨mx, hmx⟩ := exists_max hne
    refine q_asg (d := eCrowd (pluz a b k)) (ev_tupI ((ei_zip2 (ea_cons (ev_var rfl) (ea_cons (ev_var rfl) ea_nil)) (.tup _) (.tup _)).is zip2_map) (by simp) (fun x _ => asg_tup2) (fun x hx => ev_op (ev_var rfl) (ev_op (ev_var rfl) (ev_var rfl) (rd_mulI (mulOk (small_big hk) (small_big (hb _ (List.of_mem_zip hx).2))))) rd_addI) (by rw [List.length_zip]; omega)) asg_name ?_
    refine q_if (b := false) (EvT.is (et_test (ev_op (ev_cb (ea_cons (ev_var rfl) ea_nil) (cd_maxT hmx)) ev_int rd_gtI)) ?_) (fun h => by cases h) fun _ => ?_
    · have := hle mx hmx.1
      exact decide_eq_false (by omega)
    · exact q_next (sv_ret (ev_var rfl) rfl)
def fLacks (ds : List D) (d : D) : Prop := ∃ (m : Str) (rs : List Rl) (c g : List Int) (r : Rl), ds = [eFolk m rs, eCrowd c, eCrowd g, eRule r] ∧ d = .bl (lack m c g r) ∧ m.length ≤ 100
theorem dLacks (F : FunAt K mg "lacks" sLacks ["folk", "crowd", "gains", "rule"]) (T : Bts mg) (DCountsOf : Def P w K mg base CX0 "counts_of" 1 ["moods", "text"] [] (spF fCounts)) :
    Def P w K mg base CX0 "lacks" 2 ["folk", "crowd", "gains", "rule"] [] (spF fLacks) := by
  refine F.def_ scLacks (fun ds d h => ?_) (fun cdv A outer s H E f hr => ?_)
  · obtain ⟨m, rs, c, g, r, rfl, _⟩ := h
    rfl
  · refine ⟨_, (pss_cons (ps_set (i := 4) scLacks.nd rfl (by first | exact Or.inl rfl | exact Or.inr rfl) (pe_zipV (by rfl) T.zip (pa_cons (pv 1) (pa_cons (pe_def DCountsOf hr (by decide) (by rfl) pass0 (pa_cons (pe_ix (uIx K rfl) (pv 0) pe_int (fun _ _ => rfl)) (pa_cons (pe_ix (uIx K rfl) (pv 3) pe_int (fun _ _ => rfl)) pa_nil))) (pa_cons (pv 2) pa_nil)))))
      (pss_one (ps_ret (pe_callB (uAny K rfl rfl) (by rfl) T.any (by decide +kernel) (pa_cons (pe_lc (own := [("many", 5), ("need", 6), ("gain", 7)]) (g := (gTup K 3 (gCons (gName 5) (gCons (gName 6) (gCons (gName 7) gNil))))) (tt := tYes) rfl scLacks.nd (pi_zipV (k := 4) rfl (by first | exact Or.inl rfl | exact Or.inr (Or.inl rfl))) (blkOk_by (N := ["folk", "crowd", "gains", "rule", "told", "many", "need", "gain"]) (sc := (defScope sLacks)) (by decide +kernel)) (fun _ _ _ _ _ => (uGtup K rfl (pg_tup rfl (pgs_cons (pg_name (i := 5) scLacks.nd rfl (by first | exact Or.inl rfl | exact Or.inr rfl)) (pgs_cons (pg_name (i := 6) scLacks.nd rfl (by first | exact Or.inl rfl | exact Or.inr rfl)) (pgs_cons (pg_name (i := 7) scLacks.nd rfl (by first | exact Or.inl rfl | exact Or.inr rfl)) pgs_nil)))))) (fun _ _ _ _ _ => pts_nil) (fun _ _ _ _ _ => (pe_and (pe_cmpR op_ltU (pv 5) (pv 6) (nomark _)) (pe_one (pe_cmpR (uEq K rfl (hu64 hr)) (pv 7) pe_int (nomark _)))))) pa_nil))))), fun ds d h => ?_⟩
    obtain ⟨m, rs, c, g, r, rfl, rfl, hm⟩ := h
    have key : cd_anyOK K (c.zip ((cn m r.1).zip g)) (fun (p : Int × Int × Int) => decide (p.1 < p.2.1) && decide (p.2.2 = 0)) (lack m c g r) := cd_anyOK.of rfl
    refine q_told (ea_cons (ev_var rfl) (ea_cons (ev_call0 (ea_cons (ev_op (ev_var rfl) ev_int (rd_ixT rfl)) (ea_cons (ev_op (ev_var rfl) ev_int (rd_ixT rfl)) ea_nil)) (spD ⟨m, r.1, rfl, rfl, hm⟩)) (ea_cons (ev_var rfl) ea_nil))) (.tup _) (.tup _) (.tup _) (by simp [start0]) (ew_cb (x := .lst ((c.zip ((cn m r.1).zip g)).map fun (p : Int × Int × Int) => D.bl (decide (p.1 < p.2.1) && decide (p.2.2 = 0)))) ?_ key) rfl
    have e : D.lst ((c.zip ((cn m r.1).zip g)).map fun (p : Int × Int × Int) => D.bl (decide (p.1 < p.2.1) && decide (p.2.2 = 0))) = .lst (((c.zip ((cn m r.1).zip g)).filter fun _ => true).map fun (p : Int × Int × Int) => D.bl (decide (p.1 < p.2.1) && decide (p.2.2 = 0))) := by
      rw [List.filter_eq_self.mpr (fun _ _ => rfl)]
    rw [e]
    refine ew_lc (xs := c.zip ((cn m r.1).zip g)) (enc := fun (p : Int × Int × Int) => D.tup [.int p.1, .int p.2.1, .int p.2.2]) (f := fun _ => true) (h := fun (p : Int × Int × Int) => D.bl (decide (p.1 < p.2.1) && decide (p.2.2 = 0))) (js := [5, 6, 7]) (ρ' := fun p => [some (eFolk m rs), some (eCrowd c), some (eCrowd g), some (eRule r), none, some (.int p.1), some (.int p.2.1), some (.int p.2.2)]) zip3_map ?_ ?_ ?_ ?_ ?_
    · simp
    · exact fun x _ => asg_tup3
    · exact fun x _ => et_yes
    · exact fun x hx hb => ev_andV (ev_op (ev_var rfl) (ev_var rfl) rd_ltI) (fun _ => ev_op (ev_var rfl) ev_int rd_eqI)
    · rw [List.length_zip, List.length_zip, cn_len]
      omega
def fStays (ds : List D) (d : D) : Prop := ∃ (m : Str) (rs : List Rl) (cs : List (List Int)) (g : List Int), ds = [eFolk m rs, .lst (cs.map eCrowd), eCrowd g] ∧ d = .bl (stayz m rs cs g) ∧ m.length ≤ 100 ∧ rs.length ≤ 100 ∧ cs.length ≤ 1000
theorem dStays (F : FunAt K mg "stays" sStays ["folk", "crowds", "gains"]) (T : Bts mg) (DLacks : Def P w K mg base CX0 "lacks" 2 ["folk", "crowd", "gains", "rule"] [] (spF fLacks)) :
    Def P w K mg base CX0 "stays" 3 ["folk", "crowds", "gains"] [] (spF fStays) := by
  refine F.def_ scStays (fun ds d h => ?_) (fun cdv A outer s H E f hr => ?_)
  · obtain ⟨m, rs, c, g, rfl, _⟩ := h
    rfl
  · refine ⟨_, (pss_one (ps_ret (pe_callB (uAll K rfl rfl) (by rfl) T.all (by decide +kernel) (pa_cons (pe_lc2 (own := [("crowd", 3), ("rule", 4)]) (vs1 := [4]) (g := (gName 3)) (g1 := (gName 4)) (tt := tYes) (tt1 := tYes) rfl scStays.nd (uSeq K rfl (pv 1)) (blkOk_by (N := ["folk", "crowds", "gains", "crowd", "rule"]) (sc := (defScope sStays)) (by decide +kernel)) (by decide) (fun _ _ _ _ _ => (pg_name (i := 3) scStays.nd rfl (by first | exact Or.inl rfl | exact Or.inr rfl))) (fun _ _ _ _ _ => pts_nil) (fun _ _ _ _ _ => (uSeq K rfl (pe_ix (uIx K rfl) (pv 0) pe_int (fun _ _ => rfl)))) (fun _ _ _ _ _ => (pg_name (i := 4) scStays.nd rfl (by first | exact Or.inl rfl | exact Or.inr rfl))) (fun _ _ _ _ _ => pts_nil) (fun _ _ _ _ _ => (pe_def DLacks hr (by decide) (by rfl) pass0 (pa_cons (pv 0) (pa_cons (pv 3) (pa_cons (pv 2) (pa_cons (pv 4) pa_nil))))))) pa_nil)))), fun ds d h => ?_⟩
    obtain ⟨m, rs, cs, g, rfl, rfl, hm, hr, hc⟩ := h
    have e1 : (cs.flatMap fun c => ((rs.filter fun _ => true).map fun r => D.bl (lack m c g r))) = (cs.flatMap fun c => rs.map fun r => lack m c g r).map D.bl := by
      rw [List.map_flatMap]
      congr 1
      funext c
      rw [List.filter_eq_self.mpr (fun _ _ => rfl), List.map_map]
      rfl
    refine sv_ret (d := .bl (stayz m rs cs g)) (ev_cb (ds := [.lst ((cs.flatMap fun c => rs.map fun r => lack m c g r).map D.bl)]) (ea_cons (Ev.is (ev_lc2 (xs := cs) (enc := eCrowd) (ys := fun _ => rs) (enc1 := fun _ => eRule) (f := fun _ _ => true) (h := fun c r => D.bl (lack m c g r)) (ei_seqL (ev_var rfl)) (by simp) (fun x _ => asg_name) (fun x _ => ei_seqT (ev_op (ev_var rfl) ev_int (rd_ixT rfl))) (by simp) (fun x _ y _ => asg_name) (fun _ _ _ _ => et_yes) (fun c _ r _ _ => ev_call0 (ea_cons (ev_var rfl) (ea_cons (ev_var rfl) (ea_cons (ev_var rfl) (ea_cons (ev_var rfl) ea_nil)))) (spD ⟨m, rs, c, g, r, rfl, rfl, hm⟩)) ?_) (congrArg D.lst e1)) ea_nil) ?_) rfl
    · rw [e1, List.length_map]
      have : ∀ l : List (List Int), (l.flatMap fun c => rs.map fun r => lack m c g r).length ≤ l.length * 100 := fun l => by
        induction l with
        | nil => exact Nat.le_refl _
        | cons c l ih =>
          rw [List.flatMap_cons, List.length_append, List.length_map, List.length_cons, Nat.succ_mul]
          omega
      have := this cs
      omega
    · have := cd_all (μ := mu0) (K := K) (bs := cs.flatMap fun c => rs.map fun r => lack m c g r)
      rwa [all_flat] at this
end
end Mf
set_option maxRecDepth 100000
set_option maxHeartbeats 4000000
/-! Meetfolk: leaps_of, and the rays' defs. -/
namespace Mf
open PySem L2 PyProof.Rows
variable [Tt]
local macro_rules
  | `(tactic| walk_at "rd") => `(tactic| first
    | exact rd_addI | refine rd_addL ?_ | refine rd_addS ?_ | exact rd_sub | refine rd_mulI ?_ | refine rd_mulL ?_ ?_ ?_ | refine rd_mulS ?_ ?_ ?_ | refine rd_div ?_ | refine rd_mod ?_ | refine rd_pow ?_ | exact ud_neg
    | exact rd_ltI | exact rd_leI | exact rd_gtI | exact rd_geI | exact rd_ltS | exact rd_leS | exact rd_eqI | exact rd_neI
    | exact rd_ixT rfl | exact rd_ixL rfl | exact cd_lenL | exact cd_lenT | exact cd_int | exact cd_abs | exact cd_tupL | exact cd_listL | exact cd_listT | exact cd_all | exact cd_any | exact cd_sumT | exact bd_count)
local macro_rules
  | `(tactic| walk_at "ev1") => `(tactic| first
    | exact ev_int | exact ev_str | exact ev_bl | exact ev_non | exact ea_nil | refine ea_cons ?_ ?_ | exact ev_var rfl | exact ev_ty
    | refine ev_op ?_ ?_ ?_ | refine ev_un ?_ ?_ | refine ev_cb ?_ ?_ | refine ev_tup ?_ (by decide) | refine ev_bm ?_ ?_ ?_
    | exact et_yes | refine et_test ?_ | refine et_B ?_ | refine et_or ?_ (fun _ => ?_) | refine et_and ?_ (fun _ => ?_) | refine ev_andV ?_ (fun _ => ?_) | refine ev_orV ?_ (fun _ => ?_) | refine ev_notV ?_ | refine ev_chain ?_ ?_ ?_ (fun _ => ?_) (fun _ => ?_) | refine et_not ?_ | exact eo_none | refine eo_some ?_ | walk_at "rd")
local macro_rules
  | `(tactic| walk_at "ev") => `(tactic| repeat' walk_at "ev1")

abbrev sLeapsOf : Stmt := topS 54
theorem scLeapsOf : FnScope ["folk", "crowd", "found", "rule", "times"] ["folk", "crowd"] (defScope sLeapsOf) := ⟨rfl, rfl, rfl, by decide +kernel, rfl, by decide +kernel, by decide +kernel⟩
section
variable [Xw]
theorem rules_pl {m : Str} {rs : List Rl} (h : OkF m rs) (l : List Rl) (hl : ∀ r ∈ l, r ∈ rs) : pls 8 (l.map eRule) = true := pls_map fun r hr => by
  have h1 := (h.one r (hl r hr)).pl h.moods 7
  have h2 := (h.two r (hl r hr)).pl h.moods 7
  show (decide (1 ≤ 8) && (pl 7 (.str r.1) && (pl 7 (.str r.2) && true))) = true
  rw [h1, h2]
  rfl
theorem usab_pl {m : Str} {rs : List Rl} (h : OkF m rs) (c : List Int) : pls 8 ((usab m rs c).map eRule) = true := rules_pl h _ fun r hr => (List.mem_filter.mp hr).1
theorem sum_nn : ∀ {c : List Int}, (∀ x ∈ c, 0 ≤ x) → ∀ x ∈ c, x ≤ c.sum
  | [], _, x, h => by cases h
  | y :: c, hn, x, h => by
    rw [List.sum_cons]
    have h0 : 0 ≤ c.sum := by
      have : ∀ l : List Int, (∀ x ∈ l, 0 ≤ x) → 0 ≤ l.sum := fun l => by
        induction l with
        | nil => exact fun _ => Int.le_refl _
        | cons z l ih =>
          intro h
          rw [List.sum_cons]
          have := h z (List.mem_cons_self ..)
          have := ih fun x hx => h x (List.mem_cons_of_mem _ hx)
          omega
      exact this c fun x hx => hn x (List.mem_cons_of_mem _ hx)
    rcases List.mem_cons.mp h with rfl | h
    · omega
    · have := sum_nn (fun x hx => hn x (List.mem_cons_of_mem _ hx)) x h
      have := hn y (List.mem_cons_self ..)
      omega
end
section
variable {P : Program} {w : World} {K : PySem.W.Frag} {mg : Str → Option Value} {base : Heap} {CT CN : Addr}
abbrev eLeap (q : Rl × Int) : D := .tup [eRule q.1, .int q.2]
def leapsOut (CT : Addr) (o : Option (List (Rl × Int) × List Int)) : Out := match o with
  | some (l, d) => .val (.tup [.lst (l.map eLeap), eCrowd d])
  | none => .exc ⟨CT, some ("most", 5000)⟩
def fLeaps (CT : Addr) (ds : List D) (o : Out) : Prop := ∃ (m : Str) (rs : List Rl) (c : List Int), ds = [eFolk m rs, eCrowd c] ∧ o = leapsOut CT (leapsOf m rs c) ∧ OkD m rs ∧ OkC m c ∧ c.sum ≤ 10 ^ 40
theorem dLeapsOf (F : FunAt K mg "leaps_of" sLeapsOf ["folk", "crowd"]) (T : Bts mg) (C : Cst mg) (TM : TmAt P K mg CT) (DUsable : Def P w K mg base CX0 "usable" 3 ["folk", "crowd"] [] (spF fUsable)) (DTimesOf : Def P w K mg base CX0 "times_of" 3 ["folk", "crowd", "rule"] [] (spF fTimes))
    (DBehind : Def P w K mg base CX0 "behind" 3 ["folk", "crowd", "rule", "times"] [] (spF fBehind)) : Def P w K mg base (L2.CX P w) "leaps_of" 5 ["folk", "crowd"] [] (spX (fLeaps CT)) := by
  refine F.defX scLeapsOf (fun ds o h => ?_) (fun cdv A outer s H E f hr => ?_)
  · obtain ⟨m, rs, c, rfl, _⟩ := h
    rfl
  · letI : Xw := ⟨E⟩
    refine ⟨_, (pss_cons (ps_set (i := 2) scLeapsOf.nd rfl (by first | exact Or.inl rfl | exact Or.inr rfl) (pe_lst pa_nil))
      (pss_cons (ps_while (passes_of rfl) (pt_cmpR (uNe K rfl (hu64 hr)) (pe_def DUsable hr (by decide) (by rfl) pass0 (pa_cons (pv 0) (pa_cons (pv 1) pa_nil))) (pe_lst pa_nil) (nomark _)) (pss_cons (ps_if (pt_cmpR op_geU (pe_callB (uLen K rfl) (by rfl) T.len (by decide +kernel) (pa_cons (pv 2) pa_nil)) (pe_gint (by rfl) C.MOST_LEAPS) (nomark _)) (pss_one (ps_raise rfl (takes_of rfl rfl rfl rfl) (pmk_tooMany TM hr (by rfl) (pe_gint (by rfl) C.MOST_LEAPS)))) pss_nil)
      (pss_cons (ps_set (i := 3) scLeapsOf.nd rfl (by first | exact Or.inl rfl | exact Or.inr rfl) (pe_ix (uIx K rfl) (pe_def DUsable hr (by decide) (by rfl) pass0 (pa_cons (pv 0) (pa_cons (pv 1) pa_nil))) pe_int (fun _ _ => rfl)))
      (pss_cons (ps_set (i := 4) scLeapsOf.nd rfl (by first | exact Or.inl rfl | exact Or.inr rfl) (pe_def DTimesOf hr (by decide) (by rfl) pass0 (pa_cons (pv 0) (pa_cons (pv 1) (pa_cons (pv 3) pa_nil)))))
      (pss_cons (ps_set (i := 1) scLeapsOf.nd rfl (by first | exact Or.inl rfl | exact Or.inr rfl) (pe_def DBehind hr (by decide) (by rfl) pass0 (pa_cons (pv 0) (pa_cons (pv 1) (pa_cons (pv 3) (pa_cons (pv 4) pa_nil))))))
      (pss_cons (ps_expr (uBm K rfl PySem.F.plainAttrs_list PySem.F.slot_list_append PySem.F.type_list_append mt_append (pv 2) (pa_cons (pe_tup (pa_cons (pv 3) (pa_cons (pv 4) pa_nil))) pa_nil)))
      (pss_one (ps_if (pt_cmpR op_gtU (pe_callB (uMax K rfl rfl (hu_of hr)) (by rfl) T.max (by decide +kernel) (pa_cons (pv 1) pa_nil)) (pe_gint (by rfl) C.MOST_FOLK) (nomark _)) (pss_one ps_never) pss_nil))))))))
      (pss_one (ps_ret (pe_tup (pa_cons (pv 2) (pa_cons (pv 1) pa_nil))))))), ?_⟩
    intro ds o h
    obtain ⟨m, rs, c, rfl, rfl, hd, hc, hs⟩ := h
    have h6 := hd.ok.moods.l6
    have h5 := hd.five
    have big : (1 : Int) + 10 ^ 40 < 2 ^ 200 := by decide
    refine q_newL ea_nil (by decide) fun p hp => ?_
    refine q_while (fun k μ ρ => ∃ (found : List (Rl × Int)) (c' : List Int), μ = mset mu0 p (found.map eLeap) ∧ (∃ x3 x4 : Option D, ρ = [some (eFolk m rs), some (eCrowd c'), some (.ref p), x3, x4]) ∧ OkC m c' ∧ c'.sum = c.sum ∧ found.length + k = 5001 ∧ 1 ≤ k ∧ leapsGo m rs k found c' = leapsOf m rs c) 5001 ⟨[], c, rfl, ⟨none, none, rfl⟩, hc, rfl, rfl, by decide, rfl⟩ ?_
    rintro k μ ρ ⟨found, c', rfl, ⟨x3, x4, rfl⟩, hc', hs', hk, hk1, hgo⟩
    obtain ⟨k, rfl⟩ : ∃ j, k = j + 1 := ⟨k - 1, by omega⟩
    unfold leapsGo at hgo
    refine ⟨_, et_test (ev_op (ev_call0 (ea_cons (ev_var rfl) (ea_cons (ev_var rfl) ea_nil)) (spD ⟨m, rs, c', rfl, rfl, by omega, by omega⟩)) (ev_lst ea_nil (by decide)) (rd_neNil (usab_pl hd.ok c'))), fun hb => ?_, fun hb => ?_⟩
    · cases hu : usab m rs c' with
      | nil =>
        rw [hu] at hb
        cases hb
      | cons r tl =>
        rw [hu] at hgo
        have hgo : (if 5000 ≤ found.length then none else leapsGo m rs k (found ++ [(r, timesT m c' r)]) (beh m c' r (timesT m c' r))) = leapsOf m rs c := hgo
        obtain ⟨hr1, hr2⟩ := mem_usab hd hu
        refine q_if (b := decide (5000 ≤ ((found.map eLeap).length : Int))) (et_test (ev_op (ev_cb (ea_cons (ev_var rfl) ea_nil) (cd_lenM mset_same)) ev_int rd_geI)) (fun h => ?_) fun h => ?_
        · have h1 : 5000 ≤ found.length := by
            have := of_decide_eq_true h
            rw [List.length_map] at this
            omega
          rw [if_pos h1] at hgo
          exact sv_raiseT ev_int (show leapsOut CT (leapsOf m rs c) = .exc ⟨CT, some ("most", 5000)⟩ by rw [← hgo]; rfl)
        · have h1 : ¬ 5000 ≤ found.length := by
            have := of_decide_eq_false h
            rw [List.length_map] at this
            omega
          rw [if_neg h1] at hgo
          obtain ⟨t1, t2, t3, t4⟩ := leap_ok hd hc' hr1 hr2
          obtain ⟨b1, b2⟩ := beh_ok hd hc' hr1 hr2
          have call : EvA (mset mu0 p (found.map eLeap)) _ _ _ := ea_cons (ev_var (ρ := [some (eFolk m rs), some (eCrowd c'), some (.ref p), x3, x4]) (i := 0) rfl) (ea_cons (ev_var (i := 1) rfl) ea_nil)
          refine q_next (q_asg (d := eRule r) (ev_op (ev_call0 (ea_cons (ev_var rfl) (ea_cons (ev_var rfl) ea_nil)) (spD ⟨m, rs, c', rfl, rfl, by omega, by omega⟩)) ev_int (rd_ixL (by rw [hu, List.map_cons]; exact atI_getD (j := 0) (by simp) .non))) asg_name ?_)
          refine q_asg (ev_call0 (ea_cons (ev_var rfl) (ea_cons (ev_var rfl) (ea_cons (ev_var rfl) ea_nil))) (spD ⟨m, rs, c', r, mnL (quots m c' r), rfl, rfl, hd.ok, hr1, mnL_min (quots_ne hd hc'.len hr1)⟩)) asg_name ?_
          refine q_asg (ev_call0 (ea_cons (ev_var rfl) (ea_cons (ev_var rfl) (ea_cons (ev_var rfl) (ea_cons (ev_var rfl) ea_nil)))) (spD ⟨m, rs, c', r, timesT m c' r, rfl, rfl, hd.ok, hr1, by omega⟩)) asg_name ?_
          refine q_app (d := eLeap (r, timesT m c' r)) (ev_var rfl) mset_same (ev_tup (ea_cons (ev_var rfl) (ea_cons (ev_var rfl) ea_nil)) (by show 2 ≤ _; decide)) (by rw [List.length_map]; omega) ?_
          rw [mset_mset]
          have hne : beh m c' r (timesT m c' r) ≠ [] := fun e => by
            have := b1.len
            rw [e] at this
            have h0 := hd.ok.moods.l1
            simp at this
            omega
          obtain ⟨mx, hmx⟩ := exists_max hne
          refine sv_if (b := false) (EvT.is (et_test (ev_op (ev_cb (ea_cons (ev_var rfl) ea_nil) (cd_maxT hmx)) ev_int rd_gtI)) ?_) (fun h => by cases h) fun _ => sv_next ⟨k, by omega, found ++ [(r, timesT m c' r)], beh m c' r (timesT m c' r), by rw [List.map_append]; rfl, ⟨_, _, rfl⟩, b1, by rw [b2, hs'], by rw [List.length_append]; show _ + 1 + k = _; omega, by omega, hgo⟩
          have := sum_nn b1.nn mx hmx.1
          exact decide_eq_false (by omega)
    · cases hu : usab m rs c' with
      | cons r tl =>
        rw [hu] at hb
        cases hb
      | nil =>
        rw [hu] at hgo
        refine sv_freeze (i := 2) rfl mset_same ?_
        refine sv_ret (d := .tup [.lst (found.map eLeap), eCrowd c']) (ev_tup (ea_cons (ev_var rfl) (ea_cons (ev_var rfl) ea_nil)) (by show 2 ≤ _; decide)) ?_
        show leapsOut CT (leapsOf m rs c) = _
        rw [← hgo]
        rfl
end
end Mf
set_option maxRecDepth 100000
set_option maxHeartbeats 4000000
/-! Meetfolk: come_to. -/
namespace Mf
open PySem L2 PyProof.Rows
variable [Tt] [Xw]
local macro_rules
  | `(tactic| walk_at "rd") => `(tactic| first
    | exact rd_addI | refine rd_addL ?_ | refine rd_addS ?_ | exact rd_sub | refine rd_mulI ?_ | refine rd_mulL ?_ ?_ ?_ | refine rd_mulS ?_ ?_ ?_ | refine rd_div ?_ | refine rd_mod ?_ | refine rd_pow ?_ | exact ud_neg
    | exact rd_ltI | exact rd_leI | exact rd_gtI | exact rd_geI | exact rd_ltS | exact rd_leS | exact rd_eqI | exact rd_neI
    | exact rd_ixT rfl | exact rd_ixL rfl | exact cd_lenL | exact cd_lenT | exact cd_int | exact cd_abs | exact cd_tupL | exact cd_listL | exact cd_listT | exact cd_all | exact cd_any | exact cd_sumT | exact bd_count)
local macro_rules
  | `(tactic| walk_at "ev1") => `(tactic| first
    | exact ev_int | exact ev_str | exact ev_bl | exact ev_non | exact ea_nil | refine ea_cons ?_ ?_ | exact ev_var rfl | exact ev_ty
    | refine ev_op ?_ ?_ ?_ | refine ev_un ?_ ?_ | refine ev_cb ?_ ?_ | refine ev_tup ?_ (by decide) | refine ev_bm ?_ ?_ ?_
    | exact et_yes | refine et_test ?_ | refine et_B ?_ | refine et_or ?_ (fun _ => ?_) | refine et_and ?_ (fun _ => ?_) | refine ev_andV ?_ (fun _ => ?_) | refine ev_orV ?_ (fun _ => ?_) | refine ev_notV ?_ | refine ev_chain ?_ ?_ ?_ (fun _ => ?_) (fun _ => ?_) | refine et_not ?_ | exact eo_none | refine eo_some ?_ | walk_at "rd")
local macro_rules
  | `(tactic| walk_at "ev") => `(tactic| repeat' walk_at "ev1")

abbrev sComeTo : Stmt := topS 47
theorem scComeTo : FnScope ["folk", "crowd", "found", "here", "one", "rule", "other"] ["folk", "crowd"] (defScope sComeTo) := ⟨rfl, rfl, rfl, by decide +kernel, rfl, by decide +kernel, by decide +kernel⟩
/-- the dict at p, the list at p2 -/
def mu2 (p p2 : Addr) (found here : List (List Int)) : Mu := mset (mput mu0 p (.d found)) p2 (here.map eCrowd)
theorem mu2_l {p p2 : Addr} {f h : List (List Int)} : mu2 p p2 f h p2 = some (.l (h.map eCrowd)) := mset_same
theorem mu2_d {p p2 : Addr} (hne : p2 ≠ p) {f h : List (List Int)} : mu2 p p2 f h p = some (.d f) := by
  unfold mu2
  rw [mset_ne hne.symm, mput_same]
theorem mu2_setL {p p2 : Addr} {f h h' : List (List Int)} : mset (mu2 p p2 f h) p2 (h'.map eCrowd) = mu2 p p2 f h' := mset_mset
theorem mu2_put {p p2 : Addr} (hne : p2 ≠ p) {f f' h : List (List Int)} : mput (mu2 p p2 f h) p (.d f') = mu2 p p2 f' h := by
  funext b
  unfold mu2
  by_cases q : b = p
  · rw [q, mput_same, mset_ne hne.symm, mput_same]
  · by_cases q2 : b = p2
    · rw [q2, mput_ne hne, mset_same, mset_same]
    · rw [mput_ne q, mset_ne q2, mset_ne q2, mput_ne q, mput_ne q]
section
variable {P : Program} {w : World} {K : PySem.W.Frag} {mg : Str → Option Value} {base : Heap}
def fCome (ds : List D) (d : D) : Prop := ∃ (m : Str) (rs : List Rl) (c : List Int), ds = [eFolk m rs, eCrowd c] ∧ d = .lst ((comeT m rs c).map eCrowd) ∧ OkD m rs ∧ OkC m c ∧ (c.sum = 2 ∨ c.sum = 3)
theorem crowds_pl (l : List (List Int)) : pls 8 (l.map eCrowd) = true := pls_map fun c _ => by
  show (decide (1 ≤ 8) && pls 7 (c.map D.int)) = true
  rw [pls_ints]
  rfl
theorem dComeTo (F : FunAt K mg "come_to" sComeTo ["folk", "crowd"]) (T : Bts mg) (DUsable : Def P w K mg base CX0 "usable" 3 ["folk", "crowd"] [] (spF fUsable)) (DBehind1 : Def P w K mg base CX0 "behind" 3 ["folk", "crowd", "rule", "times"] [.int 1] (spF fBehind)) :
    Def P w K mg base CX0 "come_to" 4 ["folk", "crowd"] [] (spF fCome) := by
  refine F.def_ scComeTo (fun ds d h => ?_) (fun cdv A outer s H E f hr => ?_)
  · obtain ⟨m, rs, c, rfl, _⟩ := h
    rfl
  · refine ⟨_, (pss_cons (ps_par (i := 2) (j := 3) rfl scComeTo.nd rfl rfl (by decide) (by rfl) (by rfl) (pa_cons (pe_disp1 (Nat.lt_of_succ_lt (hu_of hr)) (pv 1) pe_bl) (pa_cons (pe_lst (pa_cons (pv 1) pa_nil)) pa_nil)) (by rfl) (by rfl))
      (pss_cons (ps_while PassesOwn.never (pt_cmpR (uNe K rfl (hu64 hr)) (pv 3) (pe_lst pa_nil) (nomark _)) (pss_cons (ps_set (i := 4) scComeTo.nd rfl (by first | exact Or.inl rfl | exact Or.inr rfl) (uBm0 K rfl PySem.F.plainAttrs_list PySem.F.slot_list_pop PySem.F.type_list_pop mt_pop (pv 3)))
      (pss_one (ps_for PassesOwn.never rfl (uSeq K rfl (pe_def DUsable hr (by decide) (by rfl) pass0 (pa_cons (pv 0) (pa_cons (pv 4) pa_nil)))) (pg_name (i := 5) scComeTo.nd rfl (by first | exact Or.inl rfl | exact Or.inr rfl)) (pss_cons (ps_set (i := 6) scComeTo.nd rfl (by first | exact Or.inl rfl | exact Or.inr rfl) (pe_def DBehind1 hr (by decide) (by rfl) pass0 (pa_cons (pv 0) (pa_cons (pv 4) (pa_cons (pv 5) pa_nil)))))
      (pss_one (ps_if (pt_cmp (pc_dnotin (hu_of hr) (pv 6) (pv 2))) (pss_cons (ps_dput (hu_of hr) (pv 2) (pv 6) pe_bl rfl)
      (pss_one (ps_expr (uBm K rfl PySem.F.plainAttrs_list PySem.F.slot_list_append PySem.F.type_list_append mt_append (pv 3) (pa_cons (pv 6) pa_nil))))) pss_nil)))))))
      (pss_one (ps_ret (pe_callTy (call_listD rfl) (by rfl) T.list (by decide +kernel) (pa_cons (pv 2) pa_nil)))))), fun ds d h => ?_⟩
    obtain ⟨m, rs, c, rfl, rfl, hd, hc, hs⟩ := h
    have h6 := hd.ok.moods.l6
    have h5 := hd.five
    refine q_dnew2 (c := c) (ds := [eCrowd c]) (ev_var rfl) ev_bl (fun μ => ea_cons (ev_var rfl) ea_nil) (by show 1 ≤ _; decide) fun p p2 hp hne hp2 => ?_
    have ci0 := CI.start hd hc
    refine q_while (fun k μ ρ => ∃ (s : List (List Int) × List (List Int)), μ = mu2 p p2 s.1 s.2 ∧ (∃ x4 x5 x6 : Option D, ρ = [some (eFolk m rs), some (eCrowd c), some (.ref p), some (.ref p2), x4, x5, x6]) ∧ CI m rs c s ∧ 2 * (216 - s.1.length) + s.2.length ≤ k ∧ comeGo m rs k s.1 s.2 = comeT m rs c ∧ k ≤ 1000) 1000 ⟨([c], [c]), rfl, ⟨none, none, none, rfl⟩, ci0, by show 2 * (216 - 1) + 1 ≤ 1000; decide, rfl, Nat.le_refl _⟩ ?_
    rintro k μ ρ ⟨s, rfl, ⟨x4, x5, x6, rfl⟩, ci, hk, hgo, hk1⟩
    refine ⟨_, et_test (ev_op (ev_var rfl) (ev_lst ea_nil (by decide)) (rd_neNilM mu2_l (crowds_pl s.2))), fun hb => ?_, fun hb => ?_⟩
    · have hne2 : s.2 ≠ [] := fun e => by
        rw [e] at hb
        cases hb
      have hpos := List.length_pos_iff.mpr hne2
      obtain ⟨k, rfl⟩ : ∃ j, k = j + 1 := ⟨k - 1, by omega⟩
      let one : List Int := s.2.getLast hne2
      have hg : s.2.getLast? = some one := List.getLast?_eq_some_getLast hne2
      have hs2 : s.2 = s.2.dropLast ++ [one] := (List.dropLast_concat_getLast hne2).symm
      have cj0 := ci.pop hd hg
      unfold comeGo at hgo
      rw [hg] at hgo
      have hgo : comeGo m rs k ((usab m rs one).foldl (meetR m one) (s.1, s.2.dropLast)).1 ((usab m rs one).foldl (meetR m one) (s.1, s.2.dropLast)).2 = comeT m rs c := hgo
      have cjf := cj0.fold hd (usab m rs one) [] _ (fun r hr => hr)
      have cif := CJ.done_ hd cjf
      obtain ⟨la, lb⟩ := meets_len hd (one := one) (usab m rs one) (s.1, s.2.dropLast)
      have la : ((usab m rs one).foldl (meetR m one) (s.1, s.2.dropLast)).1.length + s.2.dropLast.length = s.1.length + ((usab m rs one).foldl (meetR m one) (s.1, s.2.dropLast)).2.length := la
      have lb : s.1.length ≤ ((usab m rs one).foldl (meetR m one) (s.1, s.2.dropLast)).1.length := lb
      have hfl := found_le hd cif.nd (fun x hx => ⟨(cif.ok x hx).1, (cif.ok x hx).2.1⟩) hs
      have hdl : s.2.dropLast.length = s.2.length - 1 := List.length_dropLast
      refine q_pop (l := s.2.dropLast.map eCrowd) (d := eCrowd one) (ev_var rfl) (by rw [mu2_l, hs2, List.map_append, List.dropLast_concat]; rfl) ?_
      rw [mu2_setL]
      have each : ∀ j, j ≤ (usab m rs one).length → CJ m rs c one ((usab m rs one).take j) (((usab m rs one).take j).foldl (meetR m one) (s.1, s.2.dropLast)) := fun j _ => by
        have := cj0.fold hd ((usab m rs one).take j) [] _ (fun r hr => List.mem_of_mem_take hr)
        exact this
      refine sv_for (ei_seqL (ds := (usab m rs one).map eRule) (ev_call0 (ea_cons (ev_var rfl) (ea_cons (ev_var rfl) ea_nil)) (spD ⟨m, rs, one, rfl, rfl, by omega, by omega⟩))) (fun j μ ρ => μ = mu2 p p2 (((usab m rs one).take j).foldl (meetR m one) (s.1, s.2.dropLast)).1 (((usab m rs one).take j).foldl (meetR m one) (s.1, s.2.dropLast)).2 ∧ ∃ x5 x6 : Option D, ρ = [some (eFolk m rs), some (eCrowd c), some (.ref p), some (.ref p2), some (eCrowd one), x5, x6]) ⟨by rw [List.take_zero]; rfl, x5, x6, rfl⟩ ?_ ?_
      · rintro j d μ ρ hdj ⟨rfl, x5, x6, rfl⟩
        rw [List.getElem?_map] at hdj
        obtain ⟨r, hrj, rfl⟩ := Option.map_eq_some_iff.mp hdj
        obtain ⟨hj, hje⟩ := List.getElem?_eq_some_iff.mp hrj
        have cj := each j (Nat.le_of_lt hj)
        have hru : r ∈ usab m rs one := hje ▸ List.getElem_mem hj
        have hrr := (List.mem_filter.mp hru).1
        have hstep : ((usab m rs one).take (j + 1)).foldl (meetR m one) (s.1, s.2.dropLast) = meetR m one (((usab m rs one).take j).foldl (meetR m one) (s.1, s.2.dropLast)) r := by
          rw [foldl_take _ _ hj, hje]
        have hlen := found_le hd cj.nd (fun x hx => ⟨(cj.ok x hx).1, (cj.ok x hx).2.1⟩) hs
        obtain ⟨ma, mb⟩ := meets_len hd (one := one) ((usab m rs one).take j) (s.1, s.2.dropLast)
        have ma : (((usab m rs one).take j).foldl (meetR m one) (s.1, s.2.dropLast)).1.length + s.2.dropLast.length = s.1.length + (((usab m rs one).take j).foldl (meetR m one) (s.1, s.2.dropLast)).2.length := ma
        rw [hstep]
        generalize ((usab m rs one).take j).foldl (meetR m one) (s.1, s.2.dropLast) = t at cj hlen ma ⊢
        refine ⟨_, _, asg_name, ?_⟩
        refine q_asg (d := eCrowd (beh m one r 1)) (ev_call (dds := [.int 1]) (ea_cons (ev_var rfl) (ea_cons (ev_var rfl) (ea_cons (ev_var rfl) ea_nil))) (.cons (.int 1) .nil) (spD ⟨m, rs, one, r, 1, rfl, rfl, hd.ok, hrr, by decide⟩)) asg_name ?_
        refine sv_if (et_B (ev_notinD (ev_var rfl) (ev_var rfl) (mu2_d hne))) (fun hb => ?_) fun hb => ?_
        · have hn : beh m one r 1 ∉ t.1 := by simpa using hb
          refine q_dput ev_bl (ev_var rfl) (ev_var rfl) (mu2_d hne) hn (by omega) ?_
          rw [mu2_put hne]
          refine sv_app (d := eCrowd (beh m one r 1)) (ev_var rfl) mu2_l (ev_var rfl) (by rw [List.length_map]; omega) ⟨?_, _, _, rfl⟩
          have e1 : t.2.map eCrowd ++ [eCrowd (beh m one r 1)] = (t.2 ++ [beh m one r 1]).map eCrowd := by rw [List.map_append]; rfl
          rw [e1, mu2_setL]
          unfold meetR
          rw [if_neg hn]
        · have hn : beh m one r 1 ∈ t.1 := by simpa using hb
          refine sv_next ⟨?_, _, _, rfl⟩
          unfold meetR
          rw [if_pos hn]
      · rintro μ ρ ⟨rfl, x5, x6, rfl⟩
        rw [List.length_map, List.take_length]
        exact ⟨k, by omega, _, rfl, ⟨_, _, _, rfl⟩, cif, by omega, hgo, by omega⟩
    · have hnil : s.2 = [] := by
        cases e : s.2 with
        | nil => rfl
        | cons x l =>
          rw [e] at hb
          cases hb
      have hres : comeT m rs c = s.1 := by
        rw [← hgo]
        cases k with
        | zero => rfl
        | succ k =>
          unfold comeGo
          rw [hnil]
          rfl
      rw [hres]
      exact sv_ret (ev_cb (ea_cons (ev_var rfl) ea_nil) (cd_listD (mu2_d hne))) rfl
end
end Mf
set_option maxRecDepth 100000
set_option maxHeartbeats 2000000
/-! sorted(xs, key=f), f a lambda of one parameter. -/
namespace Mf
open PySem PySem.Spec PyProof.Rows L2
variable [Tt] [Xw]

abbrev keyD (k : Int × Str) : PyData := .tuple [.int k.1, .str k.2]
theorem keyD_alike (ks : List (Int × Str)) : PySem.W.AllAlike (ks.map keyD) := fun d hd d' hd' => by
  obtain ⟨a, _, rfl⟩ := List.mem_map.mp hd
  obtain ⟨b, _, rfl⟩ := List.mem_map.mp hd'
  rfl
theorem keyD_sort (ks : List (Int × Str)) : PySem.W.Sortable (ks.map keyD) := .inl fun d hd => by
  obtain ⟨a, _, rfl⟩ := List.mem_map.mp hd
  exact ⟨_, _, rfl⟩
theorem keyD_depth (k : Int × Str) : (keyD k).depth ≤ 5 := by
  show PyData.depth (.tuple [.int k.1, .str k.2]) ≤ 5
  simp [PyData.depth, PyData.depthAll]
theorem key_reads {P : Program} {w : World} {H : Hp} {h : Heap} {p : Addr} {k : Int × Str} (hok : HOk P w H h) (q : H p = some (.tup [.int k.1, .str k.2])) : ∃ as, Reads h (.ref p) (keyD k) as := by
  obtain ⟨_, its, r, o, ho, hc, n, hd⟩ := hok p _ q
  cases r with
  | cons r1 r =>
    cases r with
    | cons r2 r =>
      cases r
      obtain ⟨t1, rfl⟩ := r1
      obtain ⟨t2, rfl⟩ := r2
      have hr : ReadsAll h (List.toArray [Value.int k.1 t1, Value.str k.2 t2]).toList [PyData.int k.1, PyData.str k.2] ([] ++ ([] ++ [])) := by
        rw [List.toList_toArray]
        exact .cons (.int _ _) (.cons (.str _ _) .nil)
      exact ⟨_, .tuple ho hc hd hr⟩
theorem each_keysR {P : Program} {w : World} {H : Hp} {h : Heap} (hok : HOk P w H h) : ∀ {ps : List Addr} {ks : List (Int × Str)}, ps.length = ks.length → (∀ (i : Nat) (p : Addr) (k : Int × Str), ps[i]? = some p → ks[i]? = some k → H p = some (.tup [.int k.1, .str k.2])) →
    PySem.W.EachIs (fun v d => ∃ as, Reads h v d as) (ps.map Value.ref) (ks.map keyD)
  | [], [], _, _ => .nil
  | [], _ :: _, e, _ => by cases e
  | _ :: _, [], e, _ => by cases e
  | p :: ps, k :: ks, e, q => .cons (key_reads hok (q 0 p k rfl rfl)) (each_keysR hok (by simpa using e) fun i a b h1 h2 => q (i + 1) a b (by simpa using h1) (by simpa using h2))

theorem sort_rest {X : Cx} {pins : List (Addr × Obj)} {σ : L2.St} {A : Around} {s : Shared} {H : Hp} {kS a : Addr} {e1 : Nat} {f : Value} {vs : List Value} {ks : List (Int × Str)} {Wi : List Addr → Hp → Prop} {P : PySem.Fin → Shared → Prop} {E : Value → Shared → Prop}
    (I : Inv X pins σ H s) (w0 : Wi [] H) (fk : FpOk X pins H kS) (fa : FpOk X pins H a) (nk : s.heap.get? kS = some (seqObj "list" #[] 0)) (na : s.heap.get? a = some (seqObj "list" #[] e1)) (hka : kS ≠ a)
    (hlen : ks.length = vs.length) (hZ : vs.length ≤ sizeLine) (hu : A.units + 8 < cLine)
    (keys : ∀ ps H', Wi ps H' → ∀ (i : Nat) (p : Addr) (k : Int × Str), ps[i]? = some p → ks[i]? = some k → H' p = some (.tup [.int k.1, .str k.2]))
    (turn : ∀ (ps : List Addr) (v : Value) (k : Int × Str), vs[ps.length]? = some v → ks[ps.length]? = some k → ∀ (pl : List (Addr × Obj)) (s' : Shared) (H' : Hp), Inv X (pins ++ pl) σ H' s' → Wi ps H' →
      wpAny (model X.prog X.w) A (call f [v]) (EP X (pins ++ pl) σ (fun r H2 => ∃ p, r = .ref p ∧ Wi (ps ++ [p]) H2)) (fun _ _ => False) s')
    (h : ∀ s' H' out c ps, Inv X pins σ H' s' → Wi ps H' → FpOk X pins H' a → s'.heap.get? a = some (seqObj "list" (List.toArray out) c) → out.length = vs.length → (∀ u ∈ out, u ∈ vs) → P (.done (.ret .none)) s') :
    wpAny (model X.prog X.w) A (ksk_rest a f false vs.toArray e1 (.ref kS)) P E s := by
  unfold ksk_rest
  refine wpAny_bind (wpAny_rule ?_)
  first
    | rw [List.forIn_toArray]
    | (rw [← Array.forIn_toList]; simp only [List.toList_toArray])
    | rw [← Array.forIn_toList]
  refine wpAny_bind (ksk_fold (fun i s' => ∃ H' ps e, Inv X pins σ H' s' ∧ Wi ps H' ∧ ps.length = i ∧ H' kS = none ∧ H' a = none ∧ s'.heap.get? kS = some (seqObj "list" (ps.map Value.ref).toArray e) ∧ s'.heap.get? a = some (seqObj "list" #[] e1)) vs 0 s
    ⟨H, [], 0, I, w0, rfl, fk.1, fa.1, nk, na⟩ ?step ?done)
  case step =>
    rintro j x s' hx ⟨H', ps, e, I', w', hp, hk', ha', nk', na'⟩
    simp only [Nat.zero_add] at hp ⊢
    have hj : j < vs.length := (List.getElem?_eq_some_iff.mp hx).1
    obtain ⟨k, hkj⟩ : ∃ k, ks[j]? = some k := ⟨_, List.getElem?_eq_getElem (by omega)⟩
    have fk' : FpOk X pins H' kS := ⟨hk', fk.2⟩
    have fa' : FpOk X pins H' a := ⟨ha', fa.2⟩
    have Ip := I'.pinned (fp := [kS, a]) (fun b hb => by
      rcases List.mem_cons.mp hb with rfl | hb
      · exact fk'
      · rcases List.mem_cons.mp hb with rfl | hb
        · exact fa'
        · cases hb) (fun b hb => by
      rcases List.mem_cons.mp hb with rfl | hb
      · exact ⟨_, nk', fun v z => by cases z⟩
      · rcases List.mem_cons.mp hb with rfl | hb
        · exact ⟨_, na', fun v z => by cases z⟩
        · cases hb)
    have hz : ps.length ≤ vs.length := by omega
    refine wpAny_bind (wpAny_attempt (wpAny_mono (turn ps x k (by rw [hp]; exact hx) (by rw [hp]; exact hkj) _ s' H' Ip w') (fun u s2 he => ?_) fun _ _ hF => hF.elim))
    obtain ⟨r, H2, I2, rr, p, rfl, w2⟩ := he
    obtain rfl : u = Value.ref p := rr
    have pk := I2.pin (kS, _) (List.mem_append_right _ (List.mem_append_right _ (mem_pinsAt (List.mem_cons_self) nk')))
    have pa := I2.pin (a, _) (List.mem_append_right _ (List.mem_append_right _ (mem_pinsAt (List.mem_cons_of_mem _ List.mem_cons_self) na')))
    have nk2 : s2.heap.get? kS = some (seqObj "list" (ps.map Value.ref).toArray e) := pk.1
    have na2 : s2.heap.get? a = some (seqObj "list" #[] e1) := pa.1
    have s1 := Heap.SameBut.update s2.heap kS (Obj.mapSeq (·.push (Value.ref p)))
    obtain ⟨c2, hc2⟩ : ∃ c2, (s2.heap.update kS (Obj.mapSeq (·.push (Value.ref p)))).get? kS = some (seqObj "list" ((ps.map Value.ref).toArray.push (Value.ref p)) c2) := ⟨_, get?_update_seq nk2 (·.push (Value.ref p))⟩
    try dsimp only
    have hzz : (ps.map Value.ref).toArray.size ≤ vs.length := by simpa using hz
    refine wpAny_bind (listUpdate_at nk2 rfl ?_ (Nat.le_trans hzz hZ) (Nat.le_trans (Nat.le_of_eq (Array.size_push ..)) (Nat.succ_le_succ (Nat.le_trans hzz hZ))))
    obtain ⟨_, f1, f2, f3, f4, f5⟩ := fk
    have I3 := (I2.unpinned).turned (t' := s2.toks) (it := kS) (h' := s2.heap.update kS (Obj.mapSeq (·.push (Value.ref p)))) (fun b o hb q => (s1.2 b hb).trans q) pk.2.1 f1 f3 f4 f5
    refine wpAny_pure ⟨rfl, H2, ps ++ [p], c2, I3, w2, by simp [hp], pk.2.1, pa.2.1, ?_, (s1.2 a hka.symm).trans na2⟩
    rw [hc2]
    simp
  case done =>
    rintro s' ⟨H', ps, e, I', w', hp, hk', ha', nk', na'⟩
    simp only [Nat.zero_add] at hp
    have hk : PySem.W.EachIs (fun v d => ∃ as, Reads s'.heap v d as) (ps.map Value.ref).toArray.toList (ks.map keyD) := by
      rw [List.toList_toArray]
      exact each_keysR I'.hok (by omega) (keys ps H' w')
    have hsz : (ps.map Value.ref).toArray.size = vs.length := by simp [hp]
    refine wpAny_bind (listItems_at nk' rfl ?_)
    have kp : PySem.W.KeepsBut a (PySem.W.hideAll s'.heap [kS]) s'.heap := fun b o hb q => PySem.W.of_hideAll _ q
    refine PySem.W.keyH_end (κ := PySem.W.dataKind s'.heap (ks.map keyD)) (h₁ := PySem.W.hideAll s'.heap [kS]) kp (PySem.W.hideAll_none _ (List.mem_cons_self)) nk' na' hka
      (PySem.W.SortsAt.data hk (keyD_alike ks) (keyD_sort ks) fun d hd => by
        obtain ⟨k, _, rfl⟩ := List.mem_map.mp hd
        have := keyD_depth k
        omega) hsz hZ fun h3 tk3 c k3 n3 => ?_
    have ko : PySem.W.KeyedOut false (ks.map keyD) vs (PySem.W.sortVals (PySem.W.dataKind s'.heap (ks.map keyD)) false (ps.map Value.ref).toArray.toList vs) := ⟨s'.heap, _, keyD_alike ks, rfl, hk⟩
    have I4 := I'.turnedL (t' := tk3) (h' := h3) (ch := [kS, a]) (fun b o hb q => k3 b o (fun z => hb (by simp [z])) (PySem.W.hideAll_get _ q (fun z => hb (by simp at z; simp [z])))) (fun b hb => by
      rcases List.mem_cons.mp hb with rfl | hb
      · exact ⟨hk', fk.2⟩
      · rcases List.mem_cons.mp hb with rfl | hb
        · exact ⟨ha', fa.2⟩
        · cases hb)
    exact h _ H' _ c ps I4 w' ⟨ha', fa.2⟩ n3 (ko.length (by rw [List.length_map]; exact hlen)) fun u hu => ko.mem hu

theorem vals_back {xs : List V} {us : List Value} (r : Vals xs us) : ∀ {out : List Value}, (∀ u ∈ out, u ∈ us) → ∃ ys : List V, Vals ys out ∧ ∀ y ∈ ys, y ∈ xs
  | [], _ => ⟨[], .nil, fun y h => by cases h⟩
  | u :: out, h => by
    obtain ⟨ys, r1, h1⟩ := vals_back r (out := out) fun u hu => h u (List.mem_cons_of_mem _ hu)
    obtain ⟨i, hi⟩ := List.getElem?_of_mem (h u List.mem_cons_self)
    have hl := r.length
    have hi2 : i < us.length := (List.getElem?_eq_some_iff.mp hi).1
    have hx : xs[i]? = some xs[i] := List.getElem?_eq_getElem (by omega)
    obtain ⟨u2, e2, r2⟩ := r.get hx
    rw [hi] at e2
    cases e2
    refine ⟨xs[i] :: ys, .cons r2 r1, fun y hy => ?_⟩
    rcases List.mem_cons.mp hy with rfl | hy
    · exact List.mem_of_getElem? hx
    · exact h1 y hy

theorem sort_call {X : Cx} {pins : List (Addr × Obj)} {σ : L2.St} {s : Shared} {H : Hp} {l q : Addr} {xs : List V} {ks : List (Int × Str)} {Wi : List Addr → Hp → Prop} {Q : VK} {E : Value → Shared → Prop}
    (I : Inv X pins σ H s) (hl : SqL X.K H l xs) (w0 : Wi [] H) (hlen : ks.length = xs.length) (hu : X.A.units + 64 < cLine)
    (keys : ∀ ps H', Wi ps H' → ∀ (i : Nat) (p : Addr) (k : Int × Str), ps[i]? = some p → ks[i]? = some k → H' p = some (.tup [.int k.1, .str k.2]))
    (turn : ∀ (ps : List Addr) (x : V) (v : Value) (k : Int × Str), xs[ps.length]? = some x → RelV x v → ks[ps.length]? = some k → ∀ (pl : List (Addr × Obj)) (s' : Shared) (H' : Hp), Inv X (pins ++ pl) σ H' s' → Wi ps H' →
      wpAny (model X.prog X.w) X.A.in1.in1 (call (.ref q) [v]) (EP X (pins ++ pl) σ (fun r H2 => ∃ p, r = .ref p ∧ Wi (ps ++ [p]) H2)) (fun _ _ => False) s')
    (h : ∀ p H' ps ys, Wi ps H' → H' p = none → ys.length = xs.length → (∀ y ∈ ys, y ∈ xs) → Q (.ref p) (upd H' p (.lst ys))) :
    wpAny (model X.prog X.w) X.A (call (.builtin "sorted") [.ref l] [(Str.ofString "key", .ref q)]) (EP X pins σ Q) E s := by
  obtain ⟨its, rv, hl', hz⟩ := I.list hl
  have hz2 : its.length ≤ sizeLine := by rw [← rv.length]; exact hz
  refine PySem.W.sorted_of_sort hl'.isList hz2 (ksk_s1 _ _) (fun x => ksk_l1 _ _) fun E' => ?_
  rw [ksk_t1]
  have ho : (PySem.W.copyHeap s.heap its).get? (s.heap.objs.size + 1) = some (seqObj "list" its.toArray 0) := PySem.W.copyHeap_at s.heap its
  have ha : s.heap.objs.size + 1 < (PySem.W.copyHeap s.heap its).objs.size := Heap.lt_size ho
  obtain ⟨e1, ho1⟩ : ∃ e1, ((PySem.W.copyHeap s.heap its).update (s.heap.objs.size + 1) (Obj.mapSeq fun _ => (#[] : Array Value))).get? (s.heap.objs.size + 1) = some (seqObj "list" #[] e1) := ⟨_, get?_update_seq ho fun _ => #[]⟩
  have hkS : (((PySem.W.copyHeap s.heap its).update (s.heap.objs.size + 1) (Obj.mapSeq fun _ => (#[] : Array Value))).push (seqObj "tuple" its.toArray 0)).objs.size = (PySem.W.copyHeap s.heap its).objs.size + 1 := by rw [size_push', Heap.size_update]
  unfold ksk_tree
  refine wpAny_bind (listItems_at ho rfl ?_)
  refine wpAny_bind (listUpdate_at ho rfl ?_ (by rw [List.size_toArray]; exact hz2) (Nat.zero_le _))
  refine wpAny_bind (seqEpoch_at ho1 rfl ?_)
  refine wpAny_bind (wpAny_newTuple ?_ (by show its.length ≤ _; exact hz2))
  refine wpAny_bind (wpAny_newList ?_ (Nat.zero_le _))
  refine wpAny_holding ?_
  have sb := Heap.SameBut.update (PySem.W.copyHeap s.heap its) (s.heap.objs.size + 1) (Obj.mapSeq fun _ => (#[] : Array Value))
  have kp : ∀ b o, s.heap.get? b = some o → ((((PySem.W.copyHeap s.heap its).update (s.heap.objs.size + 1) (Obj.mapSeq fun _ => (#[] : Array Value))).push (seqObj "tuple" its.toArray 0)).push (seqObj "list" #[] 0)).get? b = some o := fun b o e =>
    Heap.get?_push_of_some _ (Heap.get?_push_of_some _ ((sb.2 b (Nat.ne_of_lt (Nat.lt_succ_of_lt (Heap.lt_size e)))).trans (PySem.W.copyHeap_old e)))
  have I1 := I.kept (t' := s.toks) kp
  have fk := I.fpOk (H' := H) (b := (((PySem.W.copyHeap s.heap its).update (s.heap.objs.size + 1) (Obj.mapSeq fun _ => (#[] : Array Value))).push (seqObj "tuple" its.toArray 0)).objs.size) (by rw [hkS]; omega) (I.hok.fresh (by rw [hkS]; omega))
  have fa := I.fpOk (H' := H) (b := s.heap.objs.size + 1) (by omega) (I.hok.fresh (by omega))
  refine sort_rest (Wi := Wi) (ks := ks) I1 w0 fk fa (Heap.get?_push_size _ rfl) (Heap.get?_push_of_some _ (Heap.get?_push_of_some _ ho1)) (by rw [hkS]; exact Nat.ne_of_gt (Nat.lt_succ_of_lt ha)) (by rw [hlen, rv.length]) hz2
    (by show X.A.units + 1 + 1 + 8 < cLine; omega) keys (fun ps v k hv hk pl s' H' I' w' => ?_) fun s' H' out c ps I' w' fa' hn hlo hm => ⟨rfl, ?_⟩
  · have hi : ps.length < its.length := (List.getElem?_eq_some_iff.mp hv).1
    have hi2 : ps.length < xs.length := by rw [rv.length]; exact hi
    have hx : xs[ps.length]? = some xs[ps.length] := List.getElem?_eq_getElem hi2
    obtain ⟨u2, e2, r2⟩ := rv.get hx
    rw [hv] at e2
    cases e2
    exact turn ps _ v k hx r2 hk pl s' H' I' w'
  · obtain ⟨ys, ry, hy⟩ := vals_back rv hm
    have hyl : ys.length = xs.length := by rw [ry.length, hlo, rv.length]
    have new : ObjOk X.prog X.w (upd H' (s.heap.objs.size + 1) (.lst ys)) s'.heap (s.heap.objs.size + 1) (.lst ys) := ⟨by rw [hyl]; exact hz, out, c, ry, hn⟩
    exact ⟨.ref _, _, I'.take (t' := s'.toks) (h' := s'.heap) (fun b ob _ e => e) fa' new, rfl, h _ H' ps ys w' fa'.1 hyl hy⟩

/-! ### a lambda of one parameter x, handed on -/
structure Lam1 (sc scope : Scope) (x : Str) : Prop where
  kind : scope.kind = .function
  co : scope.isCoroutine = false
  gen : scope.isGenerator = false
  cell : ∀ y ∈ scope.names, y.2 ≠ .cell
  loc : ∀ y, scope.names.lookup y = some .local → y = x
  par : scope.names.lookup x = some .local
  free : ∀ y ∈ scope.names, y.2 = .free → sc.names.lookup y.1 = some .cell ∨ sc.names.lookup y.1 = some .free
theorem Lam1.has {X : Cx} {scope : Scope} {x : Str} (L : Lam1 X.env.scope scope x) (ok : X.Ok) : ∀ y ∈ scope.names, y.2 = .free → ∃ c, X.env.cells.lookup y.1 = some c := fun y hy e => by
  rcases L.free y hy e with k | k
  · exact ok.has _ (.inl k)
  · exact ok.has _ (.inr k)
def lam1B (sc scope : Scope) (x : Str) : Bool :=
  decide (scope.kind = .function) && !scope.isCoroutine && !scope.isGenerator && decide (scope.names.lookup x = some .local) && scope.names.all fun y => !decide (y.2 = .cell) && (!decide (y.2 = .local) || decide (y.1 = x)) && (!decide (y.2 = .free) || decide (sc.names.lookup y.1 = some .cell) || decide (sc.names.lookup y.1 = some .free))
theorem lam1_by {sc scope : Scope} {x : Str} (h : lam1B sc scope x = true) : Lam1 sc scope x := by
  unfold lam1B at h
  simp only [Bool.and_eq_true, Bool.or_eq_true, Bool.not_eq_true', decide_eq_true_eq, decide_eq_false_iff_not, List.all_eq_true] at h
  obtain ⟨⟨⟨⟨h1, h2⟩, h3⟩, h4⟩, h5⟩ := h
  refine ⟨h1, h2, h3, fun y hy => (h5 y hy).1.1, fun y hy => ?_, h4, fun y hy e => ?_⟩
  · rcases (h5 _ (PySem.mem_of_lookup hy)).1.2 with z | z
    · exact absurd rfl z
    · exact z
  · rcases (h5 y hy).2 with (z | z) | z
    · exact absurd e z
    · exact .inl z
    · exact .inr z
open LamX in
theorem lam1_start {X : Cx} {pins : List (Addr × Obj)} {σ : L2.St} {H : Hp} {s : Shared} {A : Around} {E : XK} {scope : Scope} {f c' : Addr} {h₁ : Heap} {tk i : Nat} {x : Str} {v : V} {u : Value}
    (I : Inv X pins σ H s) (L : Lam1 X.env.scope scope x) (e0 : Env0 X.prog X.w X.K X.mg X.base A X.stack s H) (hd : A.handled = none) (hi : X.N[i]? = some x) (nd : X.N.Nodup) (ru : RelV v u)
    (hns : h₁.Ns s.heap.objs.size fun y => ([(x, u)] : List (Str × Value)).reverse.lookup y) (kp : ∀ b o, s.heap.get? b = some o → h₁.get? b = some o) :
    Inv (lamCx X A X.stack s H E scope f c') [] (σ.set i (some v)) H { s with heap := h₁, toks := tk } := by
  have hfree := L.has I.ok
  have cm : ∀ {y c}, (cloFrom X.env.cells scope.names []).lookup y = some c → X.env.cells.lookup y = some c := fun {y c} e => by
    rcases cloFrom_mem (PySem.mem_of_lookup e) with hm | ⟨h1, h2⟩
    · cases hm
    · obtain ⟨c1, hc⟩ := hfree _ h1 rfl
      have hc : X.env.cells.lookup y = some c1 := hc
      have e2 : c = c1 := by
        rw [h2, hc] <;> rfl
      rw [e2]
      exact hc
  have look : ∀ {y}, scope.names.lookup y = some .free → ∃ c, (cloFrom X.env.cells scope.names []).lookup y = some c := fun {y} hl => by
    have hy : (y, NameKind.free) ∈ scope.names := PySem.mem_of_lookup hl
    exact mem_lookup (cloFrom_has (cells := X.env.cells) (acc := []) hy)
  have cellK : ∀ {c : Addr} {v : Option Value}, H c = none → s.heap.IsCell c v → h₁.IsCell c v := fun {c v} n ⟨o, ho, hd⟩ => ⟨_, kp _ _ ho, hd⟩
  have noA : ∀ b : Addr, b ∉ (lamCx X A X.stack s H E scope f c').ex := fun b z => absurd (show b ∈ ([] : List Addr) from z) (by simp)
  have hil : i < σ.length := by
    rw [I.len]
    exact (List.getElem?_eq_some_iff.mp hi).1
  refine ⟨⟨e0.mod, L.kind, rfl, rfl, Nat.le_refl _, fun y z c e1 e2 => I.ok.inj y z c (cm e1) (cm e2), fun y hy => ?_, fun y c z _ => ?_, fun _ => hd, Around.frames_deeper e0.frames, .inr ⟨rfl, rfl⟩, fun b z => absurd z (noA b), e0.bs, e0.bsz, fun b _ _ => noA b,
      fun b z => absurd z (noA b), e0.funs, e0.frf⟩,
    rfl, e0.bare, Un.kept kp, ⟨_, hns, fun j y v' e1 e2 e3 => ?_⟩, fun y c e => ?_, e0.hok.fresh (Nat.le_refl _), fun y c e => ?_, fun q hq => absurd (show q ∈ ([] : List (Addr × Obj)) ++ [] from hq) (by simp), e0.hok.kept kp, by rw [List.length_set]; exact I.len⟩
  · have hy : scope.names.lookup y = some .cell ∨ scope.names.lookup y = some .free := hy
    rcases hy with hy | hy
    · exact absurd rfl (L.cell _ (PySem.mem_of_lookup hy))
    · exact look hy
  · have z : false = true := z
    cases z
  · have e3 : Vis scope y := e3
    have e1 : X.N[j]? = some y := e1
    rcases e3 with k | k | k
    · obtain rfl := L.loc y k
      obtain rfl := nodup_ix nd e1 hi
      rw [List.getElem?_set_self hil] at e2
      cases e2
      exact ⟨u, ru, .inl ⟨k, by simp⟩⟩
    · exact absurd rfl (L.cell _ (PySem.mem_of_lookup k))
    · have hyx : y ≠ x := fun z => by
        rw [z, L.par] at k
        cases k
      have hij : i ≠ j := fun z => by
        subst z
        rw [hi] at e1
        exact hyx (Option.some.inj e1).symm
      rw [List.getElem?_set_ne hij] at e2
      obtain ⟨m, hn, hl⟩ := I.loc
      have hvis : Vis X.env.scope y := (L.free _ (PySem.mem_of_lookup k) rfl).elim (fun k => .inr (.inl k)) (fun k => .inr (.inr k))
      obtain ⟨w', r, q⟩ := hl j y v' e1 e2 hvis
      obtain ⟨c2, h2⟩ := look k
      refine ⟨w', r, .inr ⟨.inr k, c2, h2, ?_⟩⟩
      have c1 := cm h2
      rcases q with ⟨k', _⟩ | ⟨_, c3, e', z⟩
      · have k' : X.env.scope.names.lookup y = some .local := k'
        rcases L.free _ (PySem.mem_of_lookup k) rfl with k2 | k2 <;> rw [show X.env.scope.names.lookup y = _ from k2] at k' <;> cases k'
      · rw [c1] at e'
        cases e'
        exact cellK (I.freeC y _ c1) z
  · obtain ⟨w', z⟩ := I.cell y c (cm e)
    exact ⟨w', cellK (I.freeC y c (cm e)) z⟩
  · obtain ⟨v, o, ho, hd⟩ := I.cell y c (cm e)
    exact I.freeC y c (cm e)
open LamX in
theorem lam1_call {X : Cx} {pins : List (Addr × Obj)} {σ : L2.St} {H : Hp} {s : Shared} {A : Around} {scope : Scope} {params : Arguments} {body : Expr} {f c' : Addr} {pm ctv : Value} {i k : Nat} {x : Str} {v : V} {u : Value} {tb : TE} {Q : VK}
    (I : Inv X pins σ H s) (L : Lam1 X.env.scope scope x) (e0 : Env0 X.prog X.w X.K X.mg X.base A X.stack s H) (hr : Room (k + 1) A) (hi : X.N[i]? = some x) (nd : X.N.Nodup) (ru : RelV v u)
    (hf : s.heap.get? f = some (PySem.W.kla_obj "<lambda>" (X.env.qual ++ "<lambda>") params body scope (cloFrom X.env.cells scope.names []) pm c' ctv)) (hc : H c' = some (CodeO c' (X.env.qual ++ "<lambda>")))
    (hbind : bindArgs (PySem.W.kla_fn "<lambda>" (X.env.qual ++ "<lambda>") params body scope (cloFrom X.env.cells scope.names []) pm (.ref c') ctv) ⟨[u], []⟩ = pure [(x, u)])
    (hbody : ∀ (E : XK), Room k (A.deeper (lamEnv X scope s.heap.objs.size f c')) → PE (lamCx X A X.stack s H E scope f c') body tb) (ht : tb (σ.set i (some v)) H Q) :
    wpAny (model X.prog X.w) A (call (.ref f) [u]) (EP X pins σ Q) (fun _ _ => False) s := by
  obtain ⟨⟨oc, vs, t, hoc, hdc, hvc⟩, _, _⟩ := I.hok c' _ hc
  have rc : codeAny (model X.prog X.w) A (.call (.ref f) ⟨[u], []⟩) (CR (L2.CX X.prog X.w) X.stack X.prog X.w H s Q (fun _ _ _ => False)) s := by
    refine PySem.W.kla_callFunE hr.depth hf rfl L.co L.gen rfl ⟨c', oc, vs, t, rfl, hoc, hdc, hvc⟩ ?_
    rw [hbind]
    refine wpAny_pure (wpAny_newFunctionEnv (fun y hy => L.cell y hy) (fun y hy => ?_) (fun h₁ hns hsb => ⟨I.nolimit.fresh _ hsb, ?_⟩) L.kind)
    · obtain rfl : y = (x, u) := by simpa using hy
      exact L.par
    show codeAny _ _ (.expr body (lamEnv X scope s.heap.objs.size f c')) _ _
    have kp : ∀ b o, s.heap.get? b = some o → h₁.get? b = some o := fun b o e => hsb.extBut b o (Nat.ne_of_lt (Heap.lt_size e)) (Heap.get?_push_of_some _ e)
    have J := lam1_start (E := fun _ _ _ => False) (f := f) (c' := c') (tk := s.toks + ([(x, u)] : List (Str × Value)).length) I L e0 hr.hd hi nd ru hns kp
    refine PySem.W.kla_codeExpr (wpAny_mono ((hbody _ (hr.deeper _)).run [] _ _ H Q J ht) (fun v s' hq => ?_) fun e s' hq => hq)
    obtain ⟨w', H', J', rv, q⟩ := hq
    exact ⟨w', H', J'.os, J'.bare, J'.base, J'.hok, rv, q⟩
  refine wpAny_call (codeAny_mono rc fun r s' hq => ?_)
  cases r with
  | error e =>
    obtain ⟨_, _, _, _, _, _, _, _, _, _, _, _, _, _, _, _, z⟩ := hq
  | ok fl =>
    cases fl with
    | ret u => exact I.after hq
    | next => exact False.elim hq
    | brk => exact False.elim hq
    | cont => exact False.elim hq

open LamX in
/-- sorted(e, key=lambda x: ..): t reads e, tb the lambda's body with x in the slot i -/
def tSrt (T : List (Addr × Str)) (K : PySem.W.Frag) (i : Nat) (q : Str) (t tb : TE) : TE := fun σ H Q => t σ H fun v H1 => ∃ l, v = .ref l ∧ Tabs T H1 ∧ ∀ c' H2, ExtN H1 H2 → Tabs T H2 → H2 c' = some (CodeO c' q) →
  ∃ (xs : List V) (ks : List (Int × Str)) (Wi : List Addr → Hp → Prop), SqL K H2 l xs ∧ Wi [] H2 ∧ ks.length = xs.length ∧
    (∀ ps H', Wi ps H' → ∀ (i : Nat) (p : Addr) (k : Int × Str), ps[i]? = some p → ks[i]? = some k → H' p = some (.tup [.int k.1, .str k.2])) ∧
    (∀ (ps : List Addr) (x : V) (k : Int × Str), xs[ps.length]? = some x → ks[ps.length]? = some k → ∀ H', Wi ps H' → H' c' = some (CodeO c' q) ∧ tb (σ.set i (some x)) H' (fun r H3 => ∃ p, r = .ref p ∧ Wi (ps ++ [p]) H3)) ∧
    (∀ p H' ps ys, Wi ps H' → H' p = none → ys.length = xs.length → (∀ y ∈ ys, y ∈ xs) → Q (.ref p) (upd H' p (.lst ys)))
open LamX in
theorem pe_srt {X : Cx} {T : List (Addr × Str)} {c P : Addr} {k i : Nat} {x q : Str} {params : Arguments} {body e : Expr} {scope : Scope} {t tb : TE} {np lpos kpos pos : Pos}
    (hg : Gl X "sorted") (hm : X.mg "sorted" = none) (he : PE X e t)
    (TB : TabB X.base X.mg c P) (hcode : X.env.code = .ref c) (hq : X.env.qual ++ "<lambda>" = q) (hmT : (P, q) ∈ T) (hu : ∀ p ∈ T, p.1 = P → p.2 = q) (hr : Room (k + 3) X.A) (L : Lam1 X.env.scope scope x) (hdef : defaultsOf params X.env = ([], []))
    (hi : X.N[i]? = some x) (nd : X.N.Nodup) (hst : X.stack = X.env :: X.outer) (hfr0 : X.env.frame = some X.env.locals)
    (hbind : ∀ (cl : List (Str × Addr)) (pm cv ctv u : Value), bindArgs (PySem.W.kla_fn "<lambda>" (X.env.qual ++ "<lambda>") params body scope cl pm cv ctv) ⟨[u], []⟩ = pure [(x, u)])
    (hbody : ∀ (s : Shared) (H : Hp) (E : XK) (f c' : Addr), Room k (X.A.in1.in1.deeper (lamEnv X scope s.heap.objs.size f c')) → PE (lamCx X X.A.in1.in1 X.stack s H E scope f c') body tb)
    (hsx : starEach [e] X.env = [(false, eval e X.env)] := by rfl) :
    PE X (.Call (.Name "sorted" np) [e] [⟨some "key", .Lambda params body scope lpos, kpos⟩] pos) (tSrt T X.K i q t tb) := by
  refine ⟨fun pins s σ H Q I h => ?_⟩
  refine wpAny_Call_Name_kw (ld_blt I hg hm (u := .builtin "sorted") (by decide +kernel) ?_)
  refine PyProof.Rows.callWith_kw ?_ (by rw [hsx]; rfl) (by rw [hsx]; rfl) (by rfl) (by rfl)
  rw [hsx]
  show wpAny _ _ (spliced ((false, eval e X.env) :: backTo pos [])) _ _ s
  refine Calls.spliced_cons (thn (he.run pins s σ H _ I h) fun u s1 ⟨v, H1, I1, r1, l, hv, hT, q1⟩ => Calls.spliced_nil ?_)
  subst hv
  obtain rfl : u = Value.ref l := r1
  show wpAny _ _ (evalAll ((do let v ← eval (.Lambda params body scope lpos) X.env; standAt pos; pure v) :: [])) _ _ s1
  have hmT' : (P, X.env.qual ++ "<lambda>") ∈ T := by rw [hq]; exact hmT
  refine wpAny_evalAll_cons (wpAny_bind (lam_make2 I1 TB hcode hmT' (fun p hp e => (hu p hp e).trans hq.symm) hT hdef (L.has I.ok) fun f c' pm' ctv H2 s' I2 eN T2 hf hfn hfr hco => wpAny_bind (wpAny_standAt (wpAny_pure (wpAny_evalAll_nil ?_)))))
  rw [hq] at hco
  obtain ⟨xs, ks, Wi, hl, w0, hlen, keys, turn, fin⟩ := q1 c' H2 eN T2 hco
  have hnf : f ≠ X.env.locals ∧ f ∉ X.fs := by
    rw [hst] at hfr
    have e1 : frs (X.env :: X.outer) = X.env.locals :: frs X.outer := by
      show List.filterMap _ _ = _
      rw [List.filterMap_cons, hfr0]
      rfl
    rw [e1] at hfr
    exact ⟨fun z => hfr (by rw [z]; exact List.mem_cons_self), fun z => hfr (List.mem_cons_of_mem _ z)⟩
  have I3 := I2.pins_of (pins' := pins ++ [(f, _)]) fun p hp => by
    rcases List.mem_append.mp hp with z | z
    · exact I2.pin p (List.mem_append_right _ z)
    · obtain rfl : p = (f, _) := by simpa using z
      exact ⟨hf, hfn, hnf.1, hnf.2, fun v z => by cases z⟩
  show wpAny _ _ (call (.builtin "sorted") [.ref l] [(Str.ofString "key", .ref f)]) _ _ s'
  have hr' : Room (k + 1) X.A.in1.in1 := hr.in1.in1
  have main := sort_call (E := X.xe) (q := f) (Wi := Wi) (Q := Q) I3 hl w0 hlen hr.units keys (fun ps x v k' hx rv hk pl s'' H' I' w' => by
    obtain ⟨hc', ht⟩ := turn ps x k' hx hk H' w'
    have hf' := (I'.pin (f, _) (List.mem_append_right _ (List.mem_append_left _ (List.mem_append_right _ List.mem_cons_self)))).1
    exact lam1_call I' L I'.env0.in1.in1 hr' hi nd rv hf' (by rw [hq]; exact hc') (hbind _ _ _ _ _) (fun E hr2 => hbody s'' H' E f c' hr2) ht) fin
  exact thn main fun u s2 ⟨v, H3, I3', r3, q3⟩ => ⟨v, H3, I3'.unpinned, r3, q3⟩

/-! ### readings that come to one of several data -/
def EvN (μ : Mu) (te : TE) (ρ : DEnv) (p : D → Prop) : Prop := ∀ (σ : L2.St) (F M H : Hp), RepS F ρ σ → RepM F M μ → Wd F M H →
  ∀ Q : VK, (∀ v d F2 H2, p d → Same F F2 → Wd F2 M H2 → Rep F2 d v → Q v H2) → te σ H Q
def spN (f : List D → (D → Prop) → Prop) : Sp := fun vs H Q _ => ∃ (F M : Hp) (ds : List D) (p : D → Prop), Wd F M H ∧ RepL F ds vs ∧ f ds p ∧ ∀ v d F2 H2, p d → Same F F2 → Wd F2 M H2 → Rep F2 d v → Q v H2
def isLst (n : Nat) (d : D) : Prop := ∃ l, d = .lst l ∧ l.length = n
section
variable {μ : Mu} {te : TE} {ρ : DEnv} {p : D → Prop} {Kf : PySem.W.Frag} {n : Nat}
theorem en_callN {f : List D → (D → Prop) → Prop} {tr : TA} {ds : List D} {E : XK} (h : EvA μ tr ρ ds) (hf : f ds p) : EvN μ (tCall (spN f) [] E tr) ρ p := fun σ F M H rs rm w Q q =>
  h σ F M H rs rm w _ fun vs F1 H1 e1 w1 r1 => by
    rw [List.append_nil]
    exact ⟨F1, M, ds, p, w1, r1, hf, fun v d F2 H2 hp e2 w2 r2 => q v d F2 H2 hp (e1.trans e2) w2 r2⟩
theorem ev_lenN (h : EvN μ te ρ (isLst n)) : Ev μ (tCB (rLenU Kf) (tCons te tNil)) ρ (.int (n : Nat)) := fun σ F M H rs rm w Q q =>
  h σ F M H rs rm w _ fun v d F1 H1 hp e1 w1 r1 => by
    obtain ⟨l, rfl, hl⟩ := hp
    show rLenU Kf [v] H1 Q
    have := cd_lenL (μ := μ) (K := Kf) (l := l) F1 M H1 [v] (.one r1) (rm.mono e1) w1 Q fun u F2 H2 e2 w2 r2 => q u F2 H2 (e1.trans e2) w2 (by rw [← hl]; exact r2)
    exact this
theorem sv_retN {K : Kt} (h : EvN μ te ρ p) (k : ∀ d, p d → K.rt μ d) : Sv μ (tRet te) ρ K := fun σ F M H rs rm w E tk =>
  h σ F M H rs rm w _ fun x d F2 H2 hp e2 w2 r2 => tk.rt μ d x F2 M H2 (k d hp) (Stp.pure rm e2 w2) r2
theorem repL_of {F : Hp} : ∀ {ys : List V}, (∀ y ∈ ys, ∃ d, Rep F d y) → ∃ ds, RepL F ds ys
  | [], _ => ⟨[], .nil⟩
  | y :: ys, h => by
    obtain ⟨d, hd⟩ := h y List.mem_cons_self
    obtain ⟨ds, r⟩ := repL_of (ys := ys) fun z hz => h z (List.mem_cons_of_mem _ hz)
    exact ⟨d :: ds, .cons hd r⟩
abbrev kD (k : Int × Str) : D := .tup [.int k.1, .str k.2]
open LamX in
theorem en_srt {t tb : TE} {i : Nat} {q : Str} {xs : List D} {ks : List (Int × Str)} (h : Ev μ t ρ (.lst xs)) (hlen : ks.length = xs.length)
    (hb : ∀ (j : Nat) (x : D) (k : Int × Str), xs[j]? = some x → ks[j]? = some k → Ev μ tb (ρ.set i (some x)) (kD k)) : EvN μ (tSrt Tt.T Kf i q t tb) ρ (isLst xs.length) := fun σ F M H rs rm w Q qq =>
  h σ F M H rs rm w _ fun v F1 H1 e1 w1 r1 => by
    cases r1 with
    | @lst l vs _ h1 t1 =>
    refine ⟨l, rfl, w1.t, fun c' H2 eN T2 hco => ?_⟩
    obtain ⟨w3, e3⟩ := (w1.lam eN T2).adoptE (p := c') hco
    refine ⟨vs, ks, fun ps H' => ∃ F', Same (upd F1 c' (CodeO c' q)) F' ∧ Wd F' M H' ∧ RepL F' ((ks.take ps.length).map kD) (ps.map V.ref), .inl (.inl (w3.f _ _ (e3 _ _ h1))), ⟨_, Same.refl _, w3, .nil⟩, by rw [hlen, t1.len], ?_, ?_, ?_⟩
    · rintro ps H' ⟨F', e', w', r'⟩ i p k hp hk
      have hp2 : (ps.map V.ref)[i]? = some (.ref p) := by rw [List.getElem?_map, hp]; rfl
      obtain ⟨d, hd, rd⟩ := r'.getV hp2
      rw [List.getElem?_map] at hd
      have hi : i < ps.length := (List.getElem?_eq_some_iff.mp hp).1
      rw [List.getElem?_take_of_lt hi, hk] at hd
      have hd : kD k = d := Option.some.inj hd
      subst hd
      cases rd with
      | tup h2 t2 =>
      cases t2 with
      | cons a t2 =>
      cases t2 with
      | cons b t2 =>
      cases t2
      cases a
      cases b
      exact w'.f _ _ h2
    · rintro ps x k hx hk H' ⟨F', e', w', r'⟩
      obtain ⟨d, hd, rd⟩ := t1.getV hx
      have eF : Same F1 F' := e3.trans e'
      refine ⟨w'.f _ _ (e' _ _ upd_same), ?_⟩
      refine hb _ d k hd hk _ F' M H' ((rs.mono (e1.trans eF)).set i (rd.mono eF)) (rm.mono (e1.trans eF)) w' _ fun r F4 H4 e4 w4 r4 => ?_
      cases r4 with
      | @tup p ys _ h4 t4 =>
      refine ⟨p, rfl, F4, e'.trans e4, w4, ?_⟩
      rw [List.length_append, List.length_singleton, List.take_add_one, hk, List.map_append, List.map_append]
      exact (r'.mono e4).app (.one (.tup h4 t4))
    · rintro p H' ps ys ⟨F', e', w', r'⟩ hp hl hm
      have eF : Same F1 F' := e3.trans e'
      obtain ⟨ds, rds⟩ := repL_of (F := F') (ys := ys) fun y hy => by
        obtain ⟨j, hj⟩ := List.getElem?_of_mem (hm y hy)
        obtain ⟨d, _, rd⟩ := t1.getV hj
        exact ⟨d, rd.mono eF⟩
      exact qq _ (.lst ds) _ _ ⟨ds, rfl, by rw [rds.len, hl, t1.len]⟩ ((e1.trans eF).trans (w'.newS hp)) (w'.new hp) (.lst upd_same (rds.mono (w'.newS hp)))
end
omit [Xw] in
theorem run_svN [Xw] {f : List D → (D → Prop) → Prop} {t : TS} {N : List Str} {vs : List V} {H : Hp} {Q : VK} {E : XK} (hs : spN f vs H Q E)
    (hb : ∀ ds p, f ds p → Sv mu0 t (start0 N.length ds) { nx := fun _ _ => p .non, rt := fun _ d' => p d' }) : t { nx := fun _ H' => Q .non H', rt := Q } (L2.start N vs) H := by
  obtain ⟨F, M, ds, p, w, r, hf, q⟩ := hs
  refine hb ds p hf _ F M H (repS_start r) repM0 w _ ⟨?_, ?_, ?_, ?_, ?_⟩
  · rintro μ' ρ' σ' F2 M2 H2 hp s _
    exact q _ _ F2 H2 hp s.ex (s.wd.less fun a o h => (s.fr a o h rfl).1) .non
  · rintro μ' d' v F2 M2 H2 hp s r2
    exact q _ _ F2 H2 hp s.ex (s.wd.less fun a o h => (s.fr a o h rfl).1) r2
  · exact fun _ _ _ _ _ _ h => h.elim
  · exact fun _ _ _ _ _ _ h => h.elim
  · exact fun _ _ _ _ _ _ h => h.elim
/-! ### defs that make a lambda: the code object and the table are known -/
open LamX in
def FunAtC (K : PySem.W.Frag) (mg : Str → Option Value) (base : Heap) (x : Str) (st : Stmt) (ps : List Str) (c Pt : Addr) : Prop :=
  ∃ (f : Addr) (oc : Value) (od : Option Addr) (kV doc pm : Value) (an : Option Addr) (ct : Value) (osl : Array (Option Value)),
    K.lookup f = some ⟨oc, od, .func (PySem.W.fnOf x x (defArgs st) (defBody st) (defScope st) .none kV doc pm an (.ref c) ct), osl⟩ ∧ PySem.W.codeIn K (.ref c) x = true ∧ PySem.W.keepIn K (.ref f) = true ∧
    mg x = some (.ref f) ∧ Binds K (PySem.W.fnOf x x (defArgs st) (defBody st) (defScope st) .none kV doc pm an (.ref c) ct) ps [] ∧ TabB base mg c Pt
section
variable {P : Program} {w : World} {K : PySem.W.Frag} {mg : Str → Option Value} {base : Heap}
theorem FunAtC.tab {x : Str} {st : Stmt} {ps : List Str} {c Pt : Addr} (F : FunAtC K mg base x st ps c Pt) : LamX.TabB base mg c Pt := by
  obtain ⟨f, oc, od, kV, doc, pm, an, ct, osl, lk, hcd, kp, m, b, tb⟩ := F
  exact tb
theorem FunAtC.defN {x : Str} {st : Stmt} {N ps : List Str} {c Pt : Addr} {k : Nat} {fr : List D → (D → Prop) → Prop} (F : FunAtC K mg base x st ps c Pt) (S : FnScope N ps (defScope st)) (n : ∀ ds d, fr ds d → ds.length = ps.length)
    (hbody : ∀ (A : Around) (outer : List Env) (s : Shared) (H : Hp) (E : XK) (f : Addr), Room k (A.deeper (envOfC x (defScope st) s.heap.objs.size f (.ref c))) →
      ∃ t, PSs (cxOf CX0 P w K mg base N x (defScope st) f (.ref c) A outer s H E).nox (defBody st) t ∧ ∀ ds p, fr ds p → Sv mu0 t (start0 N.length ds) { nx := fun _ _ => p .non, rt := fun _ d' => p d' }) :
    Def P w K mg base CX0 x (k + 1) ps [] (spN fr) := by
  obtain ⟨f, oc, od, kV, doc, pm, an, ct, osl, lk, hcd, kp, m, b, tb⟩ := F
  refine ⟨f, _, [], fn_of lk hcd S (fun vs H Q E h => ?_) fun A outer s H vs Q E hr h => ?_, m, kp, b, .nil⟩
  · obtain ⟨F1, M1, ds, d, _, r, hf, _⟩ := h
    rw [← r.len]
    exact n ds d hf
  · obtain ⟨t, ht, hq⟩ := hbody A outer s H E f hr
    exact ⟨t, ht.nox, run_svN h hq⟩
end
end Mf
set_option maxRecDepth 100000
set_option maxHeartbeats 4000000
/-! Meetfolk: ends_of, parting_of. -/
namespace Mf
open PySem L2 PyProof.Rows
variable [Tt] [Xw]
local macro_rules
  | `(tactic| walk_at "rd") => `(tactic| first
    | exact rd_addI | refine rd_addL ?_ | refine rd_addS ?_ | exact rd_sub | refine rd_mulI ?_ | refine rd_mulL ?_ ?_ ?_ | refine rd_mulS ?_ ?_ ?_ | refine rd_div ?_ | refine rd_mod ?_ | refine rd_pow ?_ | exact ud_neg
    | exact rd_ltI | exact rd_leI | exact rd_gtI | exact rd_geI | exact rd_ltS | exact rd_leS | exact rd_eqI | exact rd_neI
    | exact rd_ixT rfl | exact rd_ixL rfl | exact cd_lenL | exact cd_lenT | exact cd_int | exact cd_abs | exact cd_tupL | exact cd_listL | exact cd_listT | exact cd_all | exact cd_any | exact cd_sumT | exact bd_count)
local macro_rules
  | `(tactic| walk_at "ev1") => `(tactic| first
    | exact ev_int | exact ev_str | exact ev_bl | exact ev_non | exact ea_nil | refine ea_cons ?_ ?_ | exact ev_var rfl | exact ev_ty
    | refine ev_op ?_ ?_ ?_ | refine ev_un ?_ ?_ | refine ev_cb ?_ ?_ | refine ev_tup ?_ (by decide) | refine ev_bm ?_ ?_ ?_
    | exact et_yes | refine et_test ?_ | refine et_B ?_ | refine et_or ?_ (fun _ => ?_) | refine et_and ?_ (fun _ => ?_) | refine ev_andV ?_ (fun _ => ?_) | refine ev_orV ?_ (fun _ => ?_) | refine ev_notV ?_ | refine ev_chain ?_ ?_ ?_ (fun _ => ?_) (fun _ => ?_) | refine et_not ?_ | exact eo_none | refine eo_some ?_ | walk_at "rd")
local macro_rules
  | `(tactic| walk_at "ev") => `(tactic| repeat' walk_at "ev1")

abbrev sEndsOf : Stmt := topS 48
theorem scEndsOf : FnScope ["folk", "crowd", "found", "one"] ["folk", "crowd"] (defScope sEndsOf) := ⟨rfl, rfl, rfl, by decide +kernel, rfl, by decide +kernel, by decide +kernel⟩
abbrev sPartingOf : Stmt := topS 50
theorem scPartingOf : FnScope ["folk", "crowd"] ["folk"] (defScope sPartingOf) := ⟨rfl, rfl, rfl, by decide +kernel, rfl, by decide +kernel, by decide +kernel⟩
section
variable {P : Program} {w : World} {K : PySem.W.Frag} {mg : Str → Option Value} {base : Heap}
def fEnds (ds : List D) (p : D → Prop) : Prop := ∃ (m : Str) (rs : List Rl) (c : List Int), ds = [eFolk m rs, eCrowd c] ∧ p = isLst (endsL m rs c).length ∧ OkD m rs ∧ OkC m c ∧ (c.sum = 2 ∨ c.sum = 3)
theorem dEndsOf {c Pt : Addr} (F : FunAtC K mg base "ends_of" sEndsOf ["folk", "crowd"] c Pt) (hMem : (Pt, ("ends_of.<locals>.<lambda>" : Str)) ∈ Tt.T) (hU : ∀ p ∈ Tt.T, p.1 = Pt → p.2 = ("ends_of.<locals>.<lambda>" : Str)) (T : Bts mg)
    (DComeTo : Def P w K mg base CX0 "come_to" 4 ["folk", "crowd"] [] (spF fCome)) (DUsable : Def P w K mg base CX0 "usable" 3 ["folk", "crowd"] [] (spF fUsable)) (DBySize : Def P w K mg base CX0 "by_size" 2 ["folk", "crowd"] [] (spF fBySize)) :
    Def P w K mg base CX0 "ends_of" 6 ["folk", "crowd"] [] (spN fEnds) := by
  have hTB := F.tab
  refine F.defN scEndsOf (fun ds d h => ?_) (fun A outer s H E f hr => ?_)
  · obtain ⟨m, rs, c, rfl, _⟩ := h
    rfl
  · refine ⟨_, (pss_cons (ps_setLc (i := 2) (own := [("one", 3)]) (g := (gName 3))  rfl scEndsOf.nd rfl rfl (sw_true rfl rfl rfl (by decide +kernel)) (uSeq K rfl (pe_def DComeTo hr (by decide) (by rfl) pass0 (pa_cons (pv 0) (pa_cons (pv 1) pa_nil)))) (blkOk_by (N := ["folk", "crowd", "found", "one"]) (sc := (defScope sEndsOf)) (by decide +kernel)) (fun _ _ _ _ _ => (pg_name (i := 3) scEndsOf.nd rfl (by first | exact Or.inl rfl | exact Or.inr rfl))) (fun _ _ _ _ _ => pts_one (pt_cmpR (uEq K rfl (hu64 hr)) (pe_def DUsable hr (by decide) (by rfl) pass0 (pa_cons (pv 0) (pa_cons (pv 3) pa_nil))) (pe_lst pa_nil) (nomark _))) (fun _ _ _ _ _ => (pv 3)))
      (pss_one (ps_ret (pe_srt (i := 3) (x := "one") (by rfl) T.sorted (pv 2) hTB rfl (show ("ends_of.<locals>." : Str) ++ ("<lambda>" : Str) = _ from by decide +kernel) hMem hU hr (lam1_by (show lam1B (defScope sEndsOf) _ _ = true from by decide +kernel)) rfl rfl scEndsOf.nd rfl rfl (fun _ _ _ _ _ => rfl) (fun s H E f c hr => (pe_def DBySize hr (by decide) (by rfl) pass0 (pa_cons (pv 0) (pa_cons (pv 3) pa_nil)))))))), fun ds p h => ?_⟩
    obtain ⟨m, rs, c, rfl, rfl, hd, hc, hs⟩ := h
    have h6 := hd.ok.moods.l6
    have h5 := hd.five
    have ci := come_ci hd hc hs
    have hlen := found_le hd ci.nd (fun x hx => ⟨(ci.ok x hx).1, (ci.ok x hx).2.1⟩) hs
    have hel : (endsL m rs c).length = ((comeT m rs c).filter fun x => (usab m rs x).isEmpty).length := rfl
    refine q_asg (d := .lst ((endsL m rs c).map eCrowd)) (ev_lc (xs := comeT m rs c) (enc := eCrowd) (f := fun x => (usab m rs x).isEmpty) (h := fun x => eCrowd x) (ei_seqL (ev_call0 (ea_cons (ev_var rfl) (ea_cons (ev_var rfl) ea_nil)) (spD ⟨m, rs, c, rfl, rfl, hd, hc, hs⟩))) (by simp) (fun x _ => asg_name) (fun x _ => et_test (Ev.is (ev_op (ev_call0 (ea_cons (ev_var rfl) (ea_cons (ev_var rfl) ea_nil)) (spD ⟨m, rs, x, rfl, rfl, by omega, by omega⟩)) (ev_lst ea_nil (by decide)) (rd_eqNil (usab_pl hd.ok x))) ?_)) (fun x _ _ => ev_var rfl) (by
      have hlen : (comeT m rs c).length ≤ 216 := hlen
      omega)) asg_name ?_
    · rw [List.isEmpty_map]
    · have hln : ((endsL m rs c).map fun x => eCrowd x).length = (endsL m rs c).length := List.length_map ..
      refine sv_retN (p := isLst (endsL m rs c).length) ?_ fun d hp => hp
      rw [← hln]
      refine en_srt (ks := (endsL m rs c).map fun x => (x.sum, textC m x)) (ev_var rfl) (by rw [List.length_map, List.length_map]) fun j x k hx hk => ?_
      rw [List.getElem?_map] at hx hk
      obtain ⟨y, hy, rfl⟩ := Option.map_eq_some_iff.mp hx
      rw [hy] at hk
      cases hk
      obtain ⟨ho, hsm, _⟩ := ci.ok y (List.mem_filter.mp (List.mem_of_getElem? hy)).1
      refine ev_call0 (ea_cons (ev_var rfl) (ea_cons (ev_var rfl) ea_nil)) (spD ⟨m, rs, y, rfl, rfl, h6, fun z hz => ⟨ho.nn z hz, ?_⟩⟩)
      have := sum_nn ho.nn z hz
      omega
theorem cn_sum {m t : Str} (hm : OkM m) (h : ∀ x ∈ t.cps.toList, x ∈ m.cps.toList) : (cn m t).sum = (t.length : Nat) := by
  have h1 := tot_fn (cn m t)
  rw [cn_len, tot_cn hm h] at h1
  exact h1.symm
theorem few_ok {m : Str} (hm : OkM m) {c : List Int} (h : c ∈ fewT m) : OkC m c ∧ (c.sum = 2 ∨ c.sum = 3) := by
  have key : ∀ n, c ∈ crowdsT m n → OkC m c ∧ c.sum = (n : Nat) := fun n hc => by
    obtain ⟨t, ht, rfl⟩ := List.mem_map.mp hc
    obtain ⟨h1, h2⟩ := textsT_each n t ht
    exact ⟨⟨cn_len m t, fun x hx => (cn_small hx).1⟩, by rw [cn_sum hm h2, h1]⟩
  rcases List.mem_append.mp h with h | h
  · obtain ⟨a, b⟩ := key 2 h
    exact ⟨a, .inl b⟩
  · obtain ⟨a, b⟩ := key 3 h
    exact ⟨a, .inr b⟩
def partD (m : Str) (rs : List Rl) : D := match partG m rs with
  | none => .non
  | some c => eCrowd c
def fPart (ds : List D) (d : D) : Prop := ∃ (m : Str) (rs : List Rl), ds = [eFolk m rs] ∧ d = partD m rs ∧ OkD m rs
theorem dPartingOf (F : FunAt K mg "parting_of" sPartingOf ["folk"]) (T : Bts mg) (DFew : Def P w K mg base CX0 "few" 3 ["folk"] [] (spF fFew)) (DEndsOf : Def P w K mg base CX0 "ends_of" 6 ["folk", "crowd"] [] (spN fEnds)) :
    Def P w K mg base CX0 "parting_of" 7 ["folk"] [] (spF fPart) := by
  refine F.def_ scPartingOf (fun ds d h => ?_) (fun cdv A outer s H E f hr => ?_)
  · obtain ⟨m, rs, rfl, _⟩ := h
    rfl
  · refine ⟨_, (pss_cons (ps_for PassesOwn.never rfl (uSeq K rfl (pe_def DFew hr (by decide) (by rfl) pass0 (pa_cons (pv 0) pa_nil))) (pg_name (i := 1) scPartingOf.nd rfl (by first | exact Or.inl rfl | exact Or.inr rfl)) (pss_one (ps_if (pt_cmpR op_gtU (pe_callB (uLen K rfl) (by rfl) T.len (by decide +kernel) (pa_cons (pe_def DEndsOf hr (by decide) (by rfl) pass0 (pa_cons (pv 0) (pa_cons (pv 1) pa_nil))) pa_nil)) pe_int (nomark _)) (pss_one (ps_ret (pv 1))) pss_nil)))
      (pss_one (ps_ret pe_non))), fun ds d h => ?_⟩
    obtain ⟨m, rs, rfl, rfl, hd⟩ := h
    refine q_for (ei_seqL (ds := (fewT m).map eCrowd) (ev_call0 (ea_cons (ev_var rfl) ea_nil) (spD ⟨m, rs, rfl, rfl, hd.ok.moods⟩))) (fun j μ ρ => μ = mu0 ∧ (∃ x : Option D, ρ = [some (eFolk m rs), x]) ∧ ∀ c ∈ (fewT m).take j, ¬ 1 < (endsL m rs c).length) ⟨rfl, ⟨none, rfl⟩, by simp⟩ ?_ ?_
    · rintro j d μ ρ hdj ⟨rfl, ⟨x, rfl⟩, hno⟩
      rw [List.getElem?_map] at hdj
      obtain ⟨c, hcj, rfl⟩ := Option.map_eq_some_iff.mp hdj
      obtain ⟨hj, hje⟩ := List.getElem?_eq_some_iff.mp hcj
      obtain ⟨ho, hs⟩ := few_ok hd.ok.moods (List.mem_of_getElem? hcj)
      refine ⟨_, _, asg_name, ?_⟩
      refine sv_if (et_test (ev_op (ev_lenN (en_callN (ea_cons (ev_var rfl) (ea_cons (ev_var rfl) ea_nil)) ⟨m, rs, c, rfl, rfl, hd, ho, hs⟩)) ev_int rd_gtI)) (fun hb => ?_) fun hb => ?_
      · refine sv_ret (d := eCrowd c) (ev_var rfl) ?_
        show eCrowd c = partD m rs
        have : partG m rs = some c := by
          unfold partG
          have e : few_ m = (fewT m).take j ++ c :: (fewT m).drop (j + 1) := by
            show fewT m = _
            rw [← hje, List.getElem_cons_drop, List.take_append_drop]
          rw [e, List.find?_append, List.find?_eq_none.mpr (fun x hx => by simpa using hno x hx), Option.none_or, List.find?_cons_of_pos]
          have hb : (1 : Int) < ((endsL m rs c).length : Nat) := by simpa using hb
          exact decide_eq_true (by omega)
        unfold partD
        rw [this]
      · refine sv_next ⟨rfl, ⟨_, rfl⟩, fun x hx => ?_⟩
        rw [List.take_add_one, hcj] at hx
        rcases List.mem_append.mp hx with hx | hx
        · exact hno x hx
        · obtain rfl : x = c := by simpa using hx
          have hb : ¬ (1 : Int) < ((endsL m rs x).length : Nat) := by simpa using hb
          omega
    · rintro μ ρ ⟨rfl, ⟨x, rfl⟩, hno⟩
      rw [List.length_map, List.take_length] at hno
      refine sv_ret (d := .non) ev_non ?_
      show D.non = partD m rs
      have : partG m rs = none := List.find?_eq_none.mpr fun x hx => by simpa using hno x hx
      unfold partD
      rw [this]
end
end Mf
set_option maxRecDepth 100000
set_option maxHeartbeats 2000000
/-! A set made of at most five tuples of texts, no two alike: how many it holds. -/
namespace Mf
open PySem PySem.Spec PyProof.Rows L2
abbrev hsh (P : Program) (w : World) (k : List Str) : Int := tupleKeyHash (strKind P w) k
abbrev IsR (P : Program) (w : World) (h : Heap) (k : List Str) (a : Addr) : Prop := IsTupleKey (strKind P w) h k a
abbrev rowS (P : Program) (w : World) (p : Addr × List Str) : Int × Value := (hsh P w p.2, Value.ref p.1)
abbrev prb (m : Nat) (h : Int) : SetTable.Probe := runAt m (SetTable.bits h % (m + 1)) (SetTable.bits h)
section
variable {P : Program} {w : World} {A : Around} {E : Value → Shared → Prop} {s : Shared}
theorem items_s {k : List Str} {vs : List Value} (h : ItemsAre (strKind P w) k vs) : ∀ v ∈ vs, ∃ x t, v = Value.str x t := by
  induction h with
  | nil => exact fun v hv => (by cases hv)
  | cons h1 _ ih => exact fun v hv => (List.mem_cons.mp hv).elim (fun e => by
      obtain ⟨t, e2⟩ := Value.isStrOf_shape h1
      exact ⟨_, t, e.trans e2⟩) (ih v)
theorem quiet_cls {k : List Str} {b : Addr} {Q : Bool → Shared → Prop} (hk : IsR P w s.heap k b) (h : Q false s) : wpAny (model P w) A (ofAClassStatement 8 (.ref b)) Q E s := by
  have hT := hk.typeIs
  obtain ⟨o, items, n, ho, _, hd, hi⟩ := hk
  unfold ofAClassStatement
  refine wpAny_bind (wpAny_typeOf hT ?_)
  dsimp only
  have e : (("tuple" : String) == "tuple") = true := by decide
  simp only [e, if_true, Bool.not_true, Bool.false_eq_true, if_false]
  show wpAny _ _ (seqItems? (.ref b) >>= _) _ _ s
  refine wpAny_bind (wpAny_seqItems ho hd (wpAny_bind ?_))
  show wpAny _ _ (forIn items _ _) _ _ s
  rw [← Array.forIn_toList]
  refine wpAny_forIn_list _ (fun rest r s' => r.1 = none ∧ s' = s ∧ ∀ v ∈ rest, ∃ x t, v = Value.str x t) _ ?_ ?_ _ _ ⟨rfl, rfl, items_s hi⟩
  · rintro v rest r s' ⟨hr, rfl, hall⟩
    obtain ⟨x, t, rfl⟩ := hall v List.mem_cons_self
    have e2 : ofAClassStatement 7 (.str x t) = pure false := rfl
    rw [e2]
    refine wpAny_bind (wpAny_pure ?_)
    simp only [Bool.false_eq_true, if_false]
    exact wpAny_pure ⟨rfl, rfl, fun u hu => hall u (List.mem_cons_of_mem _ hu)⟩
  · rintro ⟨r1, r2⟩ s' ⟨hr, rfl, _⟩
    obtain rfl : r1 = none := hr
    exact wpAny_pure h
theorem quiet_hash {k : List Str} {b : Addr} {Q : Bool → Shared → Prop} (hk : IsR P w s.heap k b) (h : ∀ z, Q z s) : wpAny (model P w) A (hashByValue 8 (.ref b)) Q E s := by
  have hT := hk.typeIs
  obtain ⟨o, items, n, ho, _, hd, hi⟩ := hk
  unfold hashByValue
  refine wpAny_bind (wpAny_specialOf hT F.slot_tuple_hash.lookup ?_)
  show wpAny _ _ (seqItems? (.ref b) >>= _) _ _ s
  refine wpAny_bind (wpAny_seqItems ho hd (wpAny_bind ?_))
  show wpAny _ _ (forIn items _ _) _ _ s
  rw [← Array.forIn_toList]
  have hs := items_s hi
  generalize items.toList = l at hs ⊢
  cases l with
  | nil =>
    rw [List.forIn_nil]
    exact wpAny_pure (wpAny_pure (h _))
  | cons v rest =>
    obtain ⟨x, t, rfl⟩ := hs _ List.mem_cons_self
    have e2 : hashByValue 7 (.str x t) = pure false := (show ∀ n, hashByValue n (.str x t) = pure false from fun n => by cases n <;> rfl) 7
    rw [List.forIn_cons, e2]
    refine wpAny_bind (wpAny_bind (wpAny_pure ?_))
    exact wpAny_pure (wpAny_pure (wpAny_pure (h _)))
theorem quiet_seen {k : List Str} {b : Addr} {Q : Bool → Shared → Prop} (hk : IsR P w s.heap k b) {ys : List Value} (hy : ∀ y ∈ ys, ∃ k' c, y = Value.ref c ∧ IsR P w s.heap k' c) (h : Q false s) :
    wpAny (model P w) A (searchCouldBeSeen (.ref b) ys) Q E s := by
  unfold searchCouldBeSeen
  refine wpAny_bind (wpAny_forIn_list _ (fun rest r s' => r.1 = none ∧ s' = s ∧ ∀ y ∈ rest, ∃ k' c, y = Value.ref c ∧ IsR P w s.heap k' c) _ ?_ ?_ _ _ ⟨rfl, rfl, hy⟩)
  · rintro v rest r s' ⟨hr, rfl, hall⟩
    obtain ⟨k', c, rfl, hc⟩ := hall v List.mem_cons_self
    have more : ∀ y ∈ rest, ∃ k' c, y = Value.ref c ∧ IsR P w s'.heap k' c := fun u hu => hall u (List.mem_cons_of_mem _ hu)
    dsimp only
    by_cases hv : (b == c || (carriedByValue (.ref b) && carriedByValue (.ref c))) = true
    · exact wp_if_pos hv (wpAny_pure ⟨rfl, rfl, more⟩)
    · refine wp_if_neg hv (wpAny_bind (wpAny_eqIsQuiet_tuple hk ?_))
      simp only [Bool.not_true, Bool.false_eq_true, if_false]
      refine wpAny_bind (wpAny_eqIsQuiet_tuple hc ?_)
      simp only [Bool.not_true, Bool.false_eq_true, if_false]
      refine wpAny_bind (quiet_cls hk ?_)
      simp only [Bool.false_eq_true, if_false]
      refine wpAny_bind (quiet_cls hc ?_)
      simp only [Bool.false_eq_true, if_false]
      exact wpAny_pure ⟨rfl, rfl, more⟩
  · rintro ⟨r1, r2⟩ s' ⟨hr, rfl, _⟩
    obtain rfl : r1 = none := hr
    exact wpAny_pure h

/-- the set at a holds L's tuples, at most four -/
structure Rt (P : Program) (w : World) (h : Heap) (a : Addr) (L : List (Addr × List Str)) (es : Array (Int × Value)) (ep : Nat) (t : SetTable) : Prop where
  ob : ∃ o, h.get? a = some o ∧ o.ExactSet ∧ o.data = .set es ep t
  rows : es.toList = L.map (rowS P w)
  tab : TabOk t (L.map fun p => hsh P w p.2)
  tup : ∀ p ∈ L, IsR P w h p.2 p.1
  led : w.params.followText "set-order" = true ∨ t.led = true
  m7 : t.mask = 7
  few : L.length ≤ 4
/-- a set of n things -/
def SetN (h : Heap) (a : Addr) (n : Nat) : Prop := ∃ o es ep t, h.get? a = some o ∧ o.ExactSet ∧ o.data = .set es ep t ∧ es.size = n ∧ t.fits es.size = true
variable {a : Addr} {L : List (Addr × List Str)} {es : Array (Int × Value)} {ep : Nat} {t : SetTable}
theorem Rt.size {h : Heap} (R : Rt P w h a L es ep t) : es.size = L.length := by
  have h := congrArg List.length R.rows
  rwa [Array.length_toList, List.length_map] at h
theorem tab_fits {hs : List Int} (T : TabOk t hs) {n : Nat} (h : hs.length = n) (hm : n ≤ t.mask) : t.fits n = true := by
  have h1 := T.sz
  unfold SetTable.fits SetTable.fill
  rw [T.dm, Bool.and_eq_true, beq_iff_eq, decide_eq_true_eq]
  show t.place.size = n ∧ t.place.size + 0 ≤ t.mask
  omega
theorem Rt.fits {h : Heap} (R : Rt P w h a L es ep t) : t.fits es.size = true := tab_fits R.tab (by rw [List.length_map, R.size]) (by rw [R.size, R.m7]; exact Nat.le_trans R.few (by decide))
theorem Rt.entry (R : Rt P w s.heap a L es ep t) {i : Nat} {p : Addr × List Str} (h : L[i]? = some p) : es[i]? = some (rowS P w p) := by
  rw [← Array.getElem?_toList, R.rows, List.getElem?_map, h]
  rfl
theorem nth_clean (m : Nat) : ∀ (n : Nat) (p : SetTable.Probe), p.dummy = none → (nth m p n).dummy = none
  | 0, _, h => h
  | n + 1, p, h => nth_clean m n (adv m p) (by
      unfold adv
      split <;> exact h)
/-- a search for what is not there comes to the first empty slot -/
theorem find_new (R : Rt P w s.heap a L es ep t) {x : Addr} {k : List Str} (hx : IsR P w s.heap k x) (hu : A.units < cLine) (hn : k ∉ L.map (·.2)) {K : Nat} (hKf : K < 10 * SetTable.turns t.mask)
    (hK : way t.mask (hsh P w k) K ∉ t.place.toList) (hKb : ∀ c, c < K → way t.mask (hsh P w k) c ∈ t.place.toList) {Q : SetFound → Shared → Prop} (q : Q (.free (way t.mask (hsh P w k) K) false) s) :
    ∀ (f c : Nat) (stand : Option SetTable.Probe), stand.getD (t.probeStart (hsh P w k)) = nth t.mask (prb t.mask (hsh P w k)) c → c ≤ K → K - c < f →
      wpAny (model P w) A (setSearchFrom a (.ref x) (hsh P w k) true f stand) Q E s
  | 0, c, stand, _, _, hf => absurd hf (Nat.not_lt_zero _)
  | f + 1, c, stand, hst, hc, hf => by
    obtain ⟨o, ho, hex, hd⟩ := R.ob
    rw [setSearchFrom_succ]
    refine wpAny_bind (wpAny_setState_of ho hd R.fits ?_)
    dsimp only
    refine wp_if_neg (by unfold SetTable.gaveWay; rw [mask_odd R.tab.mok]; decide) ?_
    try refine wpAny_bind (wpAny_pure ?_)
    have hcl := nth_clean t.mask c (prb t.mask (hsh P w k)) rfl
    have sh : ∀ q, nth t.mask (nth t.mask (prb t.mask (hsh P w k)) c) q = nth t.mask (prb t.mask (hsh P w k)) (c + q) := fun q => (nth_add t.mask c _ q).symm
    have e1 : ∀ q, (nth t.mask (nth t.mask (prb t.mask (hsh P w k)) c) q).j = way t.mask (hsh P w k) (c + q) := fun q => congrArg SetTable.Probe.j (sh q)
    have eK : c + (K - c) = K := by omega
    rcases go_spec t R.tab.ris R.tab.dm (fun i => (es[i]?.map (·.1)).getD 0) (hsh P w k) (10 * SetTable.turns t.mask) (K - c) _ hcl (by omega)
      (fun q hq => by rw [e1]; exact hKb (c + q) (by omega)) (by rw [e1, eK]; exact hK) with ⟨q', i, hq, hi, hh, hno, hpr⟩ | ⟨hno, hpr⟩
    · have hpr' : t.probe (fun i => (es[i]?.map (·.1)).getD 0) (hsh P w k) (stand.getD (t.probeStart (hsh P w k))) = some (.candidate (way t.mask (hsh P w k) (c + q')) i (nth t.mask (prb t.mask (hsh P w k)) (c + (q' + 1)))) := by
        rw [hst, ← e1, ← sh]
        exact hpr
      rw [hpr']
      dsimp only
      rw [e1] at hi
      have hil : i < L.length := by
        have h1 : i < t.place.toList.length := (List.getElem?_eq_some_iff.mp hi).1
        have h2 := R.tab.sz
        rw [List.length_map] at h2
        rw [Array.length_toList] at h1
        omega
      obtain ⟨p, hp⟩ : ∃ p, L[i]? = some p := ⟨_, List.getElem?_eq_getElem hil⟩
      have hmem : p ∈ L := List.mem_of_getElem? hp
      have hkk : p.2 ≠ k := fun e => hn (List.mem_map.mpr ⟨p, hmem, e⟩)
      have go : wpAny (model P w) A (searchRest a (.ref x) (hsh P w k) true f es t (way t.mask (hsh P w k) (c + q')) i (nth t.mask (prb t.mask (hsh P w k)) (c + (q' + 1)))) Q E s := by
        unfold searchRest
        rw [R.entry hp]
        dsimp only
        refine wpAny_bind (wpAny_holding (wpAny_eqBool_tuple hu (R.tup p hmem) hx (wpAny_bind (wpAny_setState_of ho hd R.fits ?_))))
        dsimp only
        refine wp_if_neg (by simp [hkk]) ?_
        try refine wpAny_bind (wpAny_pure ?_)
        rw [sameMem]
        dsimp only
        simp only [if_true, slot_live R.tab.ris hi, R.entry hp]
        refine wpAny_bind (wpAny_isSame_ref_self (wpAny_bind (wpAny_pure ?_)))
        simp only [if_true]
        exact wp_if_neg (by simp [hkk]) (find_new R hx hu hn hKf hK hKb q f (c + (q' + 1)) _ rfl (by omega) (by omega))
      by_cases hl : t.led = true
      · refine wp_if_neg (by simp [hl]) ?_
        try refine wpAny_bind (wpAny_pure ?_)
        exact go
      · refine wp_if_pos (by simp [hl]) (wpAny_bind (quiet_seen hx (fun y hy => ?_) ?_))
        · obtain ⟨e, he, ee⟩ := List.mem_map.mp hy
          have he1 : e ∈ es ∧ e.1 = hsh P w k := by simpa using he
          have he2 : e ∈ es.toList := by simpa using he1.1
          rw [R.rows] at he2
          obtain ⟨p2, hp2, e2⟩ := List.mem_map.mp he2
          exact ⟨p2.2, p2.1, by rw [← ee, ← e2], R.tup p2 hp2⟩
        · refine wp_if_neg (by decide) ?_
          try refine wpAny_bind (wpAny_pure ?_)
          exact go
    · have hpr' : t.probe (fun i => (es[i]?.map (·.1)).getD 0) (hsh P w k) (stand.getD (t.probeStart (hsh P w k))) = some (.empty (way t.mask (hsh P w k) K) none) := by
        have e2 : way t.mask (hsh P w k) K = (nth t.mask (nth t.mask (prb t.mask (hsh P w k)) c) (K - c)).j := by rw [e1, eK]
        rw [hst, e2]
        exact hpr
      rw [hpr']
      exact wpAny_pure q

theorem all_len {α : Type} (es : Array α) : ∀ l : List Nat, (∀ i ∈ l, i < es.size) → (l.filterMap (fun i => es[i]?)).length = l.length
  | [], _ => rfl
  | i :: l, h => by
    rw [List.filterMap_cons_some (Array.getElem?_eq_getElem (h i List.mem_cons_self)), List.length_cons, List.length_cons, all_len es l fun j hj => h j (List.mem_cons_of_mem _ hj)]
/-- what a fifth makes of a table of eight: five, in one of thirty-two -/
theorem relay5 {o : Obj} {hs : List Int} (ho : s.heap.get? a = some o) (hex : o.ExactSet) (hd : o.data = .set es ep t) (hes : es.size = 5) (T : TabOk t hs) (hl : hs.length = 5) (hm : t.mask = 7) {Q : Unit → Shared → Prop}
    (q : ∀ h', Heap.SameBut a s.heap h' → SetN h' a 5 → Q () { s with heap := h' }) : wpAny (model P w) A (setRelay a (SetTable.grown 5)) Q E s := by
  obtain ⟨t', order, e, hp, T', em, _, _, _⟩ := relaid_ok t (hs := es.map (·.1)) (wanted := SetTable.grown 5) (M := 31) (by rw [size_20]) (.inr (.inl rfl)) (by rw [Array.size_map, hes]; decide)
  rw [Array.size_map, hes] at hp
  have hol : order.toList.length = 5 := by rw [hp.length_eq, List.length_range]
  have hsz : (order.filterMap (es[·]?)).size = 5 := by
    rw [← Array.length_toList, Array.toList_filterMap, all_len es _ fun i hi => by rw [hes]; exact List.mem_range.mp (hp.mem_iff.mp hi)]
    exact hol
  rw [setRelay_eq]
  refine wpAny_bind (wpAny_setState_of ho hd (tab_fits T (by rw [hl, hes]) (by rw [hes, hm]; decide)) ?_)
  dsimp only
  refine wp_if_neg (by rw [size_20, sizeLine_eq]; decide) ?_
  try refine wpAny_bind (wpAny_pure ?_)
  rw [e]
  dsimp only
  refine wpAny_bind (wp_if_neg (by rw [hsz, hes]; simp) ?_)
  try refine wpAny_bind (wpAny_pure ?_)
  refine wpAny_pure ?_
  dsimp only
  refine wpAny_storeSet_of ho hd ?_ (by rw [hsz, sizeLine_eq]; decide)
  exact q _ (Heap.SameBut.update ..) ⟨_, _, _, _, store_at ho hd, ⟨hex.1, hex.2.1, hex.2.2⟩, rfl, hsz, by rw [hsz]; exact tab_fits T' (by rw [List.length_map, hol]) (by rw [em]; decide)⟩
theorem isR_but {h h' : Heap} {k : List Str} {b : Addr} {o : Obj} (hb : IsR P w h k b) (ho : h.get? a = some o) (hd : o.data = .set es ep t) (hs : Heap.SameBut a h h') : IsR P w h' k b := by
  obtain ⟨o', items, n, ho', hc, hd', hi⟩ := hb
  refine ⟨o', items, n, (hs.2 b fun z => ?_).trans ho', hc, hd', hi⟩
  subst z
  rw [ho] at ho'
  cases ho'
  rw [hd] at hd'
  cases hd'
/-- one more, or five -/
def More (P : Program) (w : World) (h : Heap) (a : Addr) (x : Addr) (k : List Str) (L : List (Addr × List Str)) : Prop :=
  (L.length ≤ 3 ∧ ∃ L' es ep t, Rt P w h a L' es ep t ∧ L'.Perm ((x, k) :: L)) ∨ (L.length = 4 ∧ SetN h a 5)
theorem add_new (R : Rt P w s.heap a L es ep t) {x : Addr} {k : List Str} (hx : IsR P w s.heap k x) (hu : A.units < cLine) (hn : k ∉ L.map (·.2)) {Q : Bool → Shared → Prop}
    (q : ∀ b h', Heap.SameBut a s.heap h' → More P w h' a x k L → Q b { s with heap := h' }) : wpAny (model P w) A (setAddHashed a (.ref x) (hsh P w k)) Q E s := by
  obtain ⟨o, ho, hex, hd⟩ := R.ob
  have hsl := R.size
  have hfew := R.few
  have hm7 := R.m7
  obtain ⟨K, hKf, hK, hKb⟩ := R.tab.first (by rw [List.length_map, hm7]; omega) (hsh P w k)
  have hbig : K < 100000 := by
    have : 10 * SetTable.turns t.mask ≤ 1420 := by
      unfold SetTable.turns
      omega
    omega
  unfold setAddHashed
  refine wpAny_holding ?_
  rw [show (100000 : Nat) = 99999 + 1 from rfl, setAddHashedIn_succ]
  refine wpAny_bind (wpAny_setState_of ho hd R.fits ?_)
  dsimp only
  refine wp_if_neg (by simp [byScan, Value.scannable]) ?_
  try refine wpAny_bind (wpAny_pure ?_)
  refine wpAny_bind ?_
  unfold setSearch
  refine find_new R hx hu hn hKf hK hKb ?_ 100000 0 none rfl (Nat.zero_le _) (by omega)
  dsimp only
  refine wpAny_bind (wpAny_setState_of ho hd R.fits ?_)
  dsimp only
  obtain ⟨q1, q2, q3, q4, q5, q6, q7, q8, q9⟩ := R.tab.put hK hKb
  generalize hpt : t.put (way t.mask (hsh P w k) K) = pt at q1 q3 q4 q5 q6 q7 q8 q9 ⊢
  obtain ⟨t1, p⟩ := pt
  dsimp only at q1 q3 q4 q5 q6 q7 q8 q9 ⊢
  subst q1
  generalize hpp : SetTable.below t.place (way t.mask (hsh P w k) K) = p at q2 q3 ⊢
  have hin : (SetTable.insertAt es p (hsh P w k, Value.ref x)).toList = (L.take p ++ (x, k) :: L.drop p).map (rowS P w) := by
    rw [SetTable.toList_insertAt, R.rows, List.map_append, List.map_cons, List.map_take, List.map_drop]
  have pm := put_perm L p (x, k)
  have hlen : (L.take p ++ (x, k) :: L.drop p).length = L.length + 1 := pm.length_eq
  have hhs : (L.take p ++ (x, k) :: L.drop p).map (fun p => hsh P w p.2) = (L.map fun p => hsh P w p.2).take p ++ hsh P w k :: (L.map fun p => hsh P w p.2).drop p := by
    rw [List.map_append, List.map_cons, List.map_take, List.map_drop]
  rw [← hhs] at q3
  have hes : (SetTable.insertAt es p (hsh P w k, Value.ref x)).size = L.length + 1 := by
    have h := congrArg List.length hin
    rwa [Array.length_toList, List.length_map, hlen] at h
  generalize SetTable.insertAt es p (hsh P w k, Value.ref x) = es1 at hin hes ⊢
  generalize L.take p ++ (x, k) :: L.drop p = L1 at pm hlen q3 hin
  have nx : ∀ (t2 : SetTable), TabOk t2 (L1.map fun p => hsh P w p.2) → t2.mask = 7 → t2.led = t.led → t2.fill = L.length + 1 →
      wpAny (model P w) A (do storeSet a es1 t2; if (!false && t2.tooFull) = true then (do setRelay a (SetTable.grown (es.size + 1)); pure true) else pure true) Q E s := by
    intro t2 T2 m2 l2 f2
    refine wpAny_bind (wpAny_storeSet_of ho hd ?_ (by rw [hes, sizeLine_eq]; omega))
    have sb : Heap.SameBut a s.heap (s.heap.update a (Obj.putSet es1 t2)) := Heap.SameBut.update ..
    have ho1 := store_at (es' := es1) (t' := t2) ho hd
    generalize s.heap.update a (Obj.putSet es1 t2) = h1 at sb ho1 ⊢
    have hfl : t2.tooFull = decide ((L.length + 1) * 5 ≥ 7 * 3) := by
      unfold SetTable.tooFull
      rw [f2, m2]
    by_cases h4 : L.length = 4
    · have hf : t2.tooFull = true := by rw [hfl, h4]; rfl
      first
        | (refine wpAny_bind ?_; refine wp_if_pos (by simp [hf]) ?_)
        | (refine wp_if_pos (by simp [hf]) ?_; refine wpAny_bind ?_)
      rw [hsl, h4]
      exact relay5 (s := { s with heap := h1 }) ho1 ⟨hex.1, hex.2.1, hex.2.2⟩ rfl (by rw [hes, h4]) T2 (by rw [List.length_map, hlen, h4]) m2 fun h2 sb2 R2 => wpAny_pure (q true h2 (sb.trans sb2) (.inr ⟨h4, R2⟩))
    · have hf : ¬ t2.tooFull = true := by
        rw [hfl, decide_eq_true_eq]
        omega
      first
        | refine wp_if_neg (by simp [hf]) ?_
        | (refine wpAny_bind ?_; refine wp_if_neg (by simp [hf]) ?_; refine wpAny_pure ?_)
      refine wpAny_pure (q true h1 sb (.inl ⟨by omega, L1, es1, ep + 1, t2, ⟨⟨_, ho1, ⟨hex.1, hex.2.1, hex.2.2⟩, rfl⟩, hin, T2, fun p hp => ?_, by rw [l2]; exact R.led, m2, by rw [hlen]; omega⟩, pm⟩))
      rcases List.mem_cons.mp (pm.mem_iff.mp hp) with e | hp
      · rw [e]
        exact isR_but hx ho hd sb
      · exact isR_but (R.tup p hp) ho hd sb
  have m1 : t1.mask = 7 := q4.trans hm7
  have f1 : t1.fill = L.length + 1 := by rw [q9, List.length_map]
  have T1 : TabOk { t1 with plain := false } (L1.map fun p => hsh P w p.2) := ⟨q3.ris, q3.dm, q3.sz, q3.mok, q3.bd, q3.reach⟩
  by_cases hp1 : t1.plain = true
  · refine wp_if_pos hp1 (wpAny_bind (quiet_hash hx fun z => ?_))
    cases z
    · exact nx { t1 with plain := false } T1 m1 q5 f1
    · exact nx t1 q3 m1 q5 f1
  · exact wp_if_neg hp1 (wpAny_bind (wpAny_pure (nx t1 q3 m1 q5 f1)))

/-- what the set holds behind i items of ks -/
def Upto (P : Program) (w : World) (h : Heap) (S : Addr) (ks : List (Addr × List Str)) (i : Nat) : Prop :=
  (i ≤ 4 ∧ ∃ L es ep t, Rt P w h S L es ep t ∧ L.Perm (ks.take i) ∧ L.length = i) ∨ (i = 5 ∧ SetN h S 5)
theorem isR_keep {h h' : Heap} {k : List Str} {b : Addr} (x : IsR P w h k b) (hk : ∀ c o, h.get? c = some o → h'.get? c = some o) : IsR P w h' k b := by
  obtain ⟨o, items, n, ho, r⟩ := x
  exact ⟨o, items, n, hk b o ho, r⟩
theorem Upto.keep {h h' : Heap} {S : Addr} {ks : List (Addr × List Str)} {i : Nat} (u : Upto P w h S ks i) (hS : ∀ o, h.get? S = some o → h'.get? S = some o) (hk : ∀ p ∈ ks, IsR P w h' p.2 p.1) : Upto P w h' S ks i := by
  rcases u with ⟨h4, L, es, ep, t, R, pm, hl⟩ | ⟨h5, o, es, ep, t, ho, r⟩
  · obtain ⟨o, ho, r⟩ := R.ob
    exact .inl ⟨h4, L, es, ep, t, ⟨⟨o, hS o ho, r⟩, R.rows, R.tab, fun p hp => hk p (List.mem_of_mem_take (pm.mem_iff.mp hp)), R.led, R.m7, R.few⟩, pm, hl⟩
  · exact .inr ⟨h5, o, es, ep, t, hS o ho, r⟩
theorem Upto.done {h : Heap} {S : Addr} {ks : List (Addr × List Str)} {i : Nat} (u : Upto P w h S ks i) : SetN h S i := by
  rcases u with ⟨h4, L, es, ep, t, R, pm, hl⟩ | ⟨h5, r⟩
  · obtain ⟨o, ho, hx, hd⟩ := R.ob
    exact ⟨o, es, ep, t, ho, hx, hd, by rw [R.size, hl], R.fits⟩
  · rw [h5]
    exact r
theorem upto0 {h : Heap} {S : Addr} {ks : List (Addr × List Str)} (ho : h.get? S = some { cls := .type "set", dict := none, data := .set #[] 0 (.fresh 0 0 (!w.params.followText "set-order")) }) : Upto P w h S ks 0 := by
  refine .inl ⟨Nat.zero_le _, [], #[], 0, _, ⟨⟨_, ho, ⟨rfl, rfl, rfl⟩, rfl⟩, rfl, ⟨List.Pairwise.nil, rfl, rfl, .inl rfl, fun x hx => (by cases hx), fun i h j hi => (by simp at hi)⟩, fun p hp => (by cases hp), ?_, rfl, Nat.zero_le _⟩, List.Perm.refl _, rfl⟩
  show _ ∨ (!w.params.followText "set-order") = true
  cases w.params.followText "set-order"
  · exact .inr rfl
  · exact .inl rfl
theorem Upto.next {h : Heap} {S : Addr} {ks L : List (Addr × List Str)} {i : Nat} {p : Addr × List Str} (hp : ks[i]? = some p) (pm : L.Perm (ks.take i)) (hl : L.length = i) (m : More P w h S p.1 p.2 L) : Upto P w h S ks (i + 1) := by
  rcases m with ⟨h3, L', es, ep, t, R, pm2⟩ | ⟨h4, r⟩
  · refine .inl ⟨by omega, L', es, ep, t, R, ?_, by rw [pm2.length_eq, List.length_cons, hl]⟩
    have e : ks.take (i + 1) = ks.take i ++ [p] := by rw [List.take_add_one, hp]; rfl
    rw [e]
    exact pm2.trans ((List.Perm.cons _ pm).trans (List.perm_append_singleton p (ks.take i)).symm)
  · exact .inr ⟨by omega, r⟩
/-- the loop that fills it -/
theorem fill_loop {I : Addr} {fp wr : List Addr} {G : Array GenState → Array GenState → Prop} {n : Nat} {Pv : Nat → Value → Prop} {St : Nat → Shared → Prop} {R : Result → Shared → Prop}
    (W : WalksS P w A.in1 I fp wr G n Pv St) (S : Addr) (hSf : S ∉ fp) (ks : List (Addr × List Str)) (hn : n = ks.length) (h5 : ks.length ≤ 5) (nd : (ks.map (·.2)).Nodup) (hval : ∀ i v, Pv i v → ∃ p, ks[i]? = some p ∧ v = .ref p.1)
    (h0 : Heap) (hk : ∀ p ∈ ks, IsR P w h0 p.2 p.1) (hS0 : h0.get? S = none) (hw0 : ∀ b ∈ wr, h0.get? b = none) (hu : A.in1.units < cLine) :
    ∀ (d i : Nat) (s : Shared), n - i = d → i ≤ n → St i s → (∀ b o, h0.get? b = some o → s.heap.get? b = some o) → Upto P w s.heap S ks i →
      (∀ s', Moved (S :: wr) G s s' → SetN s'.heap S n → (∀ b o, h0.get? b = some o → s'.heap.get? b = some o) → R (.ok (.ret .none)) s') →
      codeAny (model P w) A (.builtin "set.update.loop" ⟨[.ref S, .ref I], []⟩) R s := by
  have hSw : S ∉ wr := fun h => hSf (W.sub _ h)
  have sub : ∀ b ∈ wr, b ∈ S :: wr := fun b hb => List.mem_cons_of_mem _ hb
  have kept : ∀ {s s' : Shared}, Moved wr G s s' → (∀ b o, h0.get? b = some o → s.heap.get? b = some o) → ∀ b o, h0.get? b = some o → s'.heap.get? b = some o := fun hm hkp b o e =>
    hm.heap b o (fun hb => by rw [hw0 b hb] at e; cases e) (hkp b o e)
  intro d
  induction d with
  | zero =>
    intro i s hd hi hst hkp u hR
    obtain rfl : i = n := by omega
    refine codeAny_builtin F.entry_set_update_loop ?_
    rw [Around.under_plainId F.plain_set_update_loop _]
    show wpAny _ A.in1 (pyNext (.ref I) >>= _) _ _ s
    refine wpAny_bind (W.done s _ _ hst fun s' hm => ?_)
    have hkp' := kept hm hkp
    exact wpAny_pure (hR s' (hm.mono sub) (u.keep (fun o e => hm.heap S o hSw e) fun p hp => isR_keep (hk p hp) hkp').done hkp')
  | succ d ih =>
    intro i s hd hi hst hkp u hR
    have hlt : i < n := by omega
    refine codeAny_builtin F.entry_set_update_loop ?_
    rw [Around.under_plainId F.plain_set_update_loop _]
    show wpAny _ A.in1 (pyNext (.ref I) >>= _) _ _ s
    refine wpAny_bind (W.item i s _ _ hlt hst fun v s' hP hst' hm => ?_)
    obtain ⟨p, hp, rfl⟩ := hval i v hP
    have hkp' := kept hm hkp
    have u' := u.keep (fun o e => hm.heap S o hSw e) fun q hq => isR_keep (hk q hq) hkp'
    have hx : IsR P w s'.heap p.2 p.1 := isR_keep (hk p (List.mem_of_getElem? hp)) hkp'
    rcases u' with ⟨h4, L, es, ep, t, RL, pm, hl⟩ | ⟨h5', _⟩
    · have hnew : p.2 ∉ L.map (·.2) := fun hm2 => by
        rw [(pm.map (·.2)).mem_iff] at hm2
        obtain ⟨q, hq, e⟩ := List.mem_map.mp hm2
        obtain ⟨j, hj⟩ := List.getElem?_of_mem hq
        have hji : j < i := by
          have := (List.getElem?_eq_some_iff.mp hj).1
          rw [List.length_take] at this
          omega
        rw [List.getElem?_take_of_lt hji] at hj
        have a1 : (ks.map (·.2))[j]? = some p.2 := by rw [List.getElem?_map, hj, ← e]; rfl
        have a2 : (ks.map (·.2))[i]? = some p.2 := by rw [List.getElem?_map, hp]; rfl
        obtain ⟨b1, c1⟩ := List.getElem?_eq_some_iff.mp a1
        obtain ⟨b2, c2⟩ := List.getElem?_eq_some_iff.mp a2
        have := (List.getElem_inj nd).mp (c1.trans c2.symm)
        omega
      show wpAny _ A.in1 (holding [Value.ref p.1] (setAdd S (.ref p.1)) >>= _) _ _ s'
      refine wpAny_bind (wpAny_holding ?_)
      unfold setAdd
      refine wpAny_holding (wpAny_bind (wpAny_pyHash_tuple hu hx ?_))
      refine add_new (s := { s' with toks := s'.toks + (p.2.length + 1) }) RL hx hu hnew fun b h' hsb hM => ?_
      have hkp2 : ∀ b o, h0.get? b = some o → h'.get? b = some o := fun b o e => (hsb.2 b (fun z => by rw [z, hS0] at e; cases e)).trans (hkp' b o e)
      refine wpAny_pure ⟨plainId_quiet F.plain_set_update_loop _, ih (i + 1) _ (by omega) hlt (W.frame _ s' _ _ hst' (Nat.le_add_right _ _) fun b hb o e => ?_) hkp2 (Upto.next hp pm hl hM) fun s'' hm'' hS'' hkp'' => ?_⟩
      · rw [hsb.2 b (fun h : b = S => hSf (by rw [← h]; exact hb))]
        exact e
      · refine hR s'' (Moved.trans W.gtrans ((hm.mono sub).then_heap (Nat.le_add_right _ _) fun b o hb e => ?_) hm'') hS'' hkp''
        rw [hsb.2 b (fun h : b = S => hb (by rw [h]; exact List.mem_cons_self))]
        exact e
    · omega

abbrev emptySet (w : World) : Obj := { cls := .type "set", dict := none, data := .set #[] 0 (.fresh 0 0 (!w.params.followText "set-order")) }
/-- set(t), t a tuple of at most five tuples of texts, no two alike -/
theorem call_set_r {l : Addr} {items : Array Value} (ks : List (Addr × List Str)) {Q : Value → Shared → Prop} (hh : A.handled = none) (hl : s.heap.IsTuple l items) (hit : items.toList = ks.map fun p => Value.ref p.1)
    (hk : ∀ p ∈ ks, IsR P w s.heap p.2 p.1) (h5 : ks.length ≤ 5) (nd : (ks.map (·.2)).Nodup) (hu : A.units + 3 < cLine)
    (h : ∀ (h' : Heap) (tk : Nat), SetN h' s.heap.objs.size ks.length → (∀ b o, s.heap.get? b = some o → h'.get? b = some o) → Q (.ref s.heap.objs.size) { s with heap := h', toks := tk }) :
    wpAny (model P w) A (call (.type "set") [.ref l]) Q E s := by
  have hisz : items.size = ks.length := by
    have q := congrArg List.length hit
    rwa [Array.length_toList, List.length_map] at q
  obtain ⟨c, tl, hmro⟩ := F.called_set.mro
  have hmade := F.called_set.made
  have hsub := F.called_set.sub
  refine wpAny_call (codeAny_of_tree ?_)
  show wpAny _ _ (callAny (.type "set") _) _ _ _
  refine wpAny_pure ⟨Code.quiet_builtin _ (by decide +kernel), codeAny_builtin F.entry_type_call ?_⟩
  rw [Around.under_plain (weight_type_call_type "set" [.ref l] []) rfl]
  have h1 := F.called_set.notType
  have h2 := F.called_set.canCreate
  have hct := F.typeCall_set_1 (.ref l)
  repeat (any_goals (first | assumption | wp_step))
  refine codeAny_mono (code_set_led1 (.ref l) (E := E) (Q₁ := fun obj s₁ => obj = .ref s.heap.objs.size ∧ s₁ = { s with heap := s.heap.push (emptySet w) }) ⟨rfl, rfl⟩) fun r s₁ hr => ?_
  cases r with
  | error e => exact hr
  | ok fl =>
    cases fl with
    | ret obj =>
      obtain ⟨rfl, rfl⟩ := hr
      have hS : (s.heap.push (emptySet w)).get? s.heap.objs.size = some (emptySet w) := Heap.get?_push_size _ rfl
      have hT : Shared.TypeIs { s with heap := s.heap.push (emptySet w) } (.ref s.heap.objs.size) "set" := ⟨_, hS, rfl⟩
      have hli := F.called_set.init.lookup
      have hbi := F.called_set.init.bind (.ref s.heap.objs.size)
      repeat (any_goals (first | assumption | wp_step))
      refine codeAny_mono (codeAny_call_builtin (R := wants (fun r s₂ => r = .none ∧ ∃ h' tk, s₂ = { s with heap := h', toks := tk } ∧ SetN h' s.heap.objs.size ks.length ∧ (∀ b o, s.heap.get? b = some o → h'.get? b = some o)) E)
        F.called_set.init.plain F.entry_set_init (check_set_init_1 hT ?_)) fun r₂ s₂ hr₂ => ?_
      · obtain ⟨ol, hol, hcl, nl, hdl⟩ := hl
        obtain ⟨ocls, odict, odata, oslots⟩ := ol
        simp only at hcl hdl
        subst hcl; subst hdl
        have hol' : (s.heap.push (emptySet w)).get? l = some { cls := .type "tuple", dict := odict, data := .seq items nl, slots := oslots } := Heap.get?_push_of_some _ hol
        have hsls := F.sub_tuple_set
        have hslf := F.sub_tuple_frozenset
        have hne : (Value.type "tuple" == Value.type "dict") = false := by decide
        have hl1 : (s.heap.push (emptySet w)).IsTuple l items := ⟨_, hol', rfl, nl, rfl⟩
        unfold Builtin.«set.__init__» noKeywords Builtin.Frozenset.updateFrom
        generalize hPI : pyIter = PI
        wp_walk
        subst hPI
        refine wpAny_pyIter_tuple hl1 (wpAny_bind (wpAny_runValue ?_))
        have hlS : l < s.heap.objs.size := Heap.lt_size hol
        have hh3 : A.in1.in1.in1.handled = none := by simp [hh]
        have hz : (s.heap.push (emptySet w)).objs.size = s.heap.objs.size + 1 := Heap.size_push ..
        have hneI : l ≠ (s.heap.push (emptySet w)).objs.size := by
          rw [hz]
          exact Nat.ne_of_lt (Nat.lt_succ_of_lt hlS)
        have hSf : s.heap.objs.size ∉ [(s.heap.push (emptySet w)).objs.size, l] := by
          rw [hz]
          simp only [List.mem_cons, List.not_mem_nil, or_false, not_or]
          exact ⟨Nat.ne_of_lt (Nat.lt_succ_self _), Nat.ne_of_gt hlS⟩
        have hval : ∀ (i : Nat) (v : Value), items[i]? = some v → ∃ p, ks[i]? = some p ∧ v = .ref p.1 := fun i v hv => by
          rw [← Array.getElem?_toList, hit, List.getElem?_map] at hv
          obtain ⟨p, hp, rfl⟩ := Option.map_eq_some_iff.mp hv
          exact ⟨p, hp, rfl⟩
        have none_of : ∀ b, s.heap.objs.size ≤ b → s.heap.get? b = none := fun b hb => Heap.get?_none_of_le hb
        refine fill_loop ((Walks.tuple hh3 _ l hneI items).toS) s.heap.objs.size
          hSf ks hisz h5 nd hval s.heap hk (none_of _ (Nat.le_refl _)) (fun b hb => none_of b (by
            rw [List.mem_singleton.mp hb, hz]
            exact Nat.le_succ _)) hu (items.size - 0) 0 _ (by omega) (Nat.zero_le _)
          ⟨⟨_, Heap.get?_push_size _ rfl, rfl, rfl⟩, (hl1.push _)⟩ (fun b o e => Heap.get?_push_of_some _ (Heap.get?_push_of_some _ e)) (upto0 (Heap.get?_push_of_some _ hS)) ?_
        intro s' hm hS' hkp
        obtain ⟨h', g2, d', tk', os'⟩ := s'
        obtain rfl : g2 = s.gens := hm.gens
        obtain rfl : d' = s.drawn := hm.drawn
        obtain rfl : os' = s.os := hm.os
        show wpAny _ _ _ _ _ _
        refine wpAny_pure ?_
        show wpAny _ _ (ret Value.none) _ _ _
        rw [hisz] at hS'
        exact wpAny_pure ⟨rfl, h', tk', rfl, hS', hkp⟩
      · cases r₂ with
        | error e => exact hr₂
        | ok fl₂ =>
          cases fl₂ with
          | ret r =>
            obtain ⟨rfl, h', tk, rfl, hS', hk'⟩ := hr₂
            repeat (any_goals (first | assumption | wp_step))
            exact h _ _ hS' hk'
          | _ => exact hr₂.elim
    | _ => exact hr.elim
end
end Mf
set_option maxRecDepth 100000
set_option maxHeartbeats 2000000
/-! len(set(rules)), told of data. -/
namespace Mf
open PySem PySem.Spec PyProof.Rows L2
variable [Tt] [Xw]
abbrev SetO (a : Addr) (n : Nat) : HO := .ext fun h => SetN h a n
def rSetR (K : PySem.W.Frag) : List V → Hp → VK → Prop := fun xs H Q => ∃ (l : Addr) (ks : List (Addr × List Str)), xs = [V.ref l] ∧ SqT K H l (ks.map fun p => V.ref p.1) ∧ (∀ p ∈ ks, SqT K H p.1 (p.2.map V.str)) ∧ ks.length ≤ 5 ∧ (ks.map (·.2)).Nodup ∧
  ∀ a, H a = none → Q (.ref a) (upd H a (SetO a ks.length))
def rLenR : List V → Hp → VK → Prop := fun xs H Q => ∃ (a : Addr) (n : Nat), xs = [V.ref a] ∧ H a = some (SetO a n) ∧ n ≤ 5 ∧ Q (.int (n : Nat)) H
section
variable {X : Cx} {P : Program} {w : World}
theorem items_of {k : List Str} {us : List Value} (r : Vals (k.map V.str) us) : ItemsAre (strKind P w) k us := by
  induction k generalizing us with
  | nil =>
    cases r
    exact .nil
  | cons x k ih =>
    cases r with
    | cons r t =>
      obtain ⟨tk, rfl⟩ := r
      exact .cons (strKind_is P w x tk) (ih t)
theorem vals_refs : ∀ {ks : List (Addr × List Str)} {us : List Value}, Vals (ks.map fun p => V.ref p.1) us → us = ks.map fun p => Value.ref p.1
  | [], _, .nil => rfl
  | p :: ks, _, .cons r t => by
    cases r
    rw [vals_refs t]
    rfl
theorem cr_setR (hc : X.calm = true) (hu : X.A.units + 64 < cLine) : CallR X (.type "set") (rSetR X.K) := by
  intro pins s σ H xs us Q I r h
  obtain ⟨l, ks, rfl, hl, hk, h5, nd, q⟩ := h
  rw [Vals.ref1 r]
  obtain ⟨its, rv, ⟨ol, hol, hcl, nl, hdl⟩, hz⟩ := I.tuple hl
  have hn : H s.heap.objs.size = none := I.hok.fresh (Nat.le_refl _)
  refine call_set_r (P := X.prog) (w := X.w) ks (I.ok.hd hc) ⟨ol, hol, hcl, nl, hdl⟩ (by simpa using vals_refs rv) (fun p hp => ?_) h5 nd (by omega) fun h' tk hS hkp => ?_
  · obtain ⟨its2, r2, ⟨o, ho, hc2, n, hd⟩, _⟩ := I.tuple (hk p hp)
    exact ⟨o, its2.toArray, n, ho, hc2, hd, by simpa using items_of r2⟩
  · refine ⟨.ref s.heap.objs.size, upd H s.heap.objs.size (SetO s.heap.objs.size ks.length), I.laid (t' := tk) hkp (Nat.le_refl _) ⟨hS, ?_, ?_⟩, rfl, q _ hn⟩
    · obtain ⟨o, es, ep, t, ho, _⟩ := hS
      exact ⟨o, ho⟩
    · rintro h1 h2 ⟨o, es, ep, t, ho, r⟩ st
      exact ⟨o, es, ep, t, st _ ho, r⟩
theorem cr_lenR : CallR X (.builtin "len") rLenR := by
  intro pins s σ H xs us Q I r h
  obtain ⟨a, n, rfl, ha, h5, q⟩ := h
  rw [Vals.ref1 r]
  obtain ⟨⟨o, es, ep, t, ho, hx, hd, hes, hf⟩, _, _⟩ := I.hok a _ ha
  refine call_len_set ho hx hd hf (by rw [hes]; omega) ?_
  rw [hes]
  exact ⟨.int (n : Nat), H, I.tok _, ⟨_, rfl⟩, q⟩
variable {K : PySem.W.Frag} (hK : X.K = K)
include hK
theorem uSetR (hc : X.calm = true) (hu : X.A.units + 64 < cLine) : CallR X (.type "set") (rSetR K) := hK ▸ cr_setR hc hu
end
section
variable {μ : Mu} {te : TE} {ρ : DEnv} {Kf : PySem.W.Frag}
theorem rules_back {F : Hp} : ∀ {rs : List Rl} {vs : List V}, RepL F (rs.map eRule) vs → ∃ ks : List (Addr × List Str), vs = (ks.map fun p => V.ref p.1) ∧ ks.map (·.2) = rs.map (fun r => [r.1, r.2]) ∧ ∀ p ∈ ks, F p.1 = some (.tup (p.2.map V.str))
  | [], _, .nil => ⟨[], rfl, rfl, fun p h => by cases h⟩
  | r :: rs, _, .cons h t => by
    obtain ⟨ks, e1, e2, e3⟩ := rules_back t
    cases h with
    | @tup a xs _ h1 t1 =>
      have e := t1.strs (ns := [r.1, r.2])
      refine ⟨(a, [r.1, r.2]) :: ks, by rw [e1]; rfl, by rw [List.map_cons, e2]; rfl, fun p hp => ?_⟩
      rcases List.mem_cons.mp hp with rfl | hp
      · rw [h1, e]
      · exact e3 p hp
theorem ev_lenSet {rs : List Rl} (h : Ev μ te ρ (.tup (rs.map eRule))) (h5 : rs.length ≤ 5) (nd : rs.Nodup) : Ev μ (tCB rLenR (tCons (tCB (rSetR Kf) (tCons te tNil)) tNil)) ρ (.int (rs.length : Nat)) := fun σ F M H rs' rm w Q q =>
  h σ F M H rs' rm w _ fun v F1 H1 e1 w1 r1 => by
    cases r1 with
    | @tup l vs _ h1 t1 =>
      obtain ⟨ks, rfl, e2, e3⟩ := rules_back t1
      have hl : ks.length = rs.length := by
        have := congrArg List.length e2
        simpa using this
      refine ⟨l, ks, rfl, .inl (.inl (w1.f _ _ h1)), fun p hp => .inl (.inl (w1.f _ _ (e3 p hp))), by omega, ?_, fun a ha => ?_⟩
      · rw [e2]
        exact List.Pairwise.map _ (fun x y hxy e => hxy (by
          injection e with a b
          injection b with b _
          exact Prod.ext a b)) nd
      · show rLenR [V.ref a] _ Q
        refine ⟨a, ks.length, rfl, upd_same, by omega, ?_⟩
        rw [hl]
        exact q _ _ _ (e1.trans (w1.newS ha)) (w1.new ha) (.int _)
end
end Mf
set_option maxRecDepth 100000
set_option maxHeartbeats 4000000
/-! Meetfolk: is_folk .. need_one_ended. -/
namespace Mf
open PySem L2 PyProof.Rows
variable [Tt] [Xw]
local macro_rules
  | `(tactic| walk_at "rd") => `(tactic| first
    | exact rd_addI | refine rd_addL ?_ | refine rd_addS ?_ | exact rd_sub | refine rd_mulI ?_ | refine rd_mulL ?_ ?_ ?_ | refine rd_mulS ?_ ?_ ?_ | refine rd_div ?_ | refine rd_mod ?_ | refine rd_pow ?_ | exact ud_neg
    | exact rd_ltI | exact rd_leI | exact rd_gtI | exact rd_geI | exact rd_ltS | exact rd_leS | exact rd_eqI | exact rd_neI
    | exact rd_ixT rfl | exact rd_ixL rfl | exact cd_lenL | exact cd_lenT | exact cd_int | exact cd_abs | exact cd_tupL | exact cd_listL | exact cd_listT | exact cd_all | exact cd_any | exact cd_sumT | exact bd_count)
local macro_rules
  | `(tactic| walk_at "ev1") => `(tactic| first
    | exact ev_int | exact ev_str | exact ev_bl | exact ev_non | exact ea_nil | refine ea_cons ?_ ?_ | exact ev_var rfl | exact ev_ty
    | refine ev_op ?_ ?_ ?_ | refine ev_un ?_ ?_ | refine ev_cb ?_ ?_ | refine ev_tup ?_ (by decide) | refine ev_bm ?_ ?_ ?_
    | exact et_yes | refine et_test ?_ | refine et_B ?_ | refine et_or ?_ (fun _ => ?_) | refine et_and ?_ (fun _ => ?_) | refine ev_andV ?_ (fun _ => ?_) | refine ev_orV ?_ (fun _ => ?_) | refine ev_notV ?_ | refine ev_chain ?_ ?_ ?_ (fun _ => ?_) (fun _ => ?_) | refine et_not ?_ | exact eo_none | refine eo_some ?_ | walk_at "rd")
local macro_rules
  | `(tactic| walk_at "ev") => `(tactic| repeat' walk_at "ev1")

abbrev sIsFolk : Stmt := topS 20
theorem scIsFolk : FnScope ["value", "moods", "rules", "rule"] ["value"] (defScope sIsFolk) := ⟨rfl, rfl, rfl, by decide +kernel, rfl, by decide +kernel, by decide +kernel⟩
abbrev sNeedFolk : Stmt := topS 21
theorem scNeedFolk : FnScope ["value"] ["value"] (defScope sNeedFolk) := ⟨rfl, rfl, rfl, by decide +kernel, rfl, by decide +kernel, by decide +kernel⟩
abbrev sIsOneEnded : Stmt := topS 51
theorem scIsOneEnded : FnScope ["folk"] ["folk"] (defScope sIsOneEnded) := ⟨rfl, rfl, rfl, by decide +kernel, rfl, by decide +kernel, by decide +kernel⟩
abbrev sNeedOneEnded : Stmt := topS 52
theorem scNeedOneEnded : FnScope ["folk"] ["folk"] (defScope sNeedOneEnded) := ⟨rfl, rfl, rfl, by decide +kernel, rfl, by decide +kernel, by decide +kernel⟩
structure OkN (m : Str) (rs : List Rl) : Prop where
  d : OkD m rs
  nd : rs.Nodup
section
variable {P : Program} {w : World} {K : PySem.W.Frag} {mg : Str → Option Value} {base : Heap}
theorem ne_fst {r : Rl} {m : Str} {rs : List Rl} (h : OkF m rs) (hr : r ∈ rs) : r.1 ≠ r.2 := h.ne r hr
def fIsFolk (ds : List D) (d : D) : Prop := ∃ (m : Str) (rs : List Rl), ds = [eFolk m rs] ∧ d = .bl true ∧ OkN m rs
theorem dIsFolk (F : FunAt K mg "is_folk" sIsFolk ["value"]) (T : Bts mg) (C : Cst mg) (DIsMoods : Def P w K mg base CX0 "is_moods" 1 ["value"] [] (spF fIsMoods)) (DIsRule : Def P w K mg base CX0 "is_rule" 2 ["moods", "value"] [] (spF fIsRule)) :
    Def P w K mg base CX0 "is_folk" 3 ["value"] [] (spF fIsFolk) := by
  refine F.def_ scIsFolk (fun ds d h => ?_) (fun cdv A outer s H E f hr => ?_)
  · obtain ⟨m, rs, rfl, _⟩ := h
    rfl
  · refine ⟨_, (pss_cons (ps_if (PW.pt (pw_or (pt_not (pt_val (pe_callB (uIsi K rfl) (by rfl) T.isinstance (by decide +kernel) (pa_cons (pv 0) (pa_cons (pe_bltn (v := .ty "tuple") (by rfl) T.tuple (by decide +kernel) rfl) pa_nil))))) (pw_or (pt_cmpR (uNe K rfl (hu64 hr)) (pe_callB (uLen K rfl) (by rfl) T.len (by decide +kernel) (pa_cons (pv 0) pa_nil)) pe_int (nomark _)) (pw_or1 (pt_not (pt_val (pe_def DIsMoods hr (by decide) (by rfl) pass0 (pa_cons (pe_ix (uIx K rfl) (pv 0) pe_int (fun _ _ => rfl)) pa_nil)))))))) (pss_one (ps_ret pe_bl)) pss_nil)
      (pss_cons (ps_asg (pv 0) (uGtup K rfl (pg_tup rfl (pgs_cons (pg_name (i := 1) scIsFolk.nd rfl (by first | exact Or.inl rfl | exact Or.inr rfl)) (pgs_cons (pg_name (i := 2) scIsFolk.nd rfl (by first | exact Or.inl rfl | exact Or.inr rfl)) pgs_nil)))))
      (pss_cons (ps_if (PW.pt (pw_or (pt_not (pt_val (pe_callB (uIsi K rfl) (by rfl) T.isinstance (by decide +kernel) (pa_cons (pv 2) (pa_cons (pe_bltn (v := .ty "tuple") (by rfl) T.tuple (by decide +kernel) rfl) pa_nil))))) (pw_or (pt_cmpR op_gtU (pe_callB (uLen K rfl) (by rfl) T.len (by decide +kernel) (pa_cons (pv 2) pa_nil)) (pe_gint (by rfl) C.MOST_RULES) (nomark _)) (pw_or1 (pt_not (pt_val (pe_callB (uAll K rfl rfl) (by rfl) T.all (by decide +kernel) (pa_cons (pe_lc (own := [("rule", 3)]) (g := (gName 3)) (tt := tYes) rfl scIsFolk.nd (uSeq K rfl (pv 2)) (blkOk_by (N := ["value", "moods", "rules", "rule"]) (sc := (defScope sIsFolk)) (by decide +kernel)) (fun _ _ _ _ _ => (pg_name (i := 3) scIsFolk.nd rfl (by first | exact Or.inl rfl | exact Or.inr rfl))) (fun _ _ _ _ _ => pts_nil) (fun _ _ _ _ _ => (pe_def DIsRule hr (by decide) (by rfl) pass0 (pa_cons (pv 1) (pa_cons (pv 3) pa_nil))))) pa_nil)))))))) (pss_one (ps_ret pe_bl)) pss_nil)
      (pss_one (ps_ret (pe_cmpR (uEq K rfl (hu64 hr)) (pe_callB cr_lenR (by rfl) T.len (by decide +kernel) (pa_cons (pe_callTy (uSetR (K := K) rfl rfl (hu64 hr)) (by rfl) T.set (by decide +kernel) (pa_cons (pv 2) pa_nil)) pa_nil)) (pe_callB (uLen K rfl) (by rfl) T.len (by decide +kernel) (pa_cons (pv 2) pa_nil)) (nomark _))))))), fun ds d h => ?_⟩
    obtain ⟨m, rs, rfl, rfl, hn⟩ := h
    have h5 := hn.d.five
    have hf := hn.d.ok
    refine q_if (b := false) (EvT.is (et_or (et_not (et_B (ev_cb (ea_cons (ev_var rfl) (ea_cons ev_ty ea_nil)) (cd_isi rfl (by simp [dty]))))) fun _ => et_or (et_test (ev_op (ev_cb (ea_cons (ev_var rfl) ea_nil) cd_lenT) ev_int rd_neI)) fun _ => et_not (et_B (ev_call0 (ea_cons (ev_op (ev_var rfl) ev_int (rd_ixT rfl)) ea_nil) (spD ⟨m, rfl, rfl, hf.moods⟩)))) rfl) (fun h => by cases h) fun _ => ?_
    refine q_next (q_asg (ev_var rfl) asg_tup2 ?_)
    refine q_if (b := false) (EvT.is (et_or (et_not (et_B (ev_cb (ea_cons (ev_var rfl) (ea_cons ev_ty ea_nil)) (cd_isi rfl (by simp [dty]))))) fun _ => et_or (et_test (ev_op (ev_cb (ea_cons (ev_var rfl) ea_nil) cd_lenT) ev_int rd_gtI)) fun _ => et_not (et_B (ev_all (xs := rs) (enc := eRule) (p := fun _ => true) (ei_seqT (ev_var rfl)) (by simp) (fun x _ => asg_name) (fun x hx => ev_call0 (ea_cons (ev_var rfl) (ea_cons (ev_var rfl) ea_nil)) (spD ⟨m, x, rfl, rfl, hf.moods, hf.one x hx, hf.two x hx, ne_fst hf hx⟩)) (by omega)))) ?_) (fun h => by cases h) fun _ => ?_
    · rw [List.length_map, List.all_eq_true.mpr fun _ _ => rfl, decide_eq_false (by omega)]
      rfl
    · refine q_next (sv_ret (d := .bl true) (Ev.is (ev_op (ev_lenSet (ev_var rfl) h5 hn.nd) (ev_cb (ea_cons (ev_var rfl) ea_nil) cd_lenT) rd_eqI) ?_) rfl)
      rw [List.length_map, decide_eq_true rfl]
def fNeedFolk (ds : List D) (d : D) : Prop := ∃ (m : Str) (rs : List Rl), ds = [eFolk m rs] ∧ d = .non ∧ OkN m rs
theorem dNeedFolk (F : FunAt K mg "need_folk" sNeedFolk ["value"]) (DIsFolk : Def P w K mg base CX0 "is_folk" 3 ["value"] [] (spF fIsFolk)) : Def P w K mg base CX0 "need_folk" 4 ["value"] [] (spF fNeedFolk) := by
  refine F.def_ scNeedFolk (fun ds d h => ?_) (fun cdv A outer s H E f hr => ?_)
  · obtain ⟨m, rs, rfl, _⟩ := h
    rfl
  · refine ⟨_, (pss_one (ps_if (pt_not (pt_val (pe_def DIsFolk hr (by decide) (by rfl) pass0 (pa_cons (pv 0) pa_nil)))) (pss_one ps_never) pss_nil)), fun ds d h => ?_⟩
    obtain ⟨m, rs, rfl, rfl, hh⟩ := h
    exact sv_if (b := false) (EvT.is (et_not (et_B (ev_call0 (ea_cons (ev_var rfl) ea_nil) (spD ⟨m, rs, rfl, rfl, hh⟩)))) rfl) (fun h => by cases h) fun _ => sv_next rfl
def fAlways (ds : List D) (d : D) : Prop := ∃ (m : Str) (rs : List Rl), ds = [eFolk m rs] ∧ d = .bl (rests m rs) ∧ OkN m rs
theorem dAlwaysRests (F : FunAt K mg "always_rests" sAlwaysRests ["folk"]) (DNeedFolk : Def P w K mg base CX0 "need_folk" 4 ["value"] [] (spF fNeedFolk)) (DDoesRest : Def P w K mg base CX0 "does_rest" 7 ["folk"] [] (spF fDoesRest)) :
    Def P w K mg base CX0 "always_rests" 8 ["folk"] [] (spF fAlways) := by
  refine F.def_ scAlwaysRests (fun ds d h => ?_) (fun cdv A outer s H E f hr => ?_)
  · obtain ⟨m, rs, rfl, _⟩ := h
    rfl
  · refine ⟨_, (pss_cons (ps_expr (pe_def DNeedFolk hr (by decide) (by rfl) pass0 (pa_cons (pv 0) pa_nil)))
      (pss_one (ps_ret (pe_def DDoesRest hr (by decide) (by rfl) pass0 (pa_cons (pv 0) pa_nil))))), fun ds d h => ?_⟩
    obtain ⟨m, rs, rfl, rfl, hh⟩ := h
    refine q_drop (ev_call0 (ea_cons (ev_var rfl) ea_nil) (spD ⟨m, rs, rfl, rfl, hh⟩)) ?_
    exact sv_ret (ev_call0 (ea_cons (ev_var rfl) ea_nil) (spD ⟨m, rs, rfl, rfl, hh.d.ok, hh.d.five⟩)) rfl
def fNeedRest (ds : List D) (d : D) : Prop := ∃ (m : Str) (rs : List Rl), ds = [eFolk m rs] ∧ d = .non ∧ OkN m rs ∧ rests m rs = true
theorem dNeedRest (F : FunAt K mg "need_rest" sNeedRest ["folk"]) (DNeedFolk : Def P w K mg base CX0 "need_folk" 4 ["value"] [] (spF fNeedFolk)) (DDoesRest : Def P w K mg base CX0 "does_rest" 7 ["folk"] [] (spF fDoesRest)) :
    Def P w K mg base CX0 "need_rest" 8 ["folk"] [] (spF fNeedRest) := by
  refine F.def_ scNeedRest (fun ds d h => ?_) (fun cdv A outer s H E f hr => ?_)
  · obtain ⟨m, rs, rfl, _⟩ := h
    rfl
  · refine ⟨_, (pss_cons (ps_expr (pe_def DNeedFolk hr (by decide) (by rfl) pass0 (pa_cons (pv 0) pa_nil)))
      (pss_one (ps_if (pt_not (pt_val (pe_def DDoesRest hr (by decide) (by rfl) pass0 (pa_cons (pv 0) pa_nil)))) (pss_one ps_never) pss_nil))), fun ds d h => ?_⟩
    obtain ⟨m, rs, rfl, rfl, hh, h1⟩ := h
    refine q_drop (ev_call0 (ea_cons (ev_var rfl) ea_nil) (spD ⟨m, rs, rfl, rfl, hh⟩)) ?_
    refine sv_if (b := false) (EvT.is (et_not (et_B (ev_call0 (ea_cons (ev_var rfl) ea_nil) (spD ⟨m, rs, rfl, rfl, hh.d.ok, hh.d.five⟩)))) ?_) (fun h => by cases h) fun _ => sv_next rfl
    rw [h1]
    rfl
theorem part_isN {m : Str} {rs : List Rl} {μ : Mu} : RD μ rIsNU (partD m rs) .non (.bl (partG m rs).isNone) := by
  unfold partD
  cases partG m rs with
  | none => exact rd_isN1
  | some c => exact rd_isN fun e => by cases e
def fOneEnded (ds : List D) (d : D) : Prop := ∃ (m : Str) (rs : List Rl), ds = [eFolk m rs] ∧ d = .bl (partG m rs).isNone ∧ OkN m rs ∧ rests m rs = true
theorem dIsOneEnded (F : FunAt K mg "is_one_ended" sIsOneEnded ["folk"]) (DNeedRest : Def P w K mg base CX0 "need_rest" 8 ["folk"] [] (spF fNeedRest)) (DPartingOf : Def P w K mg base CX0 "parting_of" 7 ["folk"] [] (spF fPart)) :
    Def P w K mg base CX0 "is_one_ended" 9 ["folk"] [] (spF fOneEnded) := by
  refine F.def_ scIsOneEnded (fun ds d h => ?_) (fun cdv A outer s H E f hr => ?_)
  · obtain ⟨m, rs, rfl, _⟩ := h
    rfl
  · refine ⟨_, (pss_cons (ps_expr (pe_def DNeedRest hr (by decide) (by rfl) pass0 (pa_cons (pv 0) pa_nil)))
      (pss_one (ps_ret (pe_cmpR uIsN (pe_def DPartingOf hr (by decide) (by rfl) pass0 (pa_cons (pv 0) pa_nil)) pe_non (nomark _))))), fun ds d h => ?_⟩
    obtain ⟨m, rs, rfl, rfl, hh, h1⟩ := h
    refine q_drop (ev_call0 (ea_cons (ev_var rfl) ea_nil) (spD ⟨m, rs, rfl, rfl, hh, h1⟩)) ?_
    exact sv_ret (ev_op (ev_call0 (ea_cons (ev_var rfl) ea_nil) (spD ⟨m, rs, rfl, rfl, hh.d⟩)) ev_non part_isN) rfl
def fNeedOne (ds : List D) (d : D) : Prop := ∃ (m : Str) (rs : List Rl), ds = [eFolk m rs] ∧ d = .non ∧ OkN m rs ∧ rests m rs = true ∧ partG m rs = none
theorem dNeedOneEnded (F : FunAt K mg "need_one_ended" sNeedOneEnded ["folk"]) (DNeedRest : Def P w K mg base CX0 "need_rest" 8 ["folk"] [] (spF fNeedRest)) (DPartingOf : Def P w K mg base CX0 "parting_of" 7 ["folk"] [] (spF fPart)) :
    Def P w K mg base CX0 "need_one_ended" 9 ["folk"] [] (spF fNeedOne) := by
  refine F.def_ scNeedOneEnded (fun ds d h => ?_) (fun cdv A outer s H E f hr => ?_)
  · obtain ⟨m, rs, rfl, _⟩ := h
    rfl
  · refine ⟨_, (pss_cons (ps_expr (pe_def DNeedRest hr (by decide) (by rfl) pass0 (pa_cons (pv 0) pa_nil)))
      (pss_one (ps_if (pt_cmpR uNotN (pe_def DPartingOf hr (by decide) (by rfl) pass0 (pa_cons (pv 0) pa_nil)) pe_non (nomark _)) (pss_one ps_never) pss_nil))), fun ds d h => ?_⟩
    obtain ⟨m, rs, rfl, rfl, hh, h1, h2⟩ := h
    refine q_drop (ev_call0 (ea_cons (ev_var rfl) ea_nil) (spD ⟨m, rs, rfl, rfl, hh, h1⟩)) ?_
    refine sv_if (b := false) (et_test (ev_op (ev_call0 (ea_cons (ev_var rfl) ea_nil) (spD ⟨m, rs, rfl, rfl, hh.d⟩)) ev_non ?_)) (fun h => by cases h) fun _ => sv_next rfl
    unfold partD
    rw [h2]
    exact rd_notN1
end
end Mf
set_option maxRecDepth 100000
set_option maxHeartbeats 4000000
/-! Meetfolk, plain: what stands on a ray, and the ray that is found. -/
namespace Mf
open PySem L2 Sy
variable [Tt] [Xw]
def endT (m : Str) (rs : List Rl) (c : Cwd) : Cwd := match leapsOf m rs c with
  | some (_, d) => d
  | none => []
def endsN (m : Str) (rs : List Rl) (c st : Cwd) : Nat → Cwd
  | 0 => endT m rs c
  | n + 1 => endT m rs (pluz (endsN m rs c st n) st 1)
def inN (m : Str) (rs : List Rl) (c st : Cwd) : Nat → Cwd
  | 0 => c
  | n + 1 => pluz (endsN m rs c st n) st 1
def gainz (e : Nat → Cwd) (last q : Nat) : Cwd := ((e last).zip (e (last - q))).map fun p => p.1 - p.2
def rayOk (m : Str) (rs : List Rl) (e : Nat → Cwd) (last q : Nat) : Bool := (gainz e last q).all (fun x => decide (0 ≤ x)) && stayz m rs ((List.range' (last - q) q).map e) (gainz e last q)
def rayAt (m : Str) (rs : List Rl) (e : Nat → Cwd) (last : Nat) : Option (Nat × Nat × Cwd) := (List.range last).findSome? fun b => if rayOk m rs e last (b + 1) = true then some (last - (b + 1), b + 1, gainz e last (b + 1)) else none
def rayT (m : Str) (rs : List Rl) (e : Nat → Cwd) : Option (Nat × Nat × Cwd) := (List.range 40).findSome? fun a => rayAt m rs e (a + 1)
/-- what a ray is asked of -/
structure RayH (m : Str) (rs : List Rl) (c st : Cwd) : Prop where
  d : OkD m rs
  c4 : c.sum ≤ 4
  c : OkC m c
  s : OkC m st
  s3 : st.sum ≤ 3
theorem endsN_eq (m : Str) (rs : List Rl) (c st : Cwd) (n : Nat) : endsN m rs c st n = endT m rs (inN m rs c st n) := by
  cases n <;> rfl
theorem sum_pluz : ∀ {a b : List Int} (k : Int), a.length = b.length → (pluz a b k).sum = a.sum + k * b.sum
  | [], [], k, _ => by simp [pluz]
  | x :: a, y :: b, k, h => by
    have ih := sum_pluz (a := a) (b := b) k (by simpa using h)
    unfold pluz at ih ⊢
    rw [List.zip_cons_cons, List.map_cons, List.sum_cons, ih, List.sum_cons, List.sum_cons, Int.mul_add]
    show x + k * y + _ = _
    omega
theorem pluz_ok {m : Str} {a b : Cwd} (ha : OkC m a) (hb : OkC m b) {k : Int} (hk : 0 ≤ k) : OkC m (pluz a b k) := by
  refine ⟨?_, fun x hx => ?_⟩
  · unfold pluz
    rw [List.length_map, List.length_zip, ha.len, hb.len, Nat.min_self]
  · obtain ⟨p, hp, rfl⟩ := List.mem_map.mp hx
    obtain ⟨h1, h2⟩ := List.of_mem_zip hp
    have := ha.nn _ h1
    have := Int.mul_nonneg hk (hb.nn _ h2)
    omega
section
variable {m : Str} {rs : List Rl} {c st : Cwd}
theorem endT_ok {d : Cwd} (hd : OkD m rs) (hc : OkC m d) (h : d.sum ≤ 5000) : ∃ l, leapsOf m rs d = some (l, endT m rs d) ∧ OkC m (endT m rs d) ∧ (endT m rs d).sum = d.sum ∧ (sysOf m rs).Rch (fn d) (fn (endT m rs d)) ∧ (sysOf m rs).Rest (fn (endT m rs d)) := by
  obtain ⟨l, e, h1⟩ := leapsOf_some hd hc h
  have e2 : endT m rs d = e := by
    unfold endT
    rw [h1]
  obtain ⟨a1, a2, a3, a4⟩ := leapsOf_spec hd hc h1
  rw [e2]
  exact ⟨l, h1, a1, a4, a2, a3⟩
theorem sum_nn0 : ∀ {l : List Int}, (∀ x ∈ l, 0 ≤ x) → 0 ≤ l.sum
  | [], _ => by decide
  | a :: l, h => by
    have h1 := h a List.mem_cons_self
    have h2 := sum_nn0 (l := l) fun x hx => h x (List.mem_cons_of_mem _ hx)
    rw [List.sum_cons]
    omega
theorem RayH.in_ (h : RayH m rs c st) : ∀ n : Nat, n ≤ 1000 → OkC m (inN m rs c st n) ∧ (inN m rs c st n).sum = c.sum + n * st.sum ∧ (inN m rs c st n).sum ≤ 5000
  | 0, _ => ⟨h.c, by simp [inN], by
      have := h.c4
      show c.sum ≤ 5000
      omega⟩
  | n + 1, hn => by
    obtain ⟨h1, h2, h3⟩ := RayH.in_ h n (by omega)
    obtain ⟨l, _, b1, b2, _⟩ := endT_ok h.d h1 h3
    have e : inN m rs c st (n + 1) = pluz (endT m rs (inN m rs c st n)) st 1 := by rw [← endsN_eq]; rfl
    have hs : (inN m rs c st (n + 1)).sum = c.sum + (n + 1 : Nat) * st.sum := by
      rw [e, sum_pluz 1 (by rw [b1.len, h.s.len]), b2, h2, Int.natCast_add, Int.add_mul]
      omega
    refine ⟨by rw [e]; exact pluz_ok b1 h.s (by decide), hs, ?_⟩
    rw [hs]
    have s0 := sum_nn0 h.s.nn
    have h4 := h.c4
    have h5 := h.s3
    have : ((n + 1 : Nat) : Int) * st.sum ≤ 1000 * 3 := Int.mul_le_mul (by omega) h5 s0 (by decide)
    omega
theorem RayH.end_ (h : RayH m rs c st) {n : Nat} (hn : n ≤ 1000) : ∃ l, leapsOf m rs (inN m rs c st n) = some (l, endsN m rs c st n) ∧ OkC m (endsN m rs c st n) ∧ (endsN m rs c st n).sum = c.sum + n * st.sum ∧ (endsN m rs c st n).sum ≤ 5000 := by
  obtain ⟨h1, h2, h3⟩ := h.in_ n hn
  obtain ⟨l, a, b, e, _⟩ := endT_ok h.d h1 h3
  rw [endsN_eq]
  exact ⟨l, a, b, by rw [e, h2], by rw [e]; exact h3⟩
theorem gainz_len (h : RayH m rs c st) {last q : Nat} (hl : last ≤ 1000) : (gainz (endsN m rs c st) last q).length = m.length := by
  obtain ⟨_, _, h1, _⟩ := h.end_ hl
  obtain ⟨_, _, h2, _⟩ := h.end_ (n := last - q) (by omega)
  unfold gainz
  rw [List.length_map, List.length_zip, h1.len, h2.len, Nat.min_self]
end
end Mf
set_option maxRecDepth 100000
set_option maxHeartbeats 4000000
/-! Meetfolk: end, need_ray, ray_of, ray, on_ray. -/
namespace Mf
open PySem L2 PyProof.Rows
section
variable [Tt]
local macro_rules
  | `(tactic| walk_at "rd") => `(tactic| first
    | exact rd_addI | refine rd_addL ?_ | refine rd_addS ?_ | exact rd_sub | refine rd_mulI ?_ | refine rd_mulL ?_ ?_ ?_ | refine rd_mulS ?_ ?_ ?_ | refine rd_div ?_ | refine rd_mod ?_ | refine rd_pow ?_ | exact ud_neg
    | exact rd_ltI | exact rd_leI | exact rd_gtI | exact rd_geI | exact rd_ltS | exact rd_leS | exact rd_eqI | exact rd_neI
    | exact rd_ixT rfl | exact rd_ixL rfl | exact cd_lenL | exact cd_lenT | exact cd_int | exact cd_abs | exact cd_tupL | exact cd_listL | exact cd_listT | exact cd_all | exact cd_any | exact cd_sumT | exact bd_count)
local macro_rules
  | `(tactic| walk_at "ev1") => `(tactic| first
    | exact ev_int | exact ev_str | exact ev_bl | exact ev_non | exact ea_nil | refine ea_cons ?_ ?_ | exact ev_var rfl | exact ev_ty
    | refine ev_op ?_ ?_ ?_ | refine ev_un ?_ ?_ | refine ev_cb ?_ ?_ | refine ev_tup ?_ (by decide) | refine ev_bm ?_ ?_ ?_
    | exact et_yes | refine et_test ?_ | refine et_B ?_ | refine et_or ?_ (fun _ => ?_) | refine et_and ?_ (fun _ => ?_) | refine ev_andV ?_ (fun _ => ?_) | refine ev_orV ?_ (fun _ => ?_) | refine ev_notV ?_ | refine ev_chain ?_ ?_ ?_ (fun _ => ?_) (fun _ => ?_) | refine et_not ?_ | exact eo_none | refine eo_some ?_ | walk_at "rd")
local macro_rules
  | `(tactic| walk_at "ev") => `(tactic| repeat' walk_at "ev1")

abbrev sEnd : Stmt := topS 55
theorem scEnd : FnScope ["folk", "crowd"] ["folk", "crowd"] (defScope sEnd) := ⟨rfl, rfl, rfl, by decide +kernel, rfl, by decide +kernel, by decide +kernel⟩
abbrev sNeedRay : Stmt := topS 63
theorem scNeedRay : FnScope ["folk", "crowd", "step"] ["folk", "crowd", "step"] (defScope sNeedRay) := ⟨rfl, rfl, rfl, by decide +kernel, rfl, by decide +kernel, by decide +kernel⟩
abbrev sRayOf : Stmt := topS 62
theorem scRayOf : FnScope ["folk", "crowd", "step", "found", "turn", "last", "q", "p", "gains", "many", "old"] ["folk", "crowd", "step"] (defScope sRayOf) := ⟨rfl, rfl, rfl, by decide +kernel, rfl, by decide +kernel, by decide +kernel⟩
abbrev sRay : Stmt := topS 64
theorem scRay : FnScope ["folk", "crowd", "step"] ["folk", "crowd", "step"] (defScope sRay) := ⟨rfl, rfl, rfl, by decide +kernel, rfl, by decide +kernel, by decide +kernel⟩
abbrev sOnRay : Stmt := topS 65
theorem scOnRay : FnScope ["folk", "crowd", "step", "k", "found", "told", "p", "q", "gains"] ["folk", "crowd", "step", "k"] (defScope sOnRay) := ⟨rfl, rfl, rfl, by decide +kernel, rfl, by decide +kernel, by decide +kernel⟩
/-- folk that rest, with one end -/
structure OkE (m : Str) (rs : List Rl) : Prop where
  n : OkN m rs
  rest : rests m rs = true
  one : partG m rs = none
def endOut (CT : Addr) (o : Option (List (Rl × Int) × List Int)) : Out := match o with
  | some (_, d) => .val (eCrowd d)
  | none => .exc ⟨CT, some ("most", 5000)⟩
variable {P : Program} {w : World} {K : PySem.W.Frag} {mg : Str → Option Value} {base : Heap} {CT CN : Addr}
def fEnd (CT : Addr) (ds : List D) (o : Out) : Prop := ∃ (m : Str) (rs : List Rl) (c : List Int), ds = [eFolk m rs, eCrowd c] ∧ o = endOut CT (leapsOf m rs c) ∧ OkE m rs ∧ OkC m c ∧ c.sum ≤ 10 ^ 40
theorem dEnd (F : FunAt K mg "end" sEnd ["folk", "crowd"]) (DNeedOneEnded : Def P w K mg base CX0 "need_one_ended" 9 ["folk"] [] (spF fNeedOne)) (DNeedCrowd : Def P w K mg base CX0 "need_crowd" 4 ["folk", "value"] [] (spF fNeedCrowd))
    (DLeapsOf : Def P w K mg base (L2.CX P w) "leaps_of" 5 ["folk", "crowd"] [] (spX (fLeaps CT))) : Def P w K mg base (L2.CX P w) "end" 10 ["folk", "crowd"] [] (spX (fEnd CT)) := by
  refine F.defX scEnd (fun ds o h => ?_) (fun cdv A outer s H E f hr => ?_)
  · obtain ⟨m, rs, c, rfl, _⟩ := h
    rfl
  · letI : Xw := ⟨E⟩
    refine ⟨_, (pss_cons (ps_expr (pe_def DNeedOneEnded hr (by decide) (by rfl) pass0 (pa_cons (pv 0) pa_nil)))
      (pss_cons (ps_expr (pe_def DNeedCrowd hr (by decide) (by rfl) pass0 (pa_cons (pv 0) (pa_cons (pv 1) pa_nil))))
      (pss_one (ps_ret (pe_ix (uIx K rfl) (pe_def DLeapsOf hr (by decide) (by rfl) (passes_call (takes_of rfl rfl rfl rfl) (fun _ _ _ _ h => h)) (pa_cons (pv 0) (pa_cons (pv 1) pa_nil))) pe_int (fun _ _ => rfl)))))), ?_⟩
    intro ds o h
    obtain ⟨m, rs, c, rfl, rfl, he, hc, hs⟩ := h
    have h6 := he.n.d.ok.moods.l6
    refine q_drop (ev_call0 (ea_cons (ev_var rfl) ea_nil) (spD ⟨m, rs, rfl, rfl, he.n, he.rest, he.one⟩)) ?_
    refine q_drop (ev_call0 (ea_cons (ev_var rfl) (ea_cons (ev_var rfl) ea_nil)) (spD ⟨m, rs, c, rfl, rfl, h6, hc, fun x hx => Int.le_trans (sum_nn hc.nn x hx) hs⟩)) ?_
    cases hl : leapsOf m rs c with
    | some p =>
      obtain ⟨l, d⟩ := p
      exact sv_ret (d := eCrowd d) (ev_op (ev_call0 (ea_cons (ev_var rfl) (ea_cons (ev_var rfl) ea_nil)) (spXD (d := .tup [.lst (l.map eLeap), eCrowd d]) ⟨m, rs, c, rfl, by rw [hl]; rfl, he.n.d, hc, hs⟩)) ev_int (rd_ixT rfl)) rfl
    | none =>
      exact sv_retR (x := ⟨CT, some ("most", 5000)⟩) (er_op (er_call0 (ea_cons (ev_var rfl) (ea_cons (ev_var rfl) ea_nil)) ⟨m, rs, c, rfl, by rw [hl]; rfl, he.n.d, hc, hs⟩)) rfl
end
section
variable [Tt] [Xw]
variable {P : Program} {w : World} {K : PySem.W.Frag} {mg : Str → Option Value} {base : Heap} {CT CN : Addr}
abbrev crowdsN (m : Str) (rs : List Rl) (c st : Cwd) (n : Nat) : List Cwd := (List.range n).map (endsN m rs c st)
theorem at_found {m : Str} {rs : List Rl} {c st : Cwd} {n k : Nat} (hk : k < n) : atI ((crowdsN m rs c st n).map eCrowd) (k : Int) = some (eCrowd (endsN m rs c st k)) := by
  rw [atI_getD (by rw [List.length_map, List.length_map, List.length_range]; exact hk) .non, List.getD_eq_getElem?_getD, List.getElem?_map, List.getElem?_map, List.getElem?_range hk]
  rfl
theorem cut_found {m : Str} {rs : List Rl} {c st : Cwd} {n p q : Nat} (h : p + q ≤ n) : cutD ((crowdsN m rs c st n).map eCrowd) (some (p : Int)) (some ((p + q : Nat) : Int)) = .map eCrowd ((List.range' p q).map (endsN m rs c st)) := by
  rw [cutD_mid (by rw [List.length_map, List.length_map, List.length_range]; exact h) (Nat.le_add_right p q), ← List.map_drop, ← List.map_take]
  congr 1
  unfold crowdsN
  rw [← List.map_drop, ← List.map_take]
  congr 1
  refine List.ext_getElem (by rw [List.length_take, List.length_drop, List.length_range, List.length_range']; omega) fun i h1 h2 => ?_
  rw [List.getElem_take, List.getElem_drop, List.getElem_range, List.getElem_range']
  omega
theorem find_one {α : Type} {f : Nat → Option α} {n a : Nat} {t : α} (ha : a < n) (h : f a = some t) (hno : ∀ b, b < a → f b = none) : (List.range n).findSome? f = some t := by
  obtain ⟨k, rfl⟩ : ∃ k, n = a + (k + 1) := ⟨n - a - 1, by omega⟩
  rw [List.range_add, List.findSome?_append, List.findSome?_eq_none_iff.mpr (fun b hb => hno b (List.mem_range.mp hb)), List.range_succ_eq_map]
  simp [h]
def fNeedRay (ds : List D) (d : D) : Prop := ∃ (m : Str) (rs : List Rl) (c st : List Int), ds = [eFolk m rs, eCrowd c, eCrowd st] ∧ d = .non ∧ OkE m rs ∧ OkC m c ∧ OkC m st ∧ c.sum ≤ 10 ^ 40 ∧ st.sum ≤ 10 ^ 40
theorem dNeedRay (F : FunAt K mg "need_ray" sNeedRay ["folk", "crowd", "step"]) (DNeedOneEnded : Def P w K mg base CX0 "need_one_ended" 9 ["folk"] [] (spF fNeedOne)) (DNeedCrowd : Def P w K mg base CX0 "need_crowd" 4 ["folk", "value"] [] (spF fNeedCrowd)) :
    Def P w K mg base CX0 "need_ray" 10 ["folk", "crowd", "step"] [] (spF fNeedRay) := by
  refine F.def_ scNeedRay (fun ds d h => ?_) (fun cdv A outer s H E f hr => ?_)
  · obtain ⟨m, rs, c, st, rfl, _⟩ := h
    rfl
  · refine ⟨_, (pss_cons (ps_expr (pe_def DNeedOneEnded hr (by decide) (by rfl) pass0 (pa_cons (pv 0) pa_nil)))
      (pss_cons (ps_expr (pe_def DNeedCrowd hr (by decide) (by rfl) pass0 (pa_cons (pv 0) (pa_cons (pv 1) pa_nil))))
      (pss_one (ps_expr (pe_def DNeedCrowd hr (by decide) (by rfl) pass0 (pa_cons (pv 0) (pa_cons (pv 2) pa_nil))))))), fun ds d h => ?_⟩
    obtain ⟨m, rs, c, st, rfl, rfl, he, hc, hst, h1, h2⟩ := h
    have h6 := he.n.d.ok.moods.l6
    refine q_drop (ev_call0 (ea_cons (ev_var rfl) ea_nil) (spD ⟨m, rs, rfl, rfl, he.n, he.rest, he.one⟩)) ?_
    refine q_drop (ev_call0 (ea_cons (ev_var rfl) (ea_cons (ev_var rfl) ea_nil)) (spD ⟨m, rs, c, rfl, rfl, h6, hc, fun x hx => Int.le_trans (sum_nn hc.nn x hx) h1⟩)) ?_
    exact sv_drop (ev_call0 (ea_cons (ev_var rfl) (ea_cons (ev_var rfl) ea_nil)) (spD ⟨m, rs, st, rfl, rfl, h6, hst, fun x hx => Int.le_trans (sum_nn hst.nn x hx) h2⟩)) rfl
end
section
variable [Tt]
variable {P : Program} {w : World} {K : PySem.W.Frag} {mg : Str → Option Value} {base : Heap} {CT CN : Addr}
def rayD (m : Str) (rs : List Rl) (c st : Cwd) (t : Nat × Nat × Cwd) : D := .tup [.lst ((crowdsN m rs c st 41).map eCrowd), .tup [.int (t.1 : Nat), .int (t.2.1 : Nat), eCrowd t.2.2]]
def rayOut (CN : Addr) (m : Str) (rs : List Rl) (c st : Cwd) : Out := match rayT m rs (endsN m rs c st) with
  | some t => .val (rayD m rs c st t)
  | none => .exc ⟨CN, none⟩
def fRayOf (CN : Addr) (ds : List D) (o : Out) : Prop := ∃ (m : Str) (rs : List Rl) (c st : List Int), ds = [eFolk m rs, eCrowd c, eCrowd st] ∧ o = rayOut CN m rs c st ∧ RayH m rs c st
theorem dRayOf (F : FunAt K mg "ray_of" sRayOf ["folk", "crowd", "step"]) (T : Bts mg) (C : Cst mg) (NR : NrAt K mg CN) (DLeapsOf : Def P w K mg base (L2.CX P w) "leaps_of" 5 ["folk", "crowd"] [] (spX (fLeaps CT)))
    (DPlus1 : Def P w K mg base CX0 "plus" 1 ["one", "other", "times"] [.int 1] (spF fPlus)) (DStays : Def P w K mg base CX0 "stays" 3 ["folk", "crowds", "gains"] [] (spF fStays)) : Def P w K mg base (L2.CX P w) "ray_of" 6 ["folk", "crowd", "step"] [] (spX (fRayOf CN)) := by
  refine F.defX scRayOf (fun ds o h => ?_) (fun cdv A outer s H E f hr => ?_)
  · obtain ⟨m, rs, c, st, rfl, _⟩ := h
    rfl
  · letI : Xw := ⟨E⟩
    refine ⟨_, (pss_cons (ps_set (i := 3) scRayOf.nd rfl (by first | exact Or.inl rfl | exact Or.inr rfl) (pe_lst (pa_cons (pe_ix (uIx K rfl) (pe_def DLeapsOf hr (by decide) (by rfl) (passes_call (takes_of rfl rfl rfl rfl) (fun _ _ _ _ h => h)) (pa_cons (pv 0) (pa_cons (pv 1) pa_nil))) pe_int (fun _ _ => rfl)) pa_nil)))
      (pss_cons (ps_for (passes_of rfl) rfl (pi_range1 (by rfl) T.range (pa_cons (pe_gint (by rfl) C.MOST_STEPS) pa_nil)) (pg_name (i := 4) scRayOf.nd rfl (by first | exact Or.inl rfl | exact Or.inr rfl)) (pss_one (ps_expr (uBm K rfl PySem.F.plainAttrs_list PySem.F.slot_list_append PySem.F.type_list_append mt_append (pv 3) (pa_cons (pe_ix (uIx K rfl) (pe_def DLeapsOf hr (by decide) (by rfl) (passes_call (takes_of rfl rfl rfl rfl) (fun _ _ _ _ h => h)) (pa_cons (pv 0) (pa_cons (pe_def DPlus1 hr (by decide) (by rfl) pass0 (pa_cons (pe_ix (uIx K rfl) (pv 3) (pe_un un_negU pe_int) (fun _ _ => rfl)) (pa_cons (pv 2) pa_nil))) pa_nil))) pe_int (fun _ _ => rfl)) pa_nil)))))
      (pss_cons (ps_for (passes_of rfl) rfl (pi_range2 (by rfl) T.range (pa_cons pe_int (pa_cons (pe_op op_addU (pe_gint (by rfl) C.MOST_STEPS) pe_int) pa_nil))) (pg_name (i := 5) scRayOf.nd rfl (by first | exact Or.inl rfl | exact Or.inr rfl)) (pss_one (ps_for (passes_of rfl) rfl (pi_range2 (by rfl) T.range (pa_cons pe_int (pa_cons (pe_op op_addU (pv 5) pe_int) pa_nil))) (pg_name (i := 6) scRayOf.nd rfl (by first | exact Or.inl rfl | exact Or.inr rfl)) (pss_cons (ps_set (i := 7) scRayOf.nd rfl (by first | exact Or.inl rfl | exact Or.inr rfl) (pe_op op_subU (pv 5) (pv 6)))
      (pss_cons (ps_set (i := 8) scRayOf.nd rfl (by first | exact Or.inl rfl | exact Or.inr rfl) (pe_callTy (uTup K rfl) (by rfl) T.tuple (by decide +kernel) (pa_cons (pe_lc (own := [("many", 9), ("old", 10)]) (g := (gTup K 2 (gCons (gName 9) (gCons (gName 10) gNil)))) (tt := tYes) rfl scRayOf.nd (pi_zip2 (by rfl) T.zip (pa_cons (pe_ix (uIx K rfl) (pv 3) (pv 5) (fun _ _ => rfl)) (pa_cons (pe_ix (uIx K rfl) (pv 3) (pv 7) (fun _ _ => rfl)) pa_nil))) (blkOk_by (N := ["folk", "crowd", "step", "found", "turn", "last", "q", "p", "gains", "many", "old"]) (sc := (defScope sRayOf)) (by decide +kernel)) (fun _ _ _ _ _ => (uGtup K rfl (pg_tup rfl (pgs_cons (pg_name (i := 9) scRayOf.nd rfl (by first | exact Or.inl rfl | exact Or.inr rfl)) (pgs_cons (pg_name (i := 10) scRayOf.nd rfl (by first | exact Or.inl rfl | exact Or.inr rfl)) pgs_nil))))) (fun _ _ _ _ _ => pts_nil) (fun _ _ _ _ _ => (pe_op op_subU (pv 9) (pv 10)))) pa_nil)))
      (pss_one (ps_if (PW.pt (pw_and (pt_cmpR op_geU (pe_callB (uMin K rfl rfl (hu_of hr)) (by rfl) T.min (by decide +kernel) (pa_cons (pv 8) pa_nil)) pe_int (nomark _)) (pw_and1 (pt_val (pe_def DStays hr (by decide) (by rfl) pass0 (pa_cons (pv 0) (pa_cons (pe_slice (uSl K rfl) (pv 3) (po_some (pv 7)) (po_some (pv 5))) (pa_cons (pv 8) pa_nil)))))))) (pss_one (ps_ret (pe_tup (pa_cons (pv 3) (pa_cons (pe_tup (pa_cons (pv 7) (pa_cons (pv 6) (pa_cons (pv 8) pa_nil)))) pa_nil))))) pss_nil)))))))
      (pss_one (ps_raise rfl (takes_of rfl rfl rfl rfl) (pmk_noRay NR (by rfl))))))), ?_⟩
    intro ds o h
    obtain ⟨m, rs, c, st, rfl, rfl, hh⟩ := h
    have h6 := hh.d.ok.moods.l6
    have h5 := hh.d.five
    have h1m := hh.d.ok.moods.l1
    have len41 : ∀ n, (crowdsN m rs c st n).length = n := fun n => by rw [List.length_map, List.length_range]
    have call : ∀ n, n ≤ 1000 → ∃ l : List (Rl × Int), fLeaps CT [eFolk m rs, eCrowd (inN m rs c st n)] (.val (.tup [.lst (l.map eLeap), eCrowd (endsN m rs c st n)])) := fun n hn => by
      obtain ⟨l, hl, _⟩ := hh.end_ hn
      obtain ⟨i1, _, i3⟩ := hh.in_ n hn
      exact ⟨l, m, rs, inN m rs c st n, rfl, by rw [hl]; rfl, hh.d, i1, Int.le_trans i3 (by decide)⟩
    obtain ⟨l0, c0⟩ := call 0 (by decide)
    refine q_newL (ds := [eCrowd (endsN m rs c st 0)]) (ea_cons (ev_op (ev_call0 (ea_cons (ev_var rfl) (ea_cons (ev_var rfl) ea_nil)) (spXD c0)) ev_int (rd_ixT rfl)) ea_nil) (by show 1 ≤ _; decide) fun p hp => ?_
    refine q_for (ei_rng1 (n := 40) (ea_cons ev_int ea_nil) (by decide) (by decide)) (fun j μ ρ => μ = mset mu0 p ((crowdsN m rs c st (j + 1)).map eCrowd) ∧ ∃ x4 x5 x6 x7 x8 x9 x10 : Option D, ρ = [some (eFolk m rs), some (eCrowd c), some (eCrowd st), some (.ref p), x4, x5, x6, x7, x8, x9, x10]) ⟨rfl, none, none, none, none, none, none, none, rfl⟩ ?_ ?_
    · rintro j d μ ρ hdj ⟨rfl, x4, x5, x6, x7, x8, x9, x10, rfl⟩
      obtain ⟨hj, rfl⟩ := upTo_get hdj
      have hj : j < 40 := hj
      obtain ⟨l1, c1⟩ := call (j + 1) (by omega)
      obtain ⟨_, _, e2, e3, e4⟩ := hh.end_ (n := j) (by omega)
      obtain ⟨i1, _, i3⟩ := hh.in_ (j + 1) (by omega)
      have hne : pluz (endsN m rs c st j) st 1 ≠ [] := fun e => by
        have := i1.len
        rw [show inN m rs c st (j + 1) = pluz (endsN m rs c st j) st 1 from rfl, e] at this
        simp at this
        omega
      refine ⟨_, _, asg_name, ?_⟩
      refine sv_app (d := eCrowd (endsN m rs c st (j + 1))) (ev_var rfl) mset_same (ev_op (ev_call0 (ea_cons (ev_var rfl) (ea_cons (ev_call (z := eCrowd (inN m rs c st (j + 1))) (dds := [.int 1]) (ea_cons (ev_op (ev_var rfl) (ev_un ev_int ud_neg) (rd_ixM (d := eCrowd (endsN m rs c st j)) mset_same ?_)) (ea_cons (ev_var rfl) ea_nil)) (.cons (.int 1) .nil) (spD ⟨endsN m rs c st j, st, 1, rfl, rfl, by decide, fun x hx => ?_, hne, fun x hx => ?_, ?_⟩)) ea_nil)) (spXD c1)) ev_int (rd_ixT rfl)) ?_ ⟨?_, _, _, _, _, _, _, _, rfl⟩
      · rw [atI_last _ (by simp), show crowdsN m rs c st (j + 1) = crowdsN m rs c st j ++ [endsN m rs c st j] by unfold crowdsN; rw [List.range_succ, List.map_append]; rfl, List.map_append]
        simp
      · have a := hh.s.nn x hx
        have b := sum_nn hh.s.nn x hx
        have := hh.s3
        have : x.natAbs ≤ 3 := by omega
        exact Nat.le_trans this (by decide)
      · have a := sum_nn i1.nn x hx
        have : x ≤ 5000 := by omega
        exact Int.le_trans this (by decide)
      · rw [e2.len]
        omega
      · rw [List.length_map, len41]
        omega
      · rw [mset_mset]
        congr 1
        unfold crowdsN
        rw [List.range_succ (n := j + 1), List.map_append, List.map_append]
        rfl
    · rintro μ ρ ⟨rfl, x4, x5, x6, x7, x8, x9, x10, rfl⟩
      rw [show (upTo 0 (40 : Int).toNat).length = 40 from rfl]
      refine sv_freeze (i := 3) rfl mset_same ?_
      rw [mdel_mset rfl]
      generalize hx4 : (some (D.int _) : Option D) = y4
      refine q_for (ei_rng2 (lo := 1) (n := 41) (ea_cons ev_int (ea_cons (ev_op ev_int ev_int rd_addI) ea_nil)) (by decide) (by decide)) (fun j μ ρ => μ = mu0 ∧ (∃ x4 x5 x6 x7 x8 x9 x10 : Option D, ρ = [some (eFolk m rs), some (eCrowd c), some (eCrowd st), some (.lst ((crowdsN m rs c st 41).map eCrowd)), x4, x5, x6, x7, x8, x9, x10]) ∧ ∀ a, a < j → rayAt m rs (endsN m rs c st) (a + 1) = none) ⟨rfl, ⟨_, _, _, _, _, _, _, rfl⟩, fun a h => absurd h (Nat.not_lt_zero _)⟩ ?_ ?_
      · rintro j d μ ρ hdj ⟨rfl, ⟨x4, x5, x6, x7, x8, x9, x10, rfl⟩, hno⟩
        obtain ⟨hj, rfl⟩ := upTo_get hdj
        have hj : j < 40 := hj
        refine ⟨_, _, asg_name, ?_⟩
        refine sv_for (ei_rng2 (lo := 1) (n := 1 + (j : Nat) + 1) (ea_cons ev_int (ea_cons (ev_op (ev_var rfl) ev_int rd_addI) ea_nil)) (by decide) (by omega)) (fun b μ ρ => μ = mu0 ∧ (∃ x6 x7 x8 x9 x10 : Option D, ρ = [some (eFolk m rs), some (eCrowd c), some (eCrowd st), some (.lst ((crowdsN m rs c st 41).map eCrowd)), x4, some (.int (1 + (j : Nat))), x6, x7, x8, x9, x10]) ∧ ∀ b', b' < b → rayOk m rs (endsN m rs c st) (j + 1) (b' + 1) = false) ⟨rfl, ⟨_, _, _, _, _, rfl⟩, fun a h => absurd h (Nat.not_lt_zero _)⟩ ?_ ?_
        · rintro b d μ ρ hdb ⟨rfl, ⟨x6, x7, x8, x9, x10, rfl⟩, hnb⟩
          obtain ⟨hb, rfl⟩ := upTo_get hdb
          have hb : b < j + 1 := by omega
          refine ⟨_, _, asg_name, ?_⟩
          refine q_asg (d := .int ((j + 1 - (b + 1) : Nat) : Int)) (Ev.is (ev_op (ev_var rfl) (ev_var rfl) rd_sub) (congrArg D.int (by omega))) asg_name ?_
          have ej : ((1 : Int) + (j : Nat)) = ((j + 1 : Nat) : Int) := by omega
          have eb : ((1 : Int) + (b : Nat)) = ((b + 1 : Nat) : Int) := by omega
          rw [ej, eb]
          have hgl := gainz_len hh (last := j + 1) (q := b + 1) (by omega)
          refine q_asg (d := eCrowd (gainz (endsN m rs c st) (j + 1) (b + 1))) (ev_tupI ((ei_zip2 (ea_cons (ev_op (ev_var rfl) (ev_var rfl) (rd_ixL (at_found (by omega)))) (ea_cons (ev_op (ev_var rfl) (ev_var rfl) (rd_ixL (at_found (by omega)))) ea_nil)) (.tup _) (.tup _)).is zip2_map) (by simp) (fun x _ => asg_tup2) (fun x hx => ev_op (ev_var rfl) (ev_var rfl) rd_sub) ?_) asg_name ?_
          · have : (gainz (endsN m rs c st) (j + 1) (b + 1)).length = ((endsN m rs c st (j + 1)).zip (endsN m rs c st (j + 1 - (b + 1)))).length := List.length_map ..
            omega
          obtain ⟨mn, hmn⟩ := exists_min (l := gainz (endsN m rs c st) (j + 1) (b + 1)) (fun e => by
            rw [e] at hgl
            simp at hgl
            omega)
          have emin : decide ((0 : Int) ≤ mn) = (gainz (endsN m rs c st) (j + 1) (b + 1)).all (fun x => decide (0 ≤ x)) := by
            by_cases h0 : 0 ≤ mn
            · rw [decide_eq_true h0]
              exact (List.all_eq_true.mpr fun x hx => decide_eq_true (Int.le_trans h0 (hmn.2 x hx))).symm
            · rw [decide_eq_false h0]
              refine Eq.symm (Bool.eq_false_iff.mpr fun h => h0 ?_)
              exact of_decide_eq_true (List.all_eq_true.mp h mn hmn.1)
          refine sv_if (b := rayOk m rs (endsN m rs c st) (j + 1) (b + 1)) (EvT.is (et_and (et_test (ev_op (ev_cb (ea_cons (ev_var rfl) ea_nil) (cd_minT hmn)) ev_int rd_geI)) fun _ => et_B (ev_call0 (ea_cons (ev_var rfl) (ea_cons (ev_sl (ev_var rfl) (eo_some (ev_var rfl)) (eo_some (ev_var rfl)) sd_L) (ea_cons (ev_var rfl) ea_nil))) (spD ⟨m, rs, (List.range' (j + 1 - (b + 1)) (b + 1)).map (endsN m rs c st), gainz (endsN m rs c st) (j + 1) (b + 1), ?_, rfl, by omega, by omega, ?_⟩))) ?_) (fun hok => ?_) fun hok => ?_
          · have := cut_found (m := m) (rs := rs) (c := c) (st := st) (n := 41) (p := j + 1 - (b + 1)) (q := b + 1) (by omega)
            rw [show j + 1 - (b + 1) + (b + 1) = j + 1 by omega] at this
            rw [this]
          · rw [List.length_map, List.length_range']
            omega
          · rw [emin]
            rfl
          · refine sv_ret (d := rayD m rs c st (j + 1 - (b + 1), b + 1, gainz (endsN m rs c st) (j + 1) (b + 1))) (ev_tup (ea_cons (ev_var rfl) (ea_cons (ev_tup (ea_cons (ev_var rfl) (ea_cons (ev_var rfl) (ea_cons (ev_var rfl) ea_nil))) (by show 3 ≤ _; decide)) ea_nil)) (by show 2 ≤ _; decide)) ?_
            have e1 : rayAt m rs (endsN m rs c st) (j + 1) = some (j + 1 - (b + 1), b + 1, gainz (endsN m rs c st) (j + 1) (b + 1)) := by
              refine find_one (a := b) hb (by rw [if_pos hok]) fun b' hb' => ?_
              rw [hnb b' hb', if_neg (by decide)]
            have e2 : rayT m rs (endsN m rs c st) = some (j + 1 - (b + 1), b + 1, gainz (endsN m rs c st) (j + 1) (b + 1)) := find_one hj e1 hno
            show rayOut CN m rs c st = _
            unfold rayOut
            rw [e2]
          · refine sv_next ⟨rfl, ⟨_, _, _, _, _, rfl⟩, fun b' hb' => ?_⟩
            rcases Nat.lt_or_ge b' b with h | h
            · exact hnb b' h
            · obtain rfl : b' = b := by omega
              exact hok
        · rintro μ ρ ⟨rfl, ⟨x6, x7, x8, x9, x10, rfl⟩, hnb⟩
          refine ⟨rfl, ⟨_, _, _, _, _, _, _, rfl⟩, fun a ha => ?_⟩
          rcases Nat.lt_or_ge a j with h | h
          · exact hno a h
          · obtain rfl : a = j := by omega
            refine List.findSome?_eq_none_iff.mpr fun b' hb' => ?_
            rw [if_neg]
            rw [hnb b' (by
              rw [upTo_len]
              have := List.mem_range.mp hb'
              omega)]
            decide
      · rintro μ ρ ⟨rfl, ⟨x4, x5, x6, x7, x8, x9, x10, rfl⟩, hno⟩
        rw [upTo_len] at hno
        refine sv_raise0 ?_
        have : rayT m rs (endsN m rs c st) = none := List.findSome?_eq_none_iff.mpr fun a ha => hno a (List.mem_range.mp ha)
        show rayOut CN m rs c st = .exc ⟨CN, none⟩
        unfold rayOut
        rw [this]

def tripD (t : Nat × Nat × Cwd) : D := .tup [.int (t.1 : Nat), .int (t.2.1 : Nat), eCrowd t.2.2]
def rayOut1 (CN : Addr) (m : Str) (rs : List Rl) (c st : Cwd) : Out := match rayT m rs (endsN m rs c st) with
  | some t => .val (tripD t)
  | none => .exc ⟨CN, none⟩
theorem RayH.big {m : Str} {rs : List Rl} {c st : Cwd} (h : RayH m rs c st) : c.sum ≤ 10 ^ 40 ∧ st.sum ≤ 10 ^ 40 := ⟨Int.le_trans h.c4 (by decide), Int.le_trans h.s3 (by decide)⟩
def fRay (CN : Addr) (ds : List D) (o : Out) : Prop := ∃ (m : Str) (rs : List Rl) (c st : List Int), ds = [eFolk m rs, eCrowd c, eCrowd st] ∧ o = rayOut1 CN m rs c st ∧ RayH m rs c st ∧ OkE m rs
theorem dRay (F : FunAt K mg "ray" sRay ["folk", "crowd", "step"]) (DNeedRay : Def P w K mg base CX0 "need_ray" 10 ["folk", "crowd", "step"] [] (spF fNeedRay)) (DRayOf : Def P w K mg base (L2.CX P w) "ray_of" 6 ["folk", "crowd", "step"] [] (spX (fRayOf CN))) :
    Def P w K mg base (L2.CX P w) "ray" 11 ["folk", "crowd", "step"] [] (spX (fRay CN)) := by
  refine F.defX scRay (fun ds o h => ?_) (fun cdv A outer s H E f hr => ?_)
  · obtain ⟨m, rs, c, st, rfl, _⟩ := h
    rfl
  · letI : Xw := ⟨E⟩
    refine ⟨_, (pss_cons (ps_expr (pe_def DNeedRay hr (by decide) (by rfl) pass0 (pa_cons (pv 0) (pa_cons (pv 1) (pa_cons (pv 2) pa_nil)))))
      (pss_one (ps_ret (pe_ix (uIx K rfl) (pe_def DRayOf hr (by decide) (by rfl) (passes_call (takes_of rfl rfl rfl rfl) (fun _ _ _ _ h => h)) (pa_cons (pv 0) (pa_cons (pv 1) (pa_cons (pv 2) pa_nil)))) pe_int (fun _ _ => rfl))))), ?_⟩
    intro ds o h
    obtain ⟨m, rs, c, st, rfl, rfl, hh, he⟩ := h
    refine q_drop (ev_call0 (ea_cons (ev_var rfl) (ea_cons (ev_var rfl) (ea_cons (ev_var rfl) ea_nil))) (spD ⟨m, rs, c, st, rfl, rfl, he, hh.c, hh.s, hh.big.1, hh.big.2⟩)) ?_
    have e1 : fRayOf CN [eFolk m rs, eCrowd c, eCrowd st] (rayOut CN m rs c st) := ⟨m, rs, c, st, rfl, rfl, hh⟩
    cases hl : rayT m rs (endsN m rs c st) with
    | some t =>
      have e2 : rayOut CN m rs c st = .val (rayD m rs c st t) := by
        unfold rayOut
        rw [hl]
      rw [e2] at e1
      refine sv_ret (d := tripD t) (ev_op (ev_call0 (ea_cons (ev_var rfl) (ea_cons (ev_var rfl) (ea_cons (ev_var rfl) ea_nil))) (spXD e1)) ev_int (rd_ixT rfl)) ?_
      show rayOut1 CN m rs c st = _
      unfold rayOut1
      rw [hl]
    | none =>
      have e2 : rayOut CN m rs c st = .exc ⟨CN, none⟩ := by
        unfold rayOut
        rw [hl]
      rw [e2] at e1
      refine sv_retR (x := ⟨CN, none⟩) (er_op (er_call0 (ea_cons (ev_var rfl) (ea_cons (ev_var rfl) (ea_cons (ev_var rfl) ea_nil))) e1)) ?_
      show rayOut1 CN m rs c st = _
      unfold rayOut1
      rw [hl]
/-- what stands on the ray behind k steps -/
def onT (e : Nat → Cwd) (t : Nat × Nat × Cwd) (k : Nat) : Cwd := if k < t.1 then e k else pluz (e (t.1 + (k - t.1) % t.2.1)) t.2.2 (((k - t.1) / t.2.1 : Nat) : Int)
def onOut (CN : Addr) (m : Str) (rs : List Rl) (c st : Cwd) (k : Nat) : Out := match rayT m rs (endsN m rs c st) with
  | some t => .val (eCrowd (onT (endsN m rs c st) t k))
  | none => .exc ⟨CN, none⟩
def fOnRay (CN : Addr) (ds : List D) (o : Out) : Prop := ∃ (m : Str) (rs : List Rl) (c st : List Int) (k : Nat), ds = [eFolk m rs, eCrowd c, eCrowd st, .int (k : Nat)] ∧ o = onOut CN m rs c st k ∧ RayH m rs c st ∧ OkE m rs ∧ k ≤ 10 ^ 30
theorem ray_some {m : Str} {rs : List Rl} {e : Nat → Cwd} {t : Nat × Nat × Cwd} (h : rayT m rs e = some t) : ∃ last q, 1 ≤ q ∧ q ≤ last ∧ last ≤ 40 ∧ t = (last - q, q, gainz e last q) ∧ rayOk m rs e last q = true := by
  obtain ⟨a, ha, h1⟩ := List.exists_of_findSome?_eq_some h
  obtain ⟨b, hb, h2⟩ := List.exists_of_findSome?_eq_some h1
  have ha := List.mem_range.mp ha
  have hb := List.mem_range.mp hb
  by_cases hk : rayOk m rs e (a + 1) (b + 1) = true
  · rw [if_pos hk] at h2
    exact ⟨a + 1, b + 1, by omega, by omega, by omega, (Option.some.inj h2).symm, hk⟩
  · rw [if_neg hk] at h2
    cases h2
theorem dOnRay (F : FunAt K mg "on_ray" sOnRay ["folk", "crowd", "step", "k"]) (T : Bts mg) (C : Cst mg) (DNeedRay : Def P w K mg base CX0 "need_ray" 10 ["folk", "crowd", "step"] [] (spF fNeedRay)) (DIsFrom : Def P w K mg base CX0 "is_from" 2 ["value", "low", "high"] [] (spF fIsFrom))
    (DRayOf : Def P w K mg base (L2.CX P w) "ray_of" 6 ["folk", "crowd", "step"] [] (spX (fRayOf CN))) (DPlus : Def P w K mg base CX0 "plus" 1 ["one", "other", "times"] [] (spF fPlus)) : Def P w K mg base (L2.CX P w) "on_ray" 11 ["folk", "crowd", "step", "k"] [] (spX (fOnRay CN)) := by
  refine F.defX scOnRay (fun ds o h => ?_) (fun cdv A outer s H E f hr => ?_)
  · obtain ⟨m, rs, c, st, k, rfl, _⟩ := h
    rfl
  · letI : Xw := ⟨E⟩
    refine ⟨_, (pss_cons (ps_expr (pe_def DNeedRay hr (by decide) (by rfl) pass0 (pa_cons (pv 0) (pa_cons (pv 1) (pa_cons (pv 2) pa_nil)))))
      (pss_cons (ps_if (pt_not (pt_val (pe_def DIsFrom hr (by decide) (by rfl) pass0 (pa_cons (pv 3) (pa_cons pe_int (pa_cons (pe_gint (by rfl) C.MOST_TOLD) pa_nil)))))) (pss_one ps_never) pss_nil)
      (pss_cons (ps_asg (pe_def DRayOf hr (by decide) (by rfl) (passes_call (takes_of rfl rfl rfl rfl) (fun _ _ _ _ h => h)) (pa_cons (pv 0) (pa_cons (pv 1) (pa_cons (pv 2) pa_nil)))) (uGtup K rfl (pg_tup rfl (pgs_cons (pg_name (i := 4) scOnRay.nd rfl (by first | exact Or.inl rfl | exact Or.inr rfl)) (pgs_cons (pg_name (i := 5) scOnRay.nd rfl (by first | exact Or.inl rfl | exact Or.inr rfl)) pgs_nil)))))
      (pss_cons (ps_asg (pv 5) (uGtup K rfl (pg_tup rfl (pgs_cons (pg_name (i := 6) scOnRay.nd rfl (by first | exact Or.inl rfl | exact Or.inr rfl)) (pgs_cons (pg_name (i := 7) scOnRay.nd rfl (by first | exact Or.inl rfl | exact Or.inr rfl)) (pgs_cons (pg_name (i := 8) scOnRay.nd rfl (by first | exact Or.inl rfl | exact Or.inr rfl)) pgs_nil))))))
      (pss_cons (ps_if (pt_cmpR op_ltU (pv 3) (pv 6) (nomark _)) (pss_one (ps_ret (pe_ix (uIx K rfl) (pv 4) (pv 3) (fun _ _ => rfl)))) pss_nil)
      (pss_one (ps_ret (pe_def DPlus hr (by decide) (by rfl) pass0 (pa_cons (pe_ix (uIx K rfl) (pv 4) (pe_op op_addU (pv 6) (pe_op op_modU (pe_op op_subU (pv 3) (pv 6)) (pv 7))) (fun _ _ => rfl)) (pa_cons (pv 8) (pa_cons (pe_op op_divU (pe_op op_subU (pv 3) (pv 6)) (pv 7)) pa_nil))))))))))), ?_⟩
    intro ds o h
    obtain ⟨m, rs, c, st, k, rfl, rfl, hh, he, hk⟩ := h
    refine q_drop (ev_call0 (ea_cons (ev_var rfl) (ea_cons (ev_var rfl) (ea_cons (ev_var rfl) ea_nil))) (spD ⟨m, rs, c, st, rfl, rfl, he, hh.c, hh.s, hh.big.1, hh.big.2⟩)) ?_
    refine q_if (b := false) (EvT.is (et_not (et_B (ev_call0 (ea_cons (ev_var rfl) (ea_cons ev_int (ea_cons ev_int ea_nil))) (spD ⟨(k : Nat), 0, 10 ^ 30, rfl, rfl⟩)))) ?_) (fun h => by cases h) fun _ => q_next ?_
    · rw [decide_eq_true (by omega), decide_eq_true (by omega)]
      rfl
    have e1 : fRayOf CN [eFolk m rs, eCrowd c, eCrowd st] (rayOut CN m rs c st) := ⟨m, rs, c, st, rfl, rfl, hh⟩
    cases hl : rayT m rs (endsN m rs c st) with
    | none =>
      have e2 : rayOut CN m rs c st = .exc ⟨CN, none⟩ := by
        unfold rayOut
        rw [hl]
      rw [e2] at e1
      refine q_asgR (x := ⟨CN, none⟩) (er_call0 (ea_cons (ev_var rfl) (ea_cons (ev_var rfl) (ea_cons (ev_var rfl) ea_nil))) e1) ?_
      show onOut CN m rs c st k = _
      unfold onOut
      rw [hl]
    | some t =>
      have e2 : rayOut CN m rs c st = .val (rayD m rs c st t) := by
        unfold rayOut
        rw [hl]
      rw [e2] at e1
      have eo : onOut CN m rs c st k = .val (eCrowd (onT (endsN m rs c st) t k)) := by
        unfold onOut
        rw [hl]
      obtain ⟨last, q, hq1, hq2, hlast, rfl, hok⟩ := ray_some hl
      refine q_asg (ev_call0 (ea_cons (ev_var rfl) (ea_cons (ev_var rfl) (ea_cons (ev_var rfl) ea_nil))) (spXD e1)) asg_tup2 ?_
      refine q_asg (ev_var rfl) asg_tup3 ?_
      show Sv mu0 _ _ _
      by_cases hkp : k < last - q
      · have eon : onT (endsN m rs c st) (last - q, q, gainz (endsN m rs c st) last q) k = endsN m rs c st k := if_pos hkp
        rw [eon] at eo
        refine q_if (b := true) (EvT.is (et_test (ev_op (ev_var rfl) (ev_var rfl) rd_ltI)) (decide_eq_true (Int.ofNat_lt.mpr hkp))) (fun _ => ?_) fun h => by cases h
        exact sv_ret (d := eCrowd (endsN m rs c st k)) (ev_op (ev_var rfl) (ev_var rfl) (rd_ixL (at_found (by omega)))) eo
      · have eon : onT (endsN m rs c st) (last - q, q, gainz (endsN m rs c st) last q) k = pluz (endsN m rs c st (last - q + (k - (last - q)) % q)) (gainz (endsN m rs c st) last q) (((k - (last - q)) / q : Nat) : Int) := if_neg hkp
        rw [eon] at eo
        refine q_if (b := false) (EvT.is (et_test (ev_op (ev_var rfl) (ev_var rfl) rd_ltI)) (decide_eq_false fun z => hkp (Int.ofNat_lt.mp z))) (fun h => by cases h) fun _ => q_next ?_
        have esub : ((k : Nat) : Int) - ((last - q : Nat) : Int) = ((k - (last - q) : Nat) : Int) := by omega
        have hmod : (k - (last - q)) % q < q := Nat.mod_lt _ (by omega)
        have ix : last - q + (k - (last - q)) % q < 41 := by omega
        have hq0 : (0 : Int) < ((q : Nat) : Int) := by omega
        obtain ⟨_, _, ea1, ea2, ea3⟩ := hh.end_ (n := last - q + (k - (last - q)) % q) (by omega)
        have hgl := gainz_len hh (last := last) (q := q) (by omega)
        have hg : ∀ x ∈ gainz (endsN m rs c st) last q, x.natAbs ≤ 5000 := fun x hx => by
          obtain ⟨pr, hpr, rfl⟩ := List.mem_map.mp hx
          obtain ⟨m1, m2⟩ := List.of_mem_zip hpr
          obtain ⟨_, _, u1, _, u3⟩ := hh.end_ (n := last) (by omega)
          obtain ⟨_, _, v1, _, v3⟩ := hh.end_ (n := last - q) (by omega)
          have a1 := sum_nn u1.nn _ m1
          have a2 := sum_nn v1.nn _ m2
          have a3 := u1.nn _ m1
          have a4 := v1.nn _ m2
          show (pr.1 - pr.2).natAbs ≤ 5000
          omega
        have hkq : (k - (last - q)) / q ≤ 10 ^ 30 := Nat.le_trans (Nat.div_le_self _ _) (by omega)
        refine sv_ret (d := eCrowd (pluz (endsN m rs c st (last - q + (k - (last - q)) % q)) (gainz (endsN m rs c st) last q) (((k - (last - q)) / q : Nat) : Int))) (ev_call0 (ea_cons (ev_op (ev_var rfl) (Ev.is (ev_op (ev_var rfl) (ev_op (Ev.is (ev_op (ev_var rfl) (ev_var rfl) rd_sub) (congrArg D.int esub)) (ev_var rfl) (rd_mod hq0)) rd_addI) (y := .int ((last - q + (k - (last - q)) % q : Nat) : Int)) rfl) (rd_ixL (at_found ix))) (ea_cons (ev_var rfl) (ea_cons (Ev.is (ev_op (Ev.is (ev_op (ev_var rfl) (ev_var rfl) rd_sub) (congrArg D.int esub)) (ev_var rfl) (rd_div ?_)) (y := .int (((k - (last - q)) / q : Nat) : Int)) rfl) ea_nil))) (spD ⟨_, _, _, rfl, rfl, ?_, ?_, ?_, ?_, ?_⟩)) eo
        · exact divOk hq0 (by show ((q : Nat) : Int) < 1000000000; omega)
        · show (((k - (last - q)) / q : Nat) : Int).natAbs ≤ 2 ^ 200
          rw [Int.natAbs_natCast]
          exact Nat.le_trans hkq (by decide)
        · exact fun x hx => Nat.le_trans (hg x hx) (by decide)
        · intro e
          have := congrArg List.length e
          unfold pluz at this
          rw [List.length_map, List.length_zip, ea1.len, hgl] at this
          simp at this
          have := he.n.d.ok.moods.l1
          omega
        · intro x hx
          obtain ⟨pr, hpr, rfl⟩ := List.mem_map.mp hx
          obtain ⟨m1, m2⟩ := List.of_mem_zip hpr
          have a1 := sum_nn ea1.nn _ m1
          have a2 : pr.2 ≤ 5000 := by
            have := hg _ m2
            omega
          have a3 : (((k - (last - q)) / q : Nat) : Int) * pr.2 ≤ (((k - (last - q)) / q : Nat) : Int) * 5000 := Int.mul_le_mul_of_nonneg_left a2 (Int.natCast_nonneg _)
          have a4 : (((k - (last - q)) / q : Nat) : Int) ≤ 10 ^ 30 := Int.ofNat_le.mpr hkq
          show pr.1 + (((k - (last - q)) / q : Nat) : Int) * pr.2 ≤ 10 ^ 40
          generalize (((k - (last - q)) / q : Nat) : Int) = z at a3 a4 ⊢
          omega
        · rw [ea1.len]
          have := he.n.d.ok.moods.l6
          omega
end
end Mf
set_option maxRecDepth 100000
set_option maxHeartbeats 4000000
/-! Readings that come to one of several data: operators, calls, comprehensions, statements. -/
namespace Mf
open PySem PySem.Spec PyProof.Rows L2
variable [Tt] [Xw]
section
variable {μ : Mu} {ρ : DEnv} {ta tb te : TE} {p q z : D → Prop} {d : D} {r : R2} {K : Kt} {u : TS} {g : TG}
theorem en_of (h : Ev μ te ρ d) (hd : p d) : EvN μ te ρ p := fun σ F M H rs rm w Q k => h σ F M H rs rm w Q fun v F2 H2 e2 w2 r2 => k v d F2 H2 hd e2 w2 r2
theorem EvN.imp (h : EvN μ te ρ p) (hq : ∀ d, p d → q d) : EvN μ te ρ q := fun σ F M H rs rm w Q k => h σ F M H rs rm w Q fun v d F2 H2 hd e2 w2 r2 => k v d F2 H2 (hq d hd) e2 w2 r2
def EvAN (μ : Mu) (ta : TA) (ρ : DEnv) (P : List D → Prop) : Prop := ∀ (σ : L2.St) (F M H : Hp), RepS F ρ σ → RepM F M μ → Wd F M H →
  ∀ Q : List V → Hp → Prop, (∀ vs ds F2 H2, P ds → Same F F2 → Wd F2 M H2 → RepL F2 ds vs → Q vs H2) → ta σ H Q
theorem an_of {t : TA} {ds : List D} {P : List D → Prop} (h : EvA μ t ρ ds) (hd : P ds) : EvAN μ t ρ P := fun σ F M H rs rm w Q k => h σ F M H rs rm w Q fun v F2 H2 e2 w2 r2 => k v ds F2 H2 hd e2 w2 r2
theorem an_cons {t : TA} {P R : List D → Prop} (h : EvN μ te ρ p) (hr : EvAN μ t ρ P) (hR : ∀ d ds, p d → P ds → R (d :: ds)) : EvAN μ (tCons te t) ρ R := fun σ F M H rs rm w Q k =>
  h σ F M H rs rm w _ fun v d F1 H1 hd e1 w1 r1 => hr σ F1 M H1 (rs.mono e1) (rm.mono e1) w1 _ fun vs ds F2 H2 hds e2 w2 r2 => k (v :: vs) (d :: ds) F2 H2 (hR d ds hd hds) (e1.trans e2) w2 (.cons (r1.mono e2) r2)
theorem en_op (ha : EvN μ ta ρ p) (hb : EvN μ tb ρ q) (hr : ∀ x y, p x → q y → ∃ u, z u ∧ RD μ r x y u) : EvN μ (tOp r ta tb) ρ z := fun σ F M H rs rm w Q k =>
  ha σ F M H rs rm w _ fun v x F1 H1 hx e1 w1 r1 => hb σ F1 M H1 (rs.mono e1) (rm.mono e1) w1 _ fun v' y F2 H2 hy e2 w2 r2 => by
    obtain ⟨u, hu, h⟩ := hr x y hx hy
    exact h F2 M H2 v v' (r1.mono e2) r2 (rm.mono (e1.trans e2)) w2 Q fun u' F3 H3 e3 w3 r3 => k u' u F3 H3 hu ((e1.trans e2).trans e3) w3 r3
theorem en_cb {rr : List V → Hp → VK → Prop} {t : TA} {P : List D → Prop} (h : EvAN μ t ρ P) (hr : ∀ ds, P ds → ∃ u, z u ∧ CD μ rr ds u) : EvN μ (tCB rr t) ρ z := fun σ F M H rs rm w Q k =>
  h σ F M H rs rm w _ fun vs ds F1 H1 hd e1 w1 r1 => by
    obtain ⟨u, hu, h⟩ := hr ds hd
    exact h F1 M H1 vs r1 (rm.mono e1) w1 Q fun u' F2 H2 e2 w2 r2 => k u' u F2 H2 hu (e1.trans e2) w2 r2
theorem en_bm {Kf : PySem.W.Frag} {T : String} {rr : V → List V → Hp → VK → Prop} {t : TA} {P : List D → Prop} {x : D} (h : Ev μ ta ρ x) (h2 : EvAN μ t ρ P) (ht : ∀ (F M H : Hp) (v : V), Rep F x v → RepM F M μ → Wd F M H → tyV Kf T v H) (hr : ∀ ds, P ds → ∃ u, z u ∧ BD μ Kf T rr x ds u) : EvN μ (tBM Kf T rr ta t) ρ z := fun σ F M H rs rm w Q k =>
  h σ F M H rs rm w _ fun v F1 H1 e1 w1 r1 => ⟨ht F1 M H1 v r1 (rm.mono e1) w1, h2 σ F1 M H1 (rs.mono e1) (rm.mono e1) w1 _ fun vs ds F2 H2 hd e2 w2 r2 => by
    obtain ⟨u, hu, hb⟩ := hr ds hd
    obtain ⟨_, b⟩ := hb F2 M H2 v (r1.mono e2) (rm.mono (e1.trans e2)) w2
    exact b F2 H2 vs (Same.refl F2) w2 r2 Q fun u' F3 H3 e3 w3 r3 => k u' u F3 H3 hu ((e1.trans e2).trans e3) w3 r3⟩
theorem en_tup {t : TA} {P : List D → Prop} (h : EvAN μ t ρ P) (hl : ∀ ds, P ds → ds.length ≤ 100000 ∧ z (.tup ds)) : EvN μ (tTup t) ρ z := fun σ F M H rs rm w Q k =>
  h σ F M H rs rm w _ fun vs ds F1 H1 hd e1 w1 r1 => ⟨Nat.le_trans (by rw [← r1.len]; exact (hl ds hd).1) (by decide), fun p hp => k _ _ _ _ (hl ds hd).2 (e1.trans (w1.newS hp)) (w1.new hp) (.tup upd_same (r1.mono (w1.newS hp)))⟩
theorem en_lst {t : TA} {P : List D → Prop} (h : EvAN μ t ρ P) (hl : ∀ ds, P ds → ds.length ≤ 100000 ∧ z (.lst ds)) : EvN μ (tLst t) ρ z := fun σ F M H rs rm w Q k =>
  h σ F M H rs rm w _ fun vs ds F1 H1 hd e1 w1 r1 => ⟨Nat.le_trans (by rw [← r1.len]; exact (hl ds hd).1) (by decide), fun p hp => k _ _ _ _ (hl ds hd).2 (e1.trans (w1.newS hp)) (w1.new hp) (.lst upd_same (r1.mono (w1.newS hp)))⟩
theorem en_call {f : List D → (D → Prop) → Prop} {t : TA} {P : List D → Prop} {E : XK} (h : EvAN μ t ρ P) (hf : ∀ ds, P ds → ∃ p, f ds p ∧ ∀ d, p d → z d) : EvN μ (tCall (spN f) [] E t) ρ z := fun σ F M H rs rm w Q k =>
  h σ F M H rs rm w _ fun vs ds F1 H1 hd e1 w1 r1 => by
    rw [List.append_nil]
    obtain ⟨p, hp, hz⟩ := hf ds hd
    exact ⟨F1, M, ds, p, w1, r1, hp, fun v d F2 H2 hd e2 w2 r2 => k v d F2 H2 (hz d hd) (e1.trans e2) w2 r2⟩
theorem en_callF {f : List D → D → Prop} {t : TA} {P : List D → Prop} {E : XK} (h : EvAN μ t ρ P) (hf : ∀ ds, P ds → ∃ d, f ds d ∧ z d) : EvN μ (tCall (spF f) [] E t) ρ z := fun σ F M H rs rm w Q k =>
  h σ F M H rs rm w _ fun vs ds F1 H1 hd e1 w1 r1 => by
    rw [List.append_nil]
    obtain ⟨d, hp, hz⟩ := hf ds hd
    exact ⟨F1, M, ds, d, w1, r1, hp, fun v F2 H2 e2 w2 r2 => k v d F2 H2 hz (e1.trans e2) w2 r2⟩
/-! statements -/
theorem q_asgN (h : EvN μ te ρ p) (k : ∀ d, p d → ∃ js ρ', Asg g js ρ d ρ' ∧ Sv μ u ρ' K) : Sv μ (tSeq (tAsg te g) u) ρ K := fun σ F M H rs rm w E tk =>
  h σ F M H rs rm w _ fun x d F2 H2 hd e2 w2 r2 => by
    obtain ⟨js, ρ', ha, hk⟩ := k d hd
    exact ha σ F2 M H2 x (rs.mono e2) w2 r2 _ fun σ' rs' _ => hk σ' F2 M H2 rs' (rm.mono e2) w2 E (tk.step (Stp.pure rm e2 w2))
end

/-! walks of what is one of several lists -/
def EvIN (μ : Mu) (wi : TI) (ρ : DEnv) (P : List D → Prop) : Prop := ∀ (σ : L2.St) (F M H : Hp), RepS F ρ σ → RepM F M μ → Wd F M H →
  ∀ R : It → Hp → Prop, (∀ xs J F2 H2, P xs → Same F F2 → Wd F2 M H2 → Wk μ J xs F2 M → R J H2) → wi σ H R
theorem ein_rng1 {μ : Mu} {ρ : DEnv} {ta : TA} {B : Nat} (hB : B ≤ 100000) (h : EvAN μ ta ρ fun ds => ∃ n : Nat, ds = [.int (n : Nat)] ∧ n ≤ B) : EvIN μ (iRng1 ta) ρ fun xs => ∃ n, xs = upTo 0 n ∧ n ≤ B := fun σ F M H rs rm w R q =>
  h σ F M H rs rm w _ fun vs ds F2 H2 hd e2 w2 r2 => by
    obtain ⟨n, rfl, hn⟩ := hd
    cases r2 with
    | cons a b =>
      cases a
      cases b
      exact ⟨(n : Nat), rfl, by omega, by omega, q (upTo 0 n) _ F2 H2 ⟨n, rfl, hn⟩ e2 w2 wk_rng⟩
section
variable {μ : Mu} {ρ : DEnv} {wi : TI} {g : TG} {te : TE} {tb u : TS} {vs js : List Nat} {K : Kt}
/-- each of them told, without a test -/
theorem en_lc {P : List D → Prop} {pe : D → Prop} {ρ' : D → DEnv} (hi : EvIN μ wi ρ P) (hj : ∀ j ∈ js, j ∈ vs) (hP : ∀ xs, P xs → xs.length ≤ 100000 ∧ ∀ x ∈ xs, Asg g js (dwipe ρ vs) x (ρ' x) ∧ EvN μ te (ρ' x) pe) :
    EvN μ (tLc wi g tYes te vs) ρ (fun d => ∃ xs l, P xs ∧ d = .lst l ∧ l.length = xs.length ∧ ∀ x ∈ l, pe x) := fun σ F M H rs rm w Q q =>
  hi σ F M H rs rm w _ fun xs J F2 H2 hx e2 w2 st => by
    obtain ⟨hl, hp⟩ := hP xs hx
    intro Dl hD
    have hM : M Dl = none := w2.freeM hD
    refine ⟨fun i m H' => m = xs.length - i ∧ i ≤ xs.length ∧ ∃ F' ac l, Same F2 F' ∧ Wd F' (upd M Dl (.lst ac)) H' ∧ RepL F' l ac ∧ l.length = i ∧ ∀ x ∈ l, pe x,
      ⟨xs.length, rfl, Nat.zero_le _, F2, [], [], Same.refl F2, w2.newM hD, .nil, rfl, fun x h => by cases h⟩, ?_⟩
    rintro i m H' ⟨rfl, hle, F', ac, l, eF, wF, rA, hli, hpl⟩
    obtain ⟨s1, s2⟩ := st F' _ H' eF wF (fix_new (rm.mono e2) hM)
    by_cases hlt : i < xs.length
    · right
      obtain ⟨go, yl⟩ := s2 i _ (List.getElem?_eq_getElem hlt)
      obtain ⟨ha, he⟩ := hp _ (List.getElem_mem hlt)
      refine ⟨go, fun H' => ∃ F' ac l, Same F2 F' ∧ Wd F' (upd M Dl (.lst ac)) H' ∧ RepL F' l ac ∧ l.length = i + 1 ∧ ∀ x ∈ l, pe x, fun H3 p3 => ⟨xs.length - (i + 1), by omega, rfl, by omega, p3⟩, fun x H3 y => ?_⟩
      obtain ⟨F3, e3, w3, r3⟩ := yl x H3 y
      have e23 : Same F F3 := e2.trans (eF.trans e3)
      refine ha (L2.wipe σ vs) F3 _ H3 x ((rs.mono e23).wipe vs) w3 r3 _ fun σ2 rs2 hw => ⟨by rw [hw vs hj, wipe_wipe], ?_⟩
      show te σ2 H3 _
      refine he σ2 F3 _ H3 rs2 ((rm.mono e23).newM hM) w3 _ fun v d F5 H5 hd e5 w5 r5 => ⟨ac, w5.m Dl _ upd_same, ?_, F5, ac ++ [v], l ++ [d], eF.trans (e3.trans e5), ?_, (rA.mono (e3.trans e5)).snoc r5, by rw [List.length_append, hli]; rfl, fun x hx => ?_⟩
      · refine sz_lt ?_
        have h1 := rA.len
        omega
      · have z := w5.write (p := Dl) (o := .lst (ac ++ [v])) upd_same
        rw [upd_upd] at z
        exact z
      · rcases List.mem_append.mp hx with h | h
        · exact hpl x h
        · rw [List.mem_singleton.mp h]
          exact hd
    · left
      have ei : i = xs.length := by omega
      subst ei
      obtain ⟨w5, e5⟩ := wF.freezeNew hM
      exact ⟨s1, q _ (.lst l) _ H' ⟨xs, l, hx, rfl, hli, hpl⟩ (e2.trans (eF.trans e5)) w5 (.lst upd_same (rA.mono e5))⟩
theorem q_forN {P : List D → Prop} (hi : EvIN mu0 wi ρ P) (h : ∀ ds, P ds → ∃ Iv : Nat → Mu → DEnv → Prop, Iv 0 μ ρ ∧
    (∀ i d μ' ρ', ds[i]? = some d → Iv i μ' ρ' → ∃ js ρ1, Asg g js ρ' d ρ1 ∧ Sv μ' tb ρ1 { nx := Iv (i + 1), ct := Iv (i + 1), rt := K.rt, ex := K.ex }) ∧
    (∀ μ' ρ', Iv ds.length μ' ρ' → Sv μ' u ρ' K)) : Sv μ (tSeq (tFor wi g tb) u) ρ K := fun σ F M H rs rm w E tk =>
  hi σ F M H rs repM0 w _ fun ds J F2 H2 hP e2 w2 st => by
    obtain ⟨Iv, h0, hs, hd⟩ := h ds hP
    refine ⟨fun i m σ' H' => m = ds.length - i ∧ i ≤ ds.length ∧ ∃ μ' ρ' F' M', Iv i μ' ρ' ∧ Same F2 F' ∧ Stp F M μ F' M' H' μ' ∧ RepS F' ρ' σ', ⟨ds.length, rfl, Nat.zero_le _, μ, ρ, F2, M, h0, Same.refl F2, Stp.pure rm e2 w2, rs.mono e2⟩, ?_⟩
    rintro i m σ' H' ⟨rfl, hle, μ', ρ', F', M', hI, eF, s, rs'⟩
    obtain ⟨s1, s2⟩ := st F' M' H' eF s.wd Fix.zero
    by_cases hlt : i < ds.length
    · right
      obtain ⟨go, yl⟩ := s2 i _ (List.getElem?_eq_getElem hlt)
      refine ⟨go, fun σ' H' => ∃ μ' ρ' F' M', Iv (i + 1) μ' ρ' ∧ Same F2 F' ∧ Stp F M μ F' M' H' μ' ∧ RepS F' ρ' σ', fun σ3 H3 p3 => ⟨ds.length - (i + 1), by omega, rfl, by omega, p3⟩, fun x H3 y => ?_⟩
      obtain ⟨F3, e3, w3, r3⟩ := yl x H3 y
      obtain ⟨js, ρ1, ha, hb⟩ := hs i _ μ' ρ' (List.getElem?_eq_getElem hlt) hI
      refine ha σ' F3 M' H3 x (rs'.mono e3) w3 r3 _ fun σ2 rs2 _ => ?_
      have s3 : Stp F M μ F3 M' H3 μ' := s.trans (Stp.pure s.rm e3 w3)
      refine hb σ2 F3 M' H3 rs2 s3.rm w3 _ ⟨?_, ?_, ?_, ?_, ?_⟩
      · exact fun μ4 ρ4 σ4 F4 M4 H4 h4 s4 rs4 => ⟨μ4, ρ4, F4, M4, h4, eF.trans (e3.trans s4.ex), s3.trans s4, rs4⟩
      · exact fun μ4 d4 v4 F4 M4 H4 h4 s4 r4 => tk.rt μ4 d4 v4 F4 M4 H4 h4 (s3.trans s4) r4
      · exact fun _ _ _ _ _ _ h4 => h4.elim
      · exact fun μ4 ρ4 σ4 F4 M4 H4 h4 s4 rs4 => ⟨μ4, ρ4, F4, M4, h4, eF.trans (e3.trans s4.ex), s3.trans s4, rs4⟩
      · exact fun μ4 x4 F4 M4 H4 d4 h4 s4 r4 => tk.ex μ4 x4 F4 M4 H4 d4 h4 (s3.trans s4) r4
    · left
      have ei : i = ds.length := by omega
      subst ei
      exact ⟨s1, hd μ' ρ' hI σ' F' M' H' rs' s.rm s.wd E (tk.step s)⟩
end
end Mf
set_option maxRecDepth 100000
set_option maxHeartbeats 4000000
/-! The law's row: _law_taken. -/
namespace Mf
open PySem L2 PyProof.Rows
variable [Tt] [Xw]
local macro_rules
  | `(tactic| walk_at "rd") => `(tactic| first
    | exact rd_addI | refine rd_addL ?_ | refine rd_addS ?_ | exact rd_sub | refine rd_mulI ?_ | refine rd_mulL ?_ ?_ ?_ | refine rd_mulS ?_ ?_ ?_ | refine rd_div ?_ | refine rd_mod ?_ | refine rd_pow ?_ | exact ud_neg
    | exact rd_ltI | exact rd_leI | exact rd_gtI | exact rd_geI | exact rd_ltS | exact rd_leS | exact rd_eqI | exact rd_neI
    | exact rd_ixT rfl | exact rd_ixL rfl | exact cd_lenL | exact cd_lenT | exact cd_int | exact cd_abs | exact cd_tupL | exact cd_listL | exact cd_listT | exact cd_all | exact cd_any | exact cd_sumT | exact bd_count)
local macro_rules
  | `(tactic| walk_at "ev1") => `(tactic| first
    | exact ev_int | exact ev_str | exact ev_bl | exact ev_non | exact ea_nil | refine ea_cons ?_ ?_ | exact ev_var rfl | exact ev_ty
    | refine ev_op ?_ ?_ ?_ | refine ev_un ?_ ?_ | refine ev_cb ?_ ?_ | refine ev_tup ?_ (by decide) | refine ev_bm ?_ ?_ ?_
    | exact et_yes | refine et_test ?_ | refine et_B ?_ | refine et_or ?_ (fun _ => ?_) | refine et_and ?_ (fun _ => ?_) | refine ev_andV ?_ (fun _ => ?_) | refine ev_orV ?_ (fun _ => ?_) | refine ev_notV ?_ | refine ev_chain ?_ ?_ ?_ (fun _ => ?_) (fun _ => ?_) | refine et_not ?_ | exact eo_none | refine eo_some ?_ | walk_at "rd")
local macro_rules
  | `(tactic| walk_at "ev") => `(tactic| repeat' walk_at "ev1")

abbrev sLawTaken : Stmt := topS 67
theorem scLawTaken : FnScope ["_law_row", "_law_many", "_law_found", "_law_cell"] ["_law_row", "_law_many"] (defScope sLawTaken) := ⟨rfl, rfl, rfl, by decide +kernel, rfl, by decide +kernel, by decide +kernel⟩
section
variable {P : Program} {w : World} {K : PySem.W.Frag} {mg : Str → Option Value} {base : Heap}
abbrev scrD (K : PySem.W.Frag) (sc : Addr) (ns : List Int) : D := .own sc fun F => SqL K F sc (ns.map V.int)
abbrev rowL (K : PySem.W.Frag) (sc : Addr) (ns : List Int) (i z w : Int) : List D := [scrD K sc ns, .int i, .int z, .int w]
structure RowOk (i z : Int) : Prop where
  i0 : 0 ≤ i
  z0 : 0 ≤ z
  z1 : z < 2147483647
theorem cd_lenO {μ : Mu} {sc : Addr} {ns : List Int} : CD μ (rLenU K) [scrD K sc ns] (.int (ns.length : Nat)) := fun F M H vs r1 rm wd Q q => by
  cases r1 with
  | cons r1 t =>
    cases t
    cases r1 with
    | own h => exact ⟨_, ns.length, rfl, Or.inl ⟨_, h H wd.f, (List.length_map ..).symm⟩, q _ F H (Same.refl F) wd (.int _)⟩
theorem rd_ixO {μ : Mu} {sc : Addr} {ns : List Int} {i x : Int} (h : atI ns i = some x) : RD μ (rIx K) (scrD K sc ns) (.int i) (.int x) := fun F M H v w r1 r2 rm wd Q q => by
  cases r2
  cases r1 with
  | own hs => exact Or.inl ⟨_, _, i, .int x, rfl, rfl, hs H wd.f, by
      unfold atI at h ⊢
      rw [List.length_map]
      cases e : ixN ns.length i with
      | none =>
        rw [e] at h
        cases h
      | some j =>
        rw [e] at h
        show (ns.map V.int)[j]? = _
        have h : ns[j]? = some x := h
        rw [List.getElem?_map, h]
        rfl, q _ F H (Same.refl F) wd (.int _)⟩
/-- what is taken is below many, and the row stays one -/
def TakenT (K : PySem.W.Frag) (a sc : Addr) (ns : List Int) (many : Int) (μ : Mu) (d : D) : Prop := ∃ n i z w, d = .int n ∧ 0 ≤ n ∧ n < many ∧ μ a = some (.l (rowL K sc ns i z w)) ∧ RowOk i z
def spTk (K : PySem.W.Frag) : Sp := fun vs H Q _ => ∃ (F M : Hp) (a sc : Addr) (ns : List Int) (i z c many : Int) (xs : List V), Wd F M H ∧ RepL F [.ref a, .int many] vs ∧ M a = some (.lst xs) ∧ RepL F (rowL K sc ns i z c) xs ∧ RowOk i z ∧ 0 < many ∧ many ≤ 1000 ∧
  ∀ n F2 H2 xs' i' z' c', 0 ≤ n → n < many → Same F F2 → Wd F2 (upd M a (.lst xs')) H2 → RepL F2 (rowL K sc ns i' z' c') xs' → RowOk i' z' → Q (.int n) H2
theorem run_tk {t : TS} {N : List Str} {vs : List V} {H : Hp} {Q : VK} {E : XK} (hs : spTk K vs H Q E)
    (hb : ∀ a sc ns i z c many, RowOk i z → 0 < many → many ≤ 1000 → Sv (mset mu0 a (rowL K sc ns i z c)) t (start0 N.length [.ref a, .int many]) { rt := TakenT K a sc ns many }) : t { nx := fun _ H' => Q .non H', rt := Q } (L2.start N vs) H := by
  obtain ⟨F, M, a, sc, ns, i, z, c, many, xs, w, r, hM, hx, ok, m0, m1, q⟩ := hs
  have rm : RepM F M (mset mu0 a (rowL K sc ns i z c)) := fun b l e => by
    by_cases hb : b = a
    · subst hb
      rw [mset_same] at e
      cases e
      exact ⟨_, hM, xs, rfl, hx⟩
    · rw [mset_ne hb] at e
      cases e
  refine hb a sc ns i z c many ok m0 m1 _ F M H (repS_start r) rm w _ ⟨?_, ?_, ?_, ?_, ?_⟩
  · exact fun _ _ _ _ _ _ h => h.elim
  · rintro μ' d v F2 M2 H2 ⟨n, i', z', c', rfl, n0, n1, hm, ok'⟩ s r2
    obtain ⟨xs', h1, h2⟩ := s.rm.l hm
    cases r2
    refine q n F2 H2 xs' i' z' c' n0 n1 s.ex (s.wd.less fun b o e => ?_) h2 ok'
    by_cases hb : b = a
    · subst hb
      rw [upd_same] at e
      cases e
      exact h1
    · rw [upd_ne hb] at e
      exact (s.fr b o e (mset_ne hb)).1
  · exact fun _ _ _ _ _ _ h => h.elim
  · exact fun _ _ _ _ _ _ h => h.elim
  · exact fun _ _ _ _ _ _ h => h.elim

theorem q_asc {μ : Mu} {ρ : DEnv} {k : Kt} {a b v : TS} (h : Sv μ (tSeq a (tSeq b v)) ρ k) : Sv μ (tSeq (tSeq a b) v) ρ k := h
theorem dTakenX (F : FunAt K mg "_law_taken" sLawTaken ["_law_row", "_law_many"]) (T : Bts mg) : Def P w K mg base CX0 "_law_taken" 1 ["_law_row", "_law_many"] [] (spTk K) := by
  obtain ⟨f, fd, F, m, b⟩ := F
  refine ⟨f, fd, [], F.ok scLawTaken (fun vs H Q E h => ?_) (fun cdv A outer s H vs Q E hr h => ⟨_, (pss_cons (ps_if (pt_cmpR op_gtU (pe_ix (uIx K rfl) (pv 0) pe_int (fun _ _ => rfl)) pe_int (nomark _)) (pss_cons (ps_set (i := 2) scLawTaken.nd rfl (by first | exact Or.inl rfl | exact Or.inr rfl) (pe_op op_modU (pe_callTy call_intU (by rfl) T.int (by decide +kernel) (pa_cons (pe_ix (uIx K rfl) (pv 0) pe_int (fun _ _ => rfl)) pa_nil)) (pv 1)))
      (pss_cons (ps_asg (pe_op op_divU (pe_ix (uIx K rfl) (pv 0) pe_int (fun _ _ => rfl)) (pv 1)) (pg_sub (pv 0) pe_int set_list))
      (pss_one (ps_ret (pv 2))))) pss_nil)
      (pss_cons (ps_asg (pe_op op_addU (pe_ix (uIx K rfl) (pv 0) pe_int (fun _ _ => rfl)) pe_int) (pg_sub (pv 0) pe_int set_list))
      (pss_cons (ps_if (pt_cmpR op_gtU (pe_ix (uIx K rfl) (pv 0) pe_int (fun _ _ => rfl)) (pe_callB (uLen K rfl) (by rfl) T.len (by decide +kernel) (pa_cons (pe_ix (uIx K rfl) (pv 0) pe_int (fun _ _ => rfl)) pa_nil)) (nomark _)) (pss_cons (ps_asg (pe_op op_modU (pe_callTy call_intU (by rfl) T.int (by decide +kernel) (pa_cons (pe_op op_addU (pe_op op_mulU (pe_ix (uIx K rfl) (pv 0) pe_int (fun _ _ => rfl)) pe_int) pe_int) pa_nil)) pe_int) (pg_sub (pv 0) pe_int set_list))
      (pss_one (ps_ret (pe_op op_modU (pe_callTy call_intU (by rfl) T.int (by decide +kernel) (pa_cons (pe_op op_divU (pe_ix (uIx K rfl) (pv 0) pe_int (fun _ _ => rfl)) pe_int) pa_nil)) (pv 1))))) pss_nil)
      (pss_cons (ps_set (i := 3) scLawTaken.nd rfl (by first | exact Or.inl rfl | exact Or.inr rfl) (pe_ix (uIx K rfl) (pe_ix (uIx K rfl) (pv 0) pe_int (fun _ _ => rfl)) (pe_op op_subU (pe_ix (uIx K rfl) (pv 0) pe_int (fun _ _ => rfl)) pe_int) (fun _ _ => rfl)))
      (pss_cons (ps_asg (pe_op op_modU (pe_callTy call_intU (by rfl) T.int (by decide +kernel) (pa_cons (pe_op op_addU (pe_op op_addU (pe_op op_mulU (pe_ix (uIx K rfl) (pv 0) pe_int (fun _ _ => rfl)) pe_int) (pv 3)) pe_int) pa_nil)) pe_int) (pg_sub (pv 0) pe_int set_list))
      (pss_cons (ps_if (pt_cmpR op_geU (pv 3) (pe_op op_powU pe_int pe_int) (nomark _)) (pss_one (ps_asg (pe_op op_divU (pv 3) (pv 1)) (pg_sub (pv 0) pe_int set_list))) pss_nil)
      (pss_one (ps_ret (pe_op op_modU (pe_callTy call_intU (by rfl) T.int (by decide +kernel) (pa_cons (pv 3) pa_nil)) (pv 1)))))))))), run_tk h fun a sc ns i z c many ok m0 m1 => ?_⟩), m, F.kp, b, .nil⟩
  · obtain ⟨F1, M1, a, sc, ns, i, z, c, many, xs, _, r, _⟩ := h
    rw [← r.len]
    rfl
  · have dv : CDivW 0 many := divOk m0 (by omega)
    refine q_if (b := decide (0 < c)) (et_test (ev_op (ev_op (ev_var rfl) ev_int (rd_ixM mset_same rfl)) ev_int rd_gtI)) (fun hb => ?_) fun hb => ?_
    · refine q_seq (q_asg (d := .int (c % many)) (ev_op (ev_cb (ea_cons (ev_op (ev_var rfl) ev_int (rd_ixM mset_same rfl)) ea_nil) cd_int) (ev_var rfl) (rd_mod m0)) asg_name ?_)
      refine q_seq (q_setL (j := 3) (ev_op (ev_op (ev_var rfl) ev_int (rd_ixM mset_same rfl)) (ev_var rfl) (rd_div dv)) (ev_var rfl) mset_same ev_int (by show 3 < 4; decide) ?_)
      rw [mset_mset]
      exact sv_ret (d := .int (c % many)) (ev_var rfl) ⟨c % many, i, z, c / many, rfl, Int.emod_nonneg _ (by omega), Int.emod_lt_of_pos _ m0, mset_same, ok⟩
    · refine q_next ?_
      refine q_setL (j := 1) (d := .int (i + 1)) (ev_op (ev_op (ev_var rfl) ev_int (rd_ixM mset_same rfl)) ev_int rd_addI) (ev_var rfl) mset_same ev_int (by show 1 < 4; decide) ?_
      rw [mset_mset]
      show Sv (mset mu0 a (rowL K sc ns (i + 1) z c)) _ _ _
      refine q_if (b := decide ((ns.length : Int) < i + 1)) (et_test (ev_op (ev_op (ev_var rfl) ev_int (rd_ixM mset_same rfl)) (ev_cb (ea_cons (ev_op (ev_var rfl) ev_int (rd_ixM mset_same rfl)) ea_nil) cd_lenO) rd_gtI)) (fun hb => ?_) fun hb => ?_
      · have hz0 := ok.z0
        have hz1 := ok.z1
        have hm1 : CMulW z 48271 := mulOk (small_big (Nat.le_trans (show z.natAbs ≤ 2147483647 by omega) (by decide))) (small_big (by decide))
        refine q_seq (q_setL (j := 2) (d := .int ((z * 48271 + 11) % 2147483647)) (ev_op (ev_cb (ea_cons (ev_op (ev_op (ev_op (ev_var rfl) ev_int (rd_ixM mset_same rfl)) ev_int (rd_mulI hm1)) ev_int rd_addI) ea_nil) cd_int) ev_int (rd_mod (by decide))) (ev_var rfl) mset_same ev_int (by show 2 < 4; decide) ?_)
        rw [mset_mset]
        show Sv (mset mu0 a (rowL K sc ns (i + 1) ((z * 48271 + 11) % 2147483647) c)) _ _ _
        exact sv_ret (d := .int ((z * 48271 + 11) % 2147483647 / 7 % many)) (ev_op (ev_cb (ea_cons (ev_op (ev_op (ev_var rfl) ev_int (rd_ixM mset_same rfl)) ev_int (rd_div (divOk (by decide) (by decide)))) ea_nil) cd_int) (ev_var rfl) (rd_mod m0)) ⟨_, i + 1, _, c, rfl, Int.emod_nonneg _ (by omega), Int.emod_lt_of_pos _ m0, mset_same, ⟨by have := ok.i0; omega, by omega, by omega⟩⟩
      · have hz0 := ok.z0
        have hz1 := ok.z1
        have hi0 := ok.i0
        have hm1 : CMulW z 48271 := mulOk (small_big (Nat.le_trans (show z.natAbs ≤ 2147483647 by omega) (by decide))) (small_big (by decide))
        have hle := of_decide_eq_false hb
        obtain ⟨n, rfl⟩ : ∃ n : Nat, i = (n : Int) := ⟨i.toNat, by omega⟩
        have hx : atI ns ((n : Int) + 1 - 1) = some (ns.getD n 0) := by
          rw [show (n : Int) + 1 - 1 = (n : Int) by omega]
          exact atI_getD (by omega) 0
        generalize ns.getD n 0 = x at hx
        refine q_next (q_asg (d := .int x) (ev_op (ev_op (ev_var rfl) ev_int (rd_ixM mset_same rfl)) (ev_op (ev_op (ev_var rfl) ev_int (rd_ixM mset_same rfl)) ev_int rd_sub) (rd_ixO hx)) asg_name ?_)
        refine q_setL (j := 2) (d := .int ((z * 48271 + x + 11) % 2147483647)) (ev_op (ev_cb (ea_cons (ev_op (ev_op (ev_op (ev_op (ev_var rfl) ev_int (rd_ixM mset_same rfl)) ev_int (rd_mulI hm1)) (ev_var rfl) rd_addI) ev_int rd_addI) ea_nil) cd_int) ev_int (rd_mod (by decide))) (ev_var rfl) mset_same ev_int (by show 2 < 4; decide) ?_
        rw [mset_mset]
        show Sv (mset mu0 a (rowL K sc ns (n + 1) ((z * 48271 + x + 11) % 2147483647) c)) _ _ _
        refine q_if (b := decide ((10 : Int) ^ (18 : Int).toNat ≤ x)) (et_test (ev_op (ev_var rfl) (ev_op ev_int ev_int (rd_pow ?_)) rd_geI)) (fun hb => ?_) fun hb => q_next ?_
        · exact ⟨by decide, by decide, by decide⟩
        · refine q_setL (j := 3) (d := .int (x / many)) (ev_op (ev_var rfl) (ev_var rfl) (rd_div dv)) (ev_var rfl) mset_same ev_int (by show 3 < 4; decide) ?_
          rw [mset_mset]
          exact sv_ret (d := .int (x % many)) (ev_op (ev_cb (ea_cons (ev_var rfl) ea_nil) cd_int) (ev_var rfl) (rd_mod m0)) ⟨_, n + 1, _, x / many, rfl, Int.emod_nonneg _ (by omega), Int.emod_lt_of_pos _ m0, mset_same, ⟨by omega, by omega, by omega⟩⟩
        · exact sv_ret (d := .int (x % many)) (ev_op (ev_cb (ea_cons (ev_var rfl) ea_nil) cd_int) (ev_var rfl) (rd_mod m0)) ⟨_, n + 1, _, c, rfl, Int.emod_nonneg _ (by omega), Int.emod_lt_of_pos _ m0, mset_same, ⟨by omega, by omega, by omega⟩⟩
end
end Mf
set_option maxRecDepth 100000
set_option maxHeartbeats 4000000
/-! The law's row, told by what it is alone. -/
namespace Mf
open PySem PySem.Spec PyProof.Rows L2
variable [Tt] [Xw]
def RowH (a sc : Addr) (h : Heap) : Prop := ∃ (i z c : Int) (t1 t2 t3 : Tok) (n : Nat), h.get? a = some { cls := .type "list", data := .seq (List.toArray [Value.ref sc, .int i t1, .int z t2, .int c t3]) n } ∧ RowOk i z
abbrev rowO (a sc : Addr) : HO := .ext (RowH a sc)
def RowAt (K : PySem.W.Frag) (a : Addr) (F : Hp) : Prop := ∃ (sc : Addr) (ns : List Int), F a = some (rowO a sc) ∧ SqL K F sc (ns.map V.int)
abbrev rowD (K : PySem.W.Frag) (a : Addr) : D := .own a (RowAt K a)
section
variable {P : Program} {w : World} {K : PySem.W.Frag} {mg : Str → Option Value} {base : Heap}
/-- one object, told otherwise -/
theorem hok_as {H : Hp} {h : Heap} {a : Addr} {o u : HO} (hok : HOk P w H h) (ha : H a = some o) (n1 : ∀ xs, o ≠ .tup xs) (n2 : ∀ x, o ≠ .own x) (new : ObjOk P w (upd H a u) h a u) : HOk P w (upd H a u) h := fun b x e => by
  by_cases hb : b = a
  · subst hb
    rw [upd_same] at e
    cases e
    exact new
  · rw [upd_ne hb] at e
    exact (hok b x e).stay (fun _ _ _ q => q) (fun c q => by rw [upd_ne fun z => by rw [z, ha] at q; exact n2 _ (Option.some.inj q)]; exact q) fun c xs q => by rw [upd_ne fun z => by rw [z, ha] at q; exact n1 _ (Option.some.inj q)]; exact q
theorem sq_of {F F' : Hp} {a sc : Addr} {xs : List V} {φ : Heap → Prop} (hF : F a = some (.ext φ)) (h : SqL K F sc xs) (e : Same (del F a) F') : SqL K F' sc xs := by
  have key : ∀ o, F sc = some o → (∀ f, o ≠ .ext f) → F' sc = some o := fun o ho hn => by
    refine e _ _ ?_
    rw [del_ne fun z => by rw [z, hF] at ho; exact hn _ (Option.some.inj ho).symm]
    exact ho
  rcases h with (h | ⟨o, h⟩) | h
  · exact .inl (.inl (key _ h (fun f z => by cases z)))
  · exact .inl (.inr ⟨o, key _ h (fun f z => by cases z)⟩)
  · exact .inr h

def fTk (K : PySem.W.Frag) (ds : List D) (p : D → Prop) : Prop := ∃ (a : Addr) (many : Int), ds = [rowD K a, .int many] ∧ p = (fun d => ∃ n : Int, d = .int n ∧ 0 ≤ n ∧ n < many) ∧ 0 < many ∧ many ≤ 1000
theorem tabs_row {H : Hp} {h0 : Heap} {a sc : Addr} {o : HO} (t : LamX.Tabs Tt.T H) (h : H a = some (rowO a sc)) (hok : HOk P w H h0) : LamX.Tabs Tt.T (upd H a o) := fun q hq => by
  obtain ⟨ps, h1, h2, h3⟩ := t q hq
  refine ⟨ps, by rw [upd_ne fun z => by rw [z, h] at h1; cases h1]; exact h1, h2, fun pos cv hc => ?_⟩
  obtain ⟨c, e1, e2⟩ := h3 pos cv hc
  refine ⟨c, e1, ?_⟩
  rw [upd_ne fun z => ?_]
  · exact e2
  · subst z
    obtain ⟨⟨oc, vs, tk, g1, g2, _⟩, _, _⟩ := hok c _ e2
    obtain ⟨⟨i, z, cc, t1, t2, t3, n, g3, _⟩, _, _⟩ := hok c _ h
    rw [g3] at g1
    cases g1
    cases g2
theorem dTaken (D0 : Def P w K mg base CX0 "_law_taken" 1 ["_law_row", "_law_many"] [] (spTk K)) : Def P w K mg base CX0 "_law_taken" 1 ["_law_row", "_law_many"] [] (spN (fTk K)) := by
  obtain ⟨f, fd, ds0, Fn, m, kp, b, hv⟩ := D0
  refine ⟨f, fd, ds0, ⟨fun vs H Q E h => ?_, fun A outer s H args us vs Q E hr e0 hb hvs hs => ?_⟩, m, kp, b, hv⟩
  · obtain ⟨F, M, ds, p, _, r, ⟨a, many, rfl, _⟩, _⟩ := h
    rw [← r.len]
    rfl
  · obtain ⟨F, M, ds, p, wd, r, ⟨a, many, rfl, rfl, m0, m1⟩, q⟩ := hs
    cases r with
    | cons r1 r =>
    cases r with
    | cons r2 r =>
    cases r
    cases r2
    cases r1 with
    | own hR =>
    obtain ⟨sc, ns, hF, hsq⟩ := hR F (Same.refl F)
    have hH : H a = some (rowO a sc) := wd.f _ _ hF
    obtain ⟨⟨i, z, c, t1, t2, t3, n, hget, ok⟩, _, _⟩ := e0.hok a _ hH
    have hM : M a = none := by
      rcases wd.d a with h | h
      · rw [hF] at h
        cases h
      · exact h
    have hvl : Vals [V.ref sc, .int i, .int z, .int c] [Value.ref sc, .int i t1, .int z t2, .int c t3] := .cons rfl (.cons ⟨_, rfl⟩ (.cons ⟨_, rfl⟩ (.cons ⟨_, rfl⟩ .nil)))
    have hok1 : HOk P w (upd H a (.lst [V.ref sc, .int i, .int z, .int c])) s.heap := hok_as e0.hok hH (fun _ z => by cases z) (fun _ z => by cases z) ⟨by rw [sizeLine_eq]; show 4 ≤ _; omega, _, n, hvl, hget⟩
    have e1 : Env0 P w K mg base A outer s (upd H a (.lst [V.ref sc, .int i, .int z, .int c])) := ⟨e0.frames, e0.mod, fun b o e => ⟨(e0.bs b o e).1, by rw [upd_ne fun z => by have := (e0.bs b o e).2; rw [z, hH] at this; cases this]; exact (e0.bs b o e).2⟩, e0.bsz, e0.funs, fun b hb => by rw [upd_ne fun z => by have := e0.frf b hb; rw [z, hH] at this; cases this]; exact e0.frf b hb, hok1, e0.bare⟩
    have wd1 : Wd (del F a) (upd M a (.lst [V.ref sc, .int i, .int z, .int c])) (upd H a (.lst [V.ref sc, .int i, .int z, .int c])) := by
      refine ⟨fun b o e => ?_, same_upd2 wd.m, fun b => ?_, tabs_row wd.t hH e0.hok, fun b ps e => ?_, ours_upd wd.mm trivial⟩
      · have hb : b ≠ a := fun z => by rw [z, del_same] at e; cases e
        rw [del_ne hb] at e
        rw [upd_ne hb]
        exact wd.f _ _ e
      · by_cases hb : b = a
        · exact .inl (by rw [hb, del_same])
        · rw [del_ne hb, upd_ne hb]
          exact wd.d b
      · have hb : b ≠ a := fun z => by rw [z, del_same] at e; cases e
        rw [del_ne hb] at e
        exact wd.ft b ps e
    have main := Fn.run A outer s _ args us _ (fun v H' => ∃ n i' z' c', v = V.int n ∧ H' a = some (.lst [V.ref sc, .int i', .int z', .int c']) ∧ RowOk i' z' ∧ Q v (upd H' a (rowO a sc))) E hr e1 hb hvs
      ⟨del F a, _, a, sc, ns, i, z, c, many, _, wd1, .cons (.ref a) (.cons (.int many) .nil), upd_same, .cons (.own fun F' e => sq_of hF hsq e) (.cons (.int i) (.cons (.int z) (.cons (.int c) .nil))), ok, m0, m1, fun n F2 H2 xs' i' z' c' n0 n1 eF w2 r2 ok' => ?_⟩
    · refine codeAny_mono main fun r s' hq => ?_
      cases r with
      | error e => exact (show False from hq).elim
      | ok fl =>
        cases fl with
        | next => exact False.elim hq
        | brk => exact False.elim hq
        | cont => exact False.elim hq
        | ret u =>
          obtain ⟨v, H', hos, hba, hun, hok', rv, n2, i2, z2, c2, hv2, hH2, ok2, hQ⟩ := hq
          have n3 : ∀ b o, H b = some o → (∀ f, o ≠ .ext f) → b ≠ a := fun b o e h z => by
            rw [z, hH] at e
            exact h _ (Option.some.inj e).symm
          have n4 : ∀ b, H b = none → b ≠ a := fun b e z => by
            rw [z, hH] at e
            cases e
          refine ⟨v, upd H' a (rowO a sc), hos, hba, ⟨fun b o h1 h2 => hun.keep b o h1 (by rw [upd_ne (n4 b h2)]; exact h2), fun b o h1 h2 => hun.slot b o h1 (by rw [upd_ne (n4 b h2)]; exact h2), fun b o h1 h2 h3 => by rw [upd_ne (n4 b h2)]; exact hun.free b o h1 (by rw [upd_ne (n4 b h2)]; exact h2) h3, hun.there,
            fun b xs e => ?_, fun b o u e => ?_, fun b ps e => ?_⟩, ?_, rv, hQ⟩
          · have hb := n3 b _ e (fun f z => by cases z)
            rw [upd_ne hb]
            exact hun.tups b xs (by rw [upd_ne hb]; exact e)
          · have hb := n3 b _ e (fun f z => by cases z)
            rw [upd_ne hb]
            exact hun.frzs b o u (by rw [upd_ne hb]; exact e)
          · have hb := n3 b _ e (fun f z => by cases z)
            rw [upd_ne hb]
            exact hun.tbls b ps (by rw [upd_ne hb]; exact e)
          · obtain ⟨hz, its, n5, rv5, hg5⟩ := hok' a _ hH2
            refine hok_as hok' hH2 (fun _ z => by cases z) (fun _ z => by cases z) ⟨?_, ⟨_, hg5⟩, fun h1 h2 ⟨i, z, c, t1, t2, t3, n, hg, ok⟩ st => ⟨i, z, c, t1, t2, t3, n, st _ hg, ok⟩⟩
            cases rv5 with
            | cons a1 rv5 =>
            cases rv5 with
            | cons a2 rv5 =>
            cases rv5 with
            | cons a3 rv5 =>
            cases rv5 with
            | cons a4 rv5 =>
            cases rv5
            obtain rfl := a1
            obtain ⟨t1, rfl⟩ := a2
            obtain ⟨t2, rfl⟩ := a3
            obtain ⟨t3, rfl⟩ := a4
            exact ⟨i2, z2, c2, t1, t2, t3, n5, hg5, ok2⟩
    · cases r2 with
      | cons a1 r2 =>
      cases r2 with
      | cons a2 r2 =>
      cases r2 with
      | cons a3 r2 =>
      cases r2 with
      | cons a4 r2 =>
      cases r2
      cases a1
      cases a2
      cases a3
      cases a4
      have hA := w2.m a _ upd_same
      have nA : F2 a = none := by
        rcases w2.d a with h | h
        · exact h
        · rw [upd_same] at h
          cases h
      refine ⟨n, i', z', c', rfl, hA, ok', q (.int n) (.int n) (upd F2 a (rowO a sc)) (upd H2 a (rowO a sc)) ⟨n, rfl, n0, n1⟩ (fun b o e => ?_) ⟨same_upd2 w2.f, fun b o e => ?_, fun b => ?_, tabs_write w2.t hA (fun _ z => by cases z) (fun _ z => by cases z), not_tbl w2.ft (fun _ z => by cases z), wd.mm⟩ (.int n)⟩
      · by_cases hb : b = a
        · subst hb
          rw [hF] at e
          rw [upd_same]
          exact e
        · rw [upd_ne hb]
          exact eF _ _ (by rw [del_ne hb]; exact e)
      · have hb : b ≠ a := fun z => by rw [z, hM] at e; cases e
        rw [upd_ne hb]
        exact w2.m _ _ (by rw [upd_ne hb, upd_ne hb]; exact e)
      · by_cases hb : b = a
        · exact .inr (by rw [hb]; exact hM)
        · rw [upd_ne hb]
          rcases w2.d b with h | h
          · exact .inl h
          · rw [upd_ne hb, upd_ne hb] at h
            exact .inr h
end
end Mf
set_option maxRecDepth 100000
set_option maxHeartbeats 4000000
/-! The law's own defs that draw. -/
namespace Mf
open PySem L2 PyProof.Rows
variable [Tt] [Xw]
local macro_rules
  | `(tactic| walk_at "rd") => `(tactic| first
    | exact rd_addI | refine rd_addL ?_ | refine rd_addS ?_ | exact rd_sub | refine rd_mulI ?_ | refine rd_mulL ?_ ?_ ?_ | refine rd_mulS ?_ ?_ ?_ | refine rd_div ?_ | refine rd_mod ?_ | refine rd_pow ?_ | exact ud_neg
    | exact rd_ltI | exact rd_leI | exact rd_gtI | exact rd_geI | exact rd_ltS | exact rd_leS | exact rd_eqI | exact rd_neI
    | exact rd_ixT rfl | exact rd_ixL rfl | exact cd_lenL | exact cd_lenT | exact cd_int | exact cd_abs | exact cd_tupL | exact cd_listL | exact cd_listT | exact cd_all | exact cd_any | exact cd_sumT | exact bd_count)
local macro_rules
  | `(tactic| walk_at "ev1") => `(tactic| first
    | exact ev_int | exact ev_str | exact ev_bl | exact ev_non | exact ea_nil | refine ea_cons ?_ ?_ | exact ev_var rfl | exact ev_ty
    | refine ev_op ?_ ?_ ?_ | refine ev_un ?_ ?_ | refine ev_cb ?_ ?_ | refine ev_tup ?_ (by decide) | refine ev_bm ?_ ?_ ?_
    | exact et_yes | refine et_test ?_ | refine et_B ?_ | refine et_or ?_ (fun _ => ?_) | refine et_and ?_ (fun _ => ?_) | refine ev_andV ?_ (fun _ => ?_) | refine ev_orV ?_ (fun _ => ?_) | refine ev_notV ?_ | refine ev_chain ?_ ?_ ?_ (fun _ => ?_) (fun _ => ?_) | refine et_not ?_ | exact eo_none | refine eo_some ?_ | walk_at "rd")
local macro_rules
  | `(tactic| walk_at "ev") => `(tactic| repeat' walk_at "ev1")

abbrev sLawPick : Stmt := topS 68
theorem scLawPick : FnScope ["_law_row", "_law_things"] ["_law_row", "_law_things"] (defScope sLawPick) := ⟨rfl, rfl, rfl, by decide +kernel, rfl, by decide +kernel, by decide +kernel⟩
abbrev sLawTwo : Stmt := topS 70
theorem scLawTwo : FnScope ["_law_row", "_law_moods_here"] ["_law_row", "_law_moods_here"] (defScope sLawTwo) := ⟨rfl, rfl, rfl, by decide +kernel, rfl, by decide +kernel, by decide +kernel⟩
abbrev sLawMoods : Stmt := topS 71
theorem scLawMoods : FnScope ["_law_row"] ["_law_row"] (defScope sLawMoods) := ⟨rfl, rfl, rfl, by decide +kernel, rfl, by decide +kernel, by decide +kernel⟩
abbrev sLawCounts : Stmt := topS 73
theorem scLawCounts : FnScope ["_law_moods_here", "_law_text", "_law_mood", "_law_sign"] ["_law_moods_here", "_law_text"] (defScope sLawCounts) := ⟨rfl, rfl, rfl, by decide +kernel, rfl, by decide +kernel, by decide +kernel⟩
abbrev sLawCrowd : Stmt := topS 74
theorem scLawCrowd : FnScope ["_law_row", "_law_folk", "_law_most", "_law_turn"] ["_law_row", "_law_folk", "_law_most"] (defScope sLawCrowd) := ⟨rfl, rfl, rfl, by decide +kernel, rfl, by decide +kernel, by decide +kernel⟩
section
variable {P : Program} {w : World} {K : PySem.W.Frag} {mg : Str → Option Value} {base : Heap}
theorem FunAt.defN {x : Str} {st : Stmt} {N ps : List Str} {k : Nat} {fr : List D → (D → Prop) → Prop} (F : FunAt K mg x st ps) (S : FnScope N ps (defScope st)) (n : ∀ ds d, fr ds d → ds.length = ps.length)
    (hbody : ∀ (cdv : Value) (A : Around) (outer : List Env) (s : Shared) (H : Hp) (E : XK) (f : Addr), Room k (A.deeper (envOfC x (defScope st) s.heap.objs.size f cdv)) →
      ∃ t, PSs (cxOf CX0 P w K mg base N x (defScope st) f cdv A outer s H E).nox (defBody st) t ∧ ∀ ds p, fr ds p → Sv mu0 t (start0 N.length ds) { nx := fun _ _ => p .non, rt := fun _ d' => p d' }) :
    Def P w K mg base CX0 x (k + 1) ps [] (spN fr) := by
  obtain ⟨f, fd, F, m, b⟩ := F
  refine ⟨f, fd, [], F.ok S (fun vs H Q E h => ?_) (fun cdv A outer s H vs Q E hr h => ?_), m, F.kp, b, .nil⟩
  · obtain ⟨F1, M1, ds, d, _, r, hf, _⟩ := h
    rw [← r.len]
    exact n ds d hf
  · obtain ⟨t, ht, hq⟩ := hbody cdv A outer s H E f hr
    exact ⟨t, ht, run_svN h hq⟩
def isOf (xs : List Str) (d : D) : Prop := ∃ x, x ∈ xs ∧ d = .str x
def fPick (K : PySem.W.Frag) (ds : List D) (p : D → Prop) : Prop := ∃ (a : Addr) (xs : List Str), ds = [rowD K a, .lst (xs.map D.str)] ∧ p = isOf xs ∧ xs ≠ [] ∧ xs.length ≤ 1000
theorem dLawPick (F : FunAt K mg "_law_pick" sLawPick ["_law_row", "_law_things"]) (T : Bts mg) (DLawTaken : Def P w K mg base CX0 "_law_taken" 1 ["_law_row", "_law_many"] [] (spN (fTk K))) :
    Def P w K mg base CX0 "_law_pick" 2 ["_law_row", "_law_things"] [] (spN (fPick K)) := by
  refine F.defN scLawPick (fun ds d h => ?_) (fun cdv A outer s H E f hr => ?_)
  · obtain ⟨a, xs, rfl, _⟩ := h
    rfl
  · refine ⟨_, (pss_one (ps_ret (pe_ix (uIx K rfl) (pv 1) (pe_def DLawTaken hr (by decide) (by rfl) pass0 (pa_cons (pv 0) (pa_cons (pe_callB (uLen K rfl) (by rfl) T.len (by decide +kernel) (pa_cons (pv 1) pa_nil)) pa_nil))) (fun _ _ => rfl)))), fun ds p h => ?_⟩
    obtain ⟨a, xs, rfl, rfl, hne, hl⟩ := h
    have hpos := List.length_pos_iff.mpr hne
    refine sv_retN (p := isOf xs) (en_op (p := fun d => d = .lst (xs.map D.str)) (q := fun d => ∃ n : Int, d = .int n ∧ 0 ≤ n ∧ n < (xs.length : Nat)) (en_of (ev_var rfl) rfl) (en_call (P := fun ds => ds = [rowD K a, .int ((xs.map D.str).length : Nat)]) (an_of (ea_cons (ev_var rfl) (ea_cons (ev_cb (ea_cons (ev_var rfl) ea_nil) cd_lenL) ea_nil)) rfl) ?_) ?_) fun d hd => hd
    · rintro ds rfl
      refine ⟨_, ⟨a, _, rfl, rfl, by rw [List.length_map]; omega, by rw [List.length_map]; omega⟩, fun d hd => ?_⟩
      rw [List.length_map] at hd
      exact hd
    · rintro x y rfl ⟨n, rfl, n0, n1⟩
      obtain ⟨j, rfl⟩ : ∃ j : Nat, n = (j : Int) := ⟨n.toNat, by omega⟩
      have hj : j < xs.length := by omega
      refine ⟨.str xs[j], ⟨xs[j], List.getElem_mem hj, rfl⟩, rd_ixL ?_⟩
      rw [atI_getD (by rw [List.length_map]; exact hj) .non, List.getD_eq_getElem?_getD, List.getElem?_map, List.getElem?_eq_getElem hj]
      rfl
def fLTwo (K : PySem.W.Frag) (ds : List D) (p : D → Prop) : Prop := ∃ (a : Addr) (m : Str), ds = [rowD K a, .str m] ∧ p = (fun d => ∃ t, d = .str t ∧ OkTwo m t) ∧ m ≠ "" ∧ m.length ≤ 6
theorem an_nil : EvAN μ tNil ρ fun ds => ds = [] := an_of ea_nil rfl
theorem en_srtS {Kf : PySem.W.Frag} {t : TA} {R : List Str → Prop} (h : EvAN μ t ρ fun ds => ∃ xs : List Str, R xs ∧ xs.length < 64 ∧ ds = [.lst (xs.map D.str)]) :
    EvN μ (tCB (rSortedS Kf) t) ρ fun d => ∃ xs ys : List Str, R xs ∧ ys.Perm xs ∧ sortedS ys = true ∧ d = .lst (ys.map D.str) := fun σ F M H rs rm w Q k =>
  h σ F M H rs rm w _ fun vs ds F1 H1 hd e1 w1 r1 => by
    obtain ⟨xs, hP, hl, rfl⟩ := hd
    cases r1 with
    | cons r1 t =>
    cases t
    cases r1 with
    | lst h1 t1 =>
    have e := t1.strs
    subst e
    exact ⟨_, xs, rfl, Or.inl (Or.inl (w1.f _ _ h1)), hl, fun ys p hp hs hf => k _ (.lst (ys.map D.str)) _ _ ⟨xs, ys, hP, hp, hs, rfl⟩ (e1.trans (w1.newS hf)) (w1.new hf) (.lst upd_same (RepL.ofStrs _))⟩
theorem join_cps : ∀ ys : List Str, (Txt.join "" ys).cps.toList = ys.flatMap fun y => y.cps.toList := fun ys => by
  rw [TL.join_eq]
  have h := TL.tl_join "" ys
  have e : ∀ l : List (List Nat), TL.joinL (TL.tl "") l = l.flatten := fun l => by
    induction l with
    | nil => rfl
    | cons p l ih =>
      cases l with
      | nil => show p = [p].flatten; simp
      | cons q r =>
        show p ++ (TL.tl "" ++ TL.joinL (TL.tl "") (q :: r)) = _
        rw [ih, show TL.tl "" = [] from rfl, List.nil_append]
        rfl
  rw [e] at h
  have h2 : TL.tl (Str.join "" ys) = (Str.join "" ys).cps.toList := rfl
  rw [h2] at h
  rw [h, List.flatMap_def] <;> rfl
theorem two_sorted {m : Str} {x y : Str} {ys : List Str} (hx : x ∈ signs m) (hy : y ∈ signs m) (hp : ys.Perm [x, y]) (hs : sortedS ys = true) : (ys.map (·.length)).sum ≤ 2 ∧ ys.length = 2 ∧ OkTwo m (Txt.join "" ys) := by
  have hm : ∀ z ∈ ys, ∃ c ∈ m.cps.toList, z = ⟨#[c]⟩ := fun z hz => by
    have h := hp.mem_iff.mp hz
    have h2 : z ∈ signs m := by
      rcases List.mem_cons.mp h with e | e
      · rw [e]; exact hx
      · rw [List.mem_singleton.mp e]; exact hy
    obtain ⟨c, hc, rfl⟩ := List.mem_map.mp h2
    exact ⟨c, hc, rfl⟩
  have hl : ys.length = 2 := hp.length_eq
  match ys, hl with
  | [a, b], _ =>
    obtain ⟨i, hi, rfl⟩ := hm a List.mem_cons_self
    obtain ⟨j, hj, rfl⟩ := hm b (List.mem_cons_of_mem _ List.mem_cons_self)
    refine ⟨Nat.le_refl _, rfl, i, j, ?_, hi, hj, ?_⟩
    · refine str_ext ?_
      rw [join_cps]
      rfl
    · have h3 : (!PySem.Spec.ltCps [j] [i] && true) = true := hs
      have h4 : (!(decide (j < i) || (j == i && false)) && true) = true := h3
      simp at h4
      exact h4
theorem en_pick {a : Addr} {m : Str} {t t' : TA} {E : XK} {te : TE} {Ek : XK} (h : EvA μ (tCons t1 (tCons te tNil)) ρ [rowD K a, .lst ((signs m).map D.str)]) (hne : m ≠ "") (hl : m.length ≤ 6) : EvN μ (tCall (spN (fPick K)) [] Ek (tCons t1 (tCons te tNil))) ρ (isOf (signs m)) :=
  en_callN h ⟨a, signs m, rfl, rfl, fun e => hne (str_ext (by
    have h2 := congrArg List.length e
    rw [signs, List.length_map] at h2
    exact List.eq_nil_of_length_eq_zero h2)), by rw [signs_len]; omega⟩
theorem dLawTwo (F : FunAt K mg "_law_two" sLawTwo ["_law_row", "_law_moods_here"]) (T : Bts mg) (DLawPick : Def P w K mg base CX0 "_law_pick" 2 ["_law_row", "_law_things"] [] (spN (fPick K))) :
    Def P w K mg base CX0 "_law_two" 3 ["_law_row", "_law_moods_here"] [] (spN (fLTwo K)) := by
  refine F.defN scLawTwo (fun ds d h => ?_) (fun cdv A outer s H E f hr => ?_)
  · obtain ⟨a, xs, rfl, _⟩ := h
    rfl
  · refine ⟨_, (pss_one (ps_ret (uBm K rfl PySem.F.plainAttrs_str PySem.F.slot_str_join PySem.F.type_str_join (uJoin K rfl) pe_str (pa_cons (pe_callB (uSorted K rfl) (by rfl) T.sorted (by decide +kernel) (pa_cons (pe_lst (pa_cons (pe_def DLawPick hr (by decide) (by rfl) pass0 (pa_cons (pv 0) (pa_cons (pe_callTy (uList K rfl rfl) (by rfl) T.list (by decide +kernel) (pa_cons (pv 1) pa_nil)) pa_nil))) (pa_cons (pe_def DLawPick hr (by decide) (by rfl) pass0 (pa_cons (pv 0) (pa_cons (pe_callTy (uList K rfl rfl) (by rfl) T.list (by decide +kernel) (pa_cons (pv 1) pa_nil)) pa_nil))) pa_nil))) pa_nil)) pa_nil)))), fun ds p h => ?_⟩
    obtain ⟨a, m, rfl, rfl, hne, hl⟩ := h
    have hls : m.length ≤ 100000 := by omega
    refine sv_retN (en_bm (P := fun ds => ∃ ys : List Str, ds = [.lst (ys.map D.str)] ∧ (ys.map (·.length)).sum ≤ 2 ∧ ys.length = 2 ∧ OkTwo m (Txt.join "" ys)) ev_str (an_cons (en_srtS (R := fun xs => ∃ x y, x ∈ signs m ∧ y ∈ signs m ∧ xs = [x, y]) (an_cons (P := fun ds => ds = []) (en_lst (z := fun d => ∃ x y, x ∈ signs m ∧ y ∈ signs m ∧ d = .lst [.str x, .str y]) (an_cons (R := fun ds => ∃ x y, x ∈ signs m ∧ y ∈ signs m ∧ ds = [.str x, .str y])
      (en_pick (t := tNil) (t' := tNil) (E := E) (ea_cons (ev_var rfl) (ea_cons (ev_cb (ea_cons (ev_var rfl) ea_nil) (cd_listS hls)) ea_nil)) hne hl) (an_cons (R := fun ds => ∃ y, y ∈ signs m ∧ ds = [.str y]) (en_pick (t := tNil) (t' := tNil) (E := E) (ea_cons (ev_var rfl) (ea_cons (ev_cb (ea_cons (ev_var rfl) ea_nil) (cd_listS hls)) ea_nil)) hne hl) an_nil ?_) ?_) ?_) an_nil ?_)) an_nil ?_) ?_ ?_) fun d hd => hd
    · rintro d ds ⟨y, hy, rfl⟩ rfl
      exact ⟨y, hy, rfl⟩
    · rintro d ds ⟨x, hx, rfl⟩ ⟨y, hy, rfl⟩
      exact ⟨x, y, hx, hy, rfl⟩
    · rintro ds ⟨x, y, hx, hy, rfl⟩
      exact ⟨by show 2 ≤ _; omega, x, y, hx, hy, rfl⟩
    · rintro d ds ⟨x, y, hx, hy, rfl⟩ rfl
      exact ⟨[x, y], ⟨x, y, hx, hy, rfl⟩, by show 2 < 64; omega, rfl⟩
    · rintro d ds ⟨xs, ys, ⟨x, y, hx, hy, rfl⟩, hp, hs, rfl⟩ rfl
      exact ⟨ys, rfl, two_sorted hx hy hp hs⟩
    · intro F M H v r rm wd
      cases r
      rfl
    · rintro ds ⟨ys, rfl, h1, h2, h3⟩
      exact ⟨_, ⟨_, rfl, h3⟩, bd_join (by show _ + ys.length * 0 ≤ _; omega)⟩
abbrev moodsL : List Str := ["a", "ab", "ab", "abc", "abc", "bxz", "abcd", "abcd", "abcde", "cdefgh"]
theorem moodsL_ok : ∀ m ∈ moodsL, OkM m := fun m hm => by
  have h1 : ∀ m ∈ moodsL, 1 ≤ m.length := by decide +kernel
  have h2 : ∀ m ∈ moodsL, m.length ≤ 6 := by decide +kernel
  have h3 : ∀ m ∈ moodsL, ∀ c ∈ m.cps.toList, c ∈ ("abcdefghijklmnopqrstuvwxyz" : Str).cps.toList := by decide +kernel
  have h4 : ∀ m ∈ moodsL, m.cps.toList.Pairwise (· < ·) := by decide +kernel
  exact ⟨h1 m hm, h2 m hm, h3 m hm, h4 m hm⟩
def fMoods (K : PySem.W.Frag) (ds : List D) (p : D → Prop) : Prop := ∃ (a : Addr), ds = [rowD K a] ∧ p = (fun d => ∃ m, d = .str m ∧ OkM m)
theorem dLawMoods (F : FunAt K mg "_law_moods" sLawMoods ["_law_row"]) (T : Bts mg) (DLawPick : Def P w K mg base CX0 "_law_pick" 2 ["_law_row", "_law_things"] [] (spN (fPick K))) :
    Def P w K mg base CX0 "_law_moods" 3 ["_law_row"] [] (spN (fMoods K)) := by
  refine F.defN scLawMoods (fun ds d h => ?_) (fun cdv A outer s H E f hr => ?_)
  · obtain ⟨a, rfl, _⟩ := h
    rfl
  · refine ⟨_, (pss_one (ps_ret (pe_def DLawPick hr (by decide) (by rfl) pass0 (pa_cons (pv 0) (pa_cons (pe_lst (pa_cons pe_str (pa_cons pe_str (pa_cons pe_str (pa_cons pe_str (pa_cons pe_str (pa_cons pe_str (pa_cons pe_str (pa_cons pe_str (pa_cons pe_str (pa_cons pe_str pa_nil))))))))))) pa_nil))))), fun ds p h => ?_⟩
    obtain ⟨a, rfl, rfl⟩ := h
    refine sv_retN (en_callN (ea_cons (ev_var rfl) (ea_cons (ev_lst (ea_cons ev_str (ea_cons ev_str (ea_cons ev_str (ea_cons ev_str (ea_cons ev_str (ea_cons ev_str (ea_cons ev_str (ea_cons ev_str (ea_cons ev_str (ea_cons ev_str ea_nil)))))))))) (by decide)) ea_nil)) ⟨a, moodsL, rfl, rfl, by decide, by decide⟩) ?_
    rintro d ⟨x, hx, rfl⟩
    exact ⟨x, rfl, moodsL_ok x hx⟩
def fCnt (ds : List D) (d : D) : Prop := ∃ (m t : Str), ds = [.str m, .str t] ∧ d = eCrowd (cn m t) ∧ OkM m ∧ t.length ≤ 1000 ∧ ∀ c ∈ t.cps.toList, c ∈ m.cps.toList
theorem dLawCounts (F : FunAt K mg "_law_counts" sLawCounts ["_law_moods_here", "_law_text"]) (T : Bts mg) :
    Def P w K mg base CX0 "_law_counts" 1 ["_law_moods_here", "_law_text"] [] (spF fCnt) := by
  refine F.def_ scLawCounts (fun ds d h => ?_) (fun cdv A outer s H E f hr => ?_)
  · obtain ⟨a, b, rfl, _⟩ := h
    rfl
  · refine ⟨_, (pss_one (ps_ret (pe_callTy (uTup K rfl) (by rfl) T.tuple (by decide +kernel) (pa_cons (pe_lc (own := [("_law_mood", 2)]) (g := (gName 2)) (tt := tYes) rfl scLawCounts.nd (uSeq K rfl (pv 0)) (blkOk_by (N := ["_law_moods_here", "_law_text", "_law_mood", "_law_sign"]) (sc := (defScope sLawCounts)) (by decide +kernel)) (fun _ _ _ _ _ => (pg_name (i := 2) scLawCounts.nd rfl (by first | exact Or.inl rfl | exact Or.inr rfl))) (fun _ _ _ _ _ => pts_nil) (fun _ _ _ _ _ => (pe_callB (uLen K rfl) (by rfl) T.len (by decide +kernel) (pa_cons (pe_lc (own := [("_law_sign", 3)]) (g := (gName 3))  rfl scLawCounts.nd (uSeq K rfl (pv 1)) (blkOk_by (N := ["_law_moods_here", "_law_text", "_law_mood", "_law_sign"]) (sc := { kind := .function, names := [(".0", .local), ("_law_mood", .cell), ("len", .globalImplicit), ("_law_text", .cell)], isGenerator := false, isCoroutine := false }) (by decide +kernel)) (fun _ _ _ _ _ => (pg_name (i := 3) scLawCounts.nd rfl (by first | exact Or.inl rfl | exact Or.inr rfl))) (fun _ _ _ _ _ => pts_one (pt_cmpR (uEq K rfl (hu64 hr)) (pv 3) (pv 2) (nomark _))) (fun _ _ _ _ _ => pe_int)) pa_nil)))) pa_nil)))), fun ds p h => ?_⟩
    obtain ⟨m, t, rfl, rfl, hm, hl, ht⟩ := h
    have h6 := hm.l6
    refine sv_ret (ev_tupI (f := fun c => ((t.cps.toList.count c : Nat) : Int)) (ρ' := fun c => [some (.str m), some (.str t), some (.str ⟨#[c]⟩), none]) (ei_sg (ev_var rfl)) (fun j hj => hj) (fun c _ => asg_name) (fun c hc => ?_) (by rw [mlen]; omega)) rfl
    refine Ev.is (ev_cb (ea_cons (ev_lc (h := fun _ => D.int 1) (f := fun x => decide (x = c)) (ρ' := fun x => [some (.str m), some (.str t), some (.str ⟨#[c]⟩), some (.str ⟨#[x]⟩)]) (ei_sg (ev_var rfl)) (fun j hj => hj) (fun x _ => asg_name) (fun x hx => et_test (ev_op (ev_var rfl) (ev_var rfl) (rd_eq (str_pl _ (fun d hd => ?_) 9) (str_pl _ (fun d hd => ?_) 9) ?_))) (fun x _ _ => ev_int) (by rw [mlen]; omega)) ea_nil) cd_lenL) ?_
    · rw [show (⟨#[x]⟩ : Str).cps.toList = [x] from rfl, List.mem_singleton] at hd
      rw [hd]
      exact hm.lt (ht x hx)
    · rw [show (⟨#[c]⟩ : Str).cps.toList = [c] from rfl, List.mem_singleton] at hd
      rw [hd]
      exact hm.lt hc
    · rw [decide_eq_true_iff]
      constructor
      · intro h
        rw [h]
      · intro h
        have h2 := D.str.inj h
        have h3 : [x] = [c] := congrArg (fun s : Str => s.cps.toList) h2
        exact (List.cons.inj h3).1
    · rw [List.length_map, List.count, List.countP_eq_length_filter]
      rfl
def fCrowd (K : PySem.W.Frag) (ds : List D) (p : D → Prop) : Prop := ∃ (a : Addr) (m : Str) (rs : List Rl) (n : Nat), ds = [rowD K a, eFolk m rs, .int (n : Nat)] ∧ p = (fun d => ∃ c, d = eCrowd c ∧ OkC m c ∧ c.sum ≤ (n : Nat)) ∧ OkM m ∧ n ≤ 100
theorem flat_len {m : Str} : ∀ {ys : List Str}, (∀ y ∈ ys, y ∈ signs m) → (ys.map (·.length)).sum = ys.length ∧ (ys.flatMap fun y => y.cps.toList).length = ys.length ∧ ∀ c ∈ (ys.flatMap fun y => y.cps.toList), c ∈ m.cps.toList
  | [], _ => ⟨rfl, rfl, fun c h => by cases h⟩
  | y :: ys, h => by
    obtain ⟨a, b, c⟩ := flat_len (m := m) (ys := ys) fun z hz => h z (List.mem_cons_of_mem _ hz)
    obtain ⟨k, hk, rfl⟩ := List.mem_map.mp (h y List.mem_cons_self)
    refine ⟨?_, ?_, fun x hx => ?_⟩
    · rw [List.map_cons, List.sum_cons, a, List.length_cons]
      show 1 + _ = _
      omega
    · have e1 : ((⟨#[k]⟩ : Str).cps.toList).length = 1 := rfl
      rw [List.flatMap_cons, List.length_append, e1, b, List.length_cons]
      omega
    · rw [List.flatMap_cons] at hx
      rcases List.mem_append.mp hx with e | e
      · rw [show (⟨#[k]⟩ : Str).cps.toList = [k] from rfl, List.mem_singleton] at e
        rw [e]
        exact hk
      · exact c x e
theorem strs_of {m : Str} : ∀ {l : List D}, (∀ x ∈ l, isOf (signs m) x) → ∃ ys : List Str, l = ys.map D.str ∧ ∀ y ∈ ys, y ∈ signs m
  | [], _ => ⟨[], rfl, fun y h => by cases h⟩
  | x :: l, h => by
    obtain ⟨y, hy, rfl⟩ := h x List.mem_cons_self
    obtain ⟨ys, rfl, hys⟩ := strs_of (l := l) fun z hz => h z (List.mem_cons_of_mem _ hz)
    refine ⟨y :: ys, rfl, fun z hz => ?_⟩
    rcases List.mem_cons.mp hz with e | e
    · rw [e]; exact hy
    · exact hys z e
theorem dLawCrowd (F : FunAt K mg "_law_crowd" sLawCrowd ["_law_row", "_law_folk", "_law_most"]) (T : Bts mg) (DLawPick : Def P w K mg base CX0 "_law_pick" 2 ["_law_row", "_law_things"] [] (spN (fPick K))) (DLawTaken : Def P w K mg base CX0 "_law_taken" 1 ["_law_row", "_law_many"] [] (spN (fTk K))) (DLawCounts : Def P w K mg base CX0 "_law_counts" 1 ["_law_moods_here", "_law_text"] [] (spF fCnt)) :
    Def P w K mg base CX0 "_law_crowd" 3 ["_law_row", "_law_folk", "_law_most"] [] (spN (fCrowd K)) := by
  refine F.defN scLawCrowd (fun ds d h => ?_) (fun cdv A outer s H E f hr => ?_)
  · obtain ⟨a, xs, b, c, rfl, _⟩ := h
    rfl
  · refine ⟨_, (pss_one (ps_ret (pe_def DLawCounts hr (by decide) (by rfl) pass0 (pa_cons (pe_ix (uIx K rfl) (pv 1) pe_int (fun _ _ => rfl)) (pa_cons (uBm K rfl PySem.F.plainAttrs_str PySem.F.slot_str_join PySem.F.type_str_join (uJoin K rfl) pe_str (pa_cons (pe_lc (own := [("_law_turn", 3)]) (g := (gName 3)) (tt := tYes) rfl scLawCrowd.nd (pi_range1 (by rfl) T.range (pa_cons (pe_def DLawTaken hr (by decide) (by rfl) pass0 (pa_cons (pv 0) (pa_cons (pe_op op_addU (pv 2) pe_int) pa_nil))) pa_nil)) (blkOk_by (N := ["_law_row", "_law_folk", "_law_most", "_law_turn"]) (sc := (defScope sLawCrowd)) (by decide +kernel)) (fun _ _ _ _ _ => (pg_name (i := 3) scLawCrowd.nd rfl (by first | exact Or.inl rfl | exact Or.inr rfl))) (fun _ _ _ _ _ => pts_nil) (fun _ _ _ _ _ => (pe_def DLawPick hr (by decide) (by rfl) pass0 (pa_cons (pv 0) (pa_cons (pe_callTy (uList K rfl rfl) (by rfl) T.list (by decide +kernel) (pa_cons (pe_ix (uIx K rfl) (pv 1) pe_int (fun _ _ => rfl)) pa_nil)) pa_nil))))) pa_nil)) pa_nil))))), fun ds p h => ?_⟩
    obtain ⟨a, m, rs, n, rfl, rfl, hm, hn⟩ := h
    have hls : m.length ≤ 100000 := by have := hm.l6; omega
    have hne : m ≠ "" := fun e => by
      have := hm.l1
      rw [e] at this
      exact absurd this (by decide)
    have hf : ∀ {σ : DEnv}, σ[1]? = some (some (eFolk m rs)) → Ev mu0 (tOp (rIx K) (tVar 1) (tC (.int 0))) σ (.str m) := fun h => ev_op (ev_var h) ev_int (rd_ixT rfl)
    refine sv_retN (en_callF (P := fun ds => ∃ ys : List Str, ds = [.str m, .str (Txt.join "" ys)] ∧ ys.length ≤ n ∧ ∀ y ∈ ys, y ∈ signs m) (an_cons (R := _) (en_of (hf rfl) rfl) (an_cons (R := fun ds => ∃ ys : List Str, ds = [.str (Txt.join "" ys)] ∧ ys.length ≤ n ∧ ∀ y ∈ ys, y ∈ signs m)
      (en_bm (z := fun d => ∃ ys : List Str, d = .str (Txt.join "" ys) ∧ ys.length ≤ n ∧ ∀ y ∈ ys, y ∈ signs m) (P := fun ds => ∃ ys : List Str, ds = [.lst (ys.map D.str)] ∧ ys.length ≤ n ∧ ∀ y ∈ ys, y ∈ signs m) ev_str (an_cons (en_lc (pe := isOf (signs m)) (ρ' := fun d => [some (rowD K a), some (eFolk m rs), some (.int (n : Nat)), some d]) (ein_rng1 (B := n) (by omega) (an_cons (en_callN (ea_cons (ev_var rfl) (ea_cons (ev_op (ev_var rfl) ev_int rd_addI) ea_nil)) ⟨a, _, rfl, rfl, by omega, by omega⟩) an_nil ?_)) (fun j hj => hj) ?_) an_nil ?_) ?_ ?_) an_nil ?_) ?_) ?_) fun d hd => hd
    · rintro d ds ⟨k, rfl, k0, k1⟩ rfl
      refine ⟨k.toNat, ?_, by omega⟩
      rw [show ((k.toNat : Nat) : Int) = k by omega]
    · rintro xs ⟨k, rfl, hk⟩
      refine ⟨by rw [upTo, List.length_map, List.length_range]; omega, fun x hx => ⟨asg_name, en_pick (t := tNil) (t' := tNil) (E := E) (ea_cons (ev_var rfl) (ea_cons (ev_cb (ea_cons (hf rfl) ea_nil) (cd_listS hls)) ea_nil)) hne hm.l6⟩⟩
    · rintro d ds ⟨xs, l, ⟨k, rfl, hk⟩, rfl, h1, h2⟩ rfl
      obtain ⟨ys, rfl, hys⟩ := strs_of h2
      refine ⟨ys, rfl, ?_, hys⟩
      rw [List.length_map, upTo, List.length_map, List.length_range] at h1
      omega
    · intro F M H v r rm wd
      cases r
      rfl
    · rintro ds ⟨ys, rfl, h1, h2⟩
      refine ⟨_, ⟨ys, rfl, h1, h2⟩, bd_join ?_⟩
      rw [(flat_len h2).1]
      show _ + ys.length * 0 ≤ _
      omega
    · rintro d ds ⟨ys, rfl, h1, h2⟩ rfl
      exact ⟨ys, rfl, h1, h2⟩
    · rintro d ds rfl ⟨ys, rfl, h1, h2⟩
      exact ⟨ys, rfl, h1, h2⟩
    · rintro ds ⟨ys, rfl, h1, h2⟩
      obtain ⟨f1, f2, f3⟩ := flat_len h2
      have e1 : (Txt.join "" ys).length = ys.length := by rw [← mlen, join_cps, f2]
      have e2 : ∀ c ∈ (Txt.join "" ys).cps.toList, c ∈ m.cps.toList := by rw [join_cps]; exact f3
      refine ⟨_, ⟨m, _, rfl, rfl, hm, by omega, e2⟩, _, rfl, ⟨cn_len _ _, fun x hx => (cn_small hx).1⟩, ?_⟩
      rw [cn_sum hm e2, e1]
      omega
end
end Mf
set_option maxRecDepth 100000
set_option maxHeartbeats 4000000
/-! The law's folk drawn, its stays, its alike. -/
namespace Mf
open PySem L2 PyProof.Rows
variable [Tt] [Xw]
local macro_rules
  | `(tactic| walk_at "rd") => `(tactic| first
    | exact rd_addI | refine rd_addL ?_ | refine rd_addS ?_ | exact rd_sub | refine rd_mulI ?_ | refine rd_mulL ?_ ?_ ?_ | refine rd_mulS ?_ ?_ ?_ | refine rd_div ?_ | refine rd_mod ?_ | refine rd_pow ?_ | exact ud_neg
    | exact rd_ltI | exact rd_leI | exact rd_gtI | exact rd_geI | exact rd_ltS | exact rd_leS | exact rd_eqI | exact rd_neI
    | exact rd_ixT rfl | exact rd_ixL rfl | exact cd_lenL | exact cd_lenT | exact cd_int | exact cd_abs | exact cd_tupL | exact cd_listL | exact cd_listT | exact cd_all | exact cd_any | exact cd_sumT | exact bd_count)
local macro_rules
  | `(tactic| walk_at "ev1") => `(tactic| first
    | exact ev_int | exact ev_str | exact ev_bl | exact ev_non | exact ea_nil | refine ea_cons ?_ ?_ | exact ev_var rfl | exact ev_ty
    | refine ev_op ?_ ?_ ?_ | refine ev_un ?_ ?_ | refine ev_cb ?_ ?_ | refine ev_tup ?_ (by decide) | refine ev_bm ?_ ?_ ?_
    | exact et_yes | refine et_test ?_ | refine et_B ?_ | refine et_or ?_ (fun _ => ?_) | refine et_and ?_ (fun _ => ?_) | refine ev_andV ?_ (fun _ => ?_) | refine ev_orV ?_ (fun _ => ?_) | refine ev_notV ?_ | refine ev_chain ?_ ?_ ?_ (fun _ => ?_) (fun _ => ?_) | refine et_not ?_ | exact eo_none | refine eo_some ?_ | walk_at "rd")
local macro_rules
  | `(tactic| walk_at "ev") => `(tactic| repeat' walk_at "ev1")

abbrev sLawOneFolk : Stmt := topS 72
theorem scLawOneFolk : FnScope ["_law_row", "_law_most", "_law_moods_here", "_law_rules", "_law_last", "_law_turn", "_law_one", "_law_other", "_law_pair", "_law_later", "_law_mood"] ["_law_row", "_law_most"] (defScope sLawOneFolk) := ⟨rfl, rfl, rfl, by decide +kernel, rfl, by decide +kernel, by decide +kernel⟩
abbrev sLawStays : Stmt := topS 76
theorem scLawStays : FnScope ["_law_folk", "_law_crowds", "_law_gains", "_law_crowd_here", "_law_rule", "_law_need", "_law_many", "_law_one", "_law_gain"] ["_law_folk", "_law_crowds", "_law_gains"] (defScope sLawStays) := ⟨rfl, rfl, rfl, by decide +kernel, rfl, by decide +kernel, by decide +kernel⟩
abbrev sLawAlike : Stmt := topS 69
theorem scLawAlike : FnScope ["_law_found", "_law_due", "_law_k", "_law_key"] ["_law_found", "_law_due"] (defScope sLawAlike) := ⟨rfl, rfl, rfl, by decide +kernel, rfl, by decide +kernel, by decide +kernel⟩
section
variable {P : Program} {w : World} {K : PySem.W.Frag} {mg : Str → Option Value} {base : Heap}
theorem q_parNL {te : TE} {i j : Nat} {p : D → Prop} {Kt' : Kt} (h : EvN μ te ρ p) (k : ∀ d q, p d → μ q = none → Sv (mset μ q []) u ((ρ.set i (some d)).set j (some (.ref q))) Kt') :
    Sv μ (tSeq (tPar i j (tCons te (tCons (tLst tNil) tNil))) u) ρ Kt' := fun σ F M H rs rm w E tk =>
  h σ F M H rs rm w _ fun v d F2 H2 hd e2 w2 r2 => ⟨Nat.zero_le _, fun q hq => by
    have hM := w2.freeM hq
    have hm : μ q = none := rm.none_of hM
    have s : Stp F M μ F2 (upd M q (.lst [])) (upd H2 q (.lst [])) (mset μ q []) := ⟨e2, w2.newM hq, rm.put e2 ⟨[], rfl, .nil⟩, fun a o h1 h3 => by
      have q : a ≠ q := ne_of_none h1 hM
      rw [upd_ne q, mset_ne q]
      exact ⟨h1, h3⟩⟩
    exact ⟨v, .ref q, rfl, k d q hd hm _ F2 _ _ (((rs.mono e2).set i r2).set j (.ref q)) s.rm s.wd E (tk.step s)⟩⟩
structure OkR (m : Str) (rs : List Rl) : Prop where
  one : ∀ r ∈ rs, OkTwo m r.1
  two : ∀ r ∈ rs, OkTwo m r.2
  ne : ∀ r ∈ rs, r.1 ≠ r.2
  from_ : ∀ r ∈ rs, ∃ x ∈ r.1.cps.toList, x ∉ m.cps.toList.drop (half m)
  to_ : ∀ r ∈ rs, ∀ x ∈ r.2.cps.toList, x ∈ m.cps.toList.drop (half m)
  nd : (rs.map (·.1)).Nodup
theorem nodup_of_map {α β : Type} (f : α → β) : ∀ {l : List α}, (l.map f).Nodup → l.Nodup
  | [], _ => List.nodup_nil
  | a :: l, h => by
    rw [List.map_cons, List.nodup_cons] at h
    rw [List.nodup_cons]
    exact ⟨fun z => h.1 (List.mem_map_of_mem z), nodup_of_map f h.2⟩
theorem OkR.n {m : Str} {rs : List Rl} (h : OkR m rs) (hm : OkM m) (h5 : rs.length ≤ 5) : OkN m rs :=
  ⟨⟨⟨hm, by omega, h.one, h.two, h.ne, nodup_of_map _ h.nd⟩, h5, h.from_, h.to_⟩, nodup_of_map _ h.nd⟩
theorem OkR.nil {m : Str} : OkR m [] := ⟨fun _ h => absurd h (by simp), fun _ h => absurd h (by simp), fun _ h => absurd h (by simp), fun _ h => absurd h (by simp), fun _ h => absurd h (by simp), List.nodup_nil⟩
theorem OkR.snoc {m : Str} {rs : List Rl} {r : Rl} (h : OkR m rs) (h1 : OkTwo m r.1) (h2 : OkTwo m r.2) (h3 : r.1 ≠ r.2) (h4 : ∃ x ∈ r.1.cps.toList, x ∉ m.cps.toList.drop (half m)) (h5 : ∀ x ∈ r.2.cps.toList, x ∈ m.cps.toList.drop (half m)) (h6 : ∀ q ∈ rs, q.1 ≠ r.1) : OkR m (rs ++ [r]) := by
  have key : ∀ {p : Rl → Prop}, (∀ q ∈ rs, p q) → p r → ∀ q ∈ rs ++ [r], p q := fun {p} a b q hq => by
    rcases List.mem_append.mp hq with e | e
    · exact a q e
    · rw [List.mem_singleton.mp e]
      exact b
  refine ⟨key h.one h1, key h.two h2, key h.ne h3, key h.from_ h4, key h.to_ h5, ?_⟩
  rw [List.map_append, List.nodup_append]
  refine ⟨h.nd, by simp, fun a ha b hb => ?_⟩
  obtain ⟨q, hq, rfl⟩ := List.mem_map.mp ha
  rw [show List.map (fun x : Rl => x.1) [r] = [r.1] from rfl, List.mem_singleton] at hb
  rw [hb]
  exact h6 q hq
def fOneFolk (K : PySem.W.Frag) (ds : List D) (p : D → Prop) : Prop := ∃ (a : Addr), ds = [rowD K a, .int 5] ∧ p = (fun d => ∃ m rs, d = eFolk m rs ∧ OkN m rs)
abbrev lastM (m : Str) : Str := cutS m (some ((m.length / 2 : Nat) : Int)) none
theorem lastM_cps (m : Str) : (lastM m).cps.toList = m.cps.toList.drop (half m) := cut_tail m (m.length / 2)
theorem lastM_sub {m : Str} {c : Nat} (h : c ∈ (lastM m).cps.toList) : c ∈ m.cps.toList := by
  rw [lastM_cps] at h
  exact List.mem_of_mem_drop h
theorem lastM_ne {m : Str} (hm : OkM m) : lastM m ≠ "" := fun e => by
  have h := lastM_cps m
  rw [e] at h
  have h2 := congrArg List.length h
  rw [List.length_drop, mlen] at h2
  have h3 : (0 : Nat) = m.length - half m := h2
  have := hm.l1
  unfold half at h3
  omega
theorem lastM_len {m : Str} (hm : OkM m) : (lastM m).length ≤ 6 := by
  rw [← mlen, lastM_cps, List.length_drop, mlen]
  have := hm.l6
  omega
theorem OkTwo.up {m t : Str} (h : OkTwo (lastM m) t) : OkTwo m t := by
  obtain ⟨a, b, e, h1, h2, h3⟩ := h
  exact ⟨a, b, e, lastM_sub h1, lastM_sub h2, h3⟩
theorem OkTwo.mem {m t : Str} (h : OkTwo m t) : ∀ c ∈ t.cps.toList, c ∈ m.cps.toList := by
  obtain ⟨a, b, rfl, h1, h2, h3⟩ := h
  intro c hc
  have hc : c ∈ [a, b] := hc
  rcases List.mem_cons.mp hc with e | e
  · rw [e]; exact h1
  · rw [List.mem_singleton.mp e]; exact h2
theorem dLawOneFolk (F : FunAt K mg "_law_one_folk" sLawOneFolk ["_law_row", "_law_most"]) (T : Bts mg) (DLawTaken : Def P w K mg base CX0 "_law_taken" 1 ["_law_row", "_law_many"] [] (spN (fTk K))) (DLawMoods : Def P w K mg base CX0 "_law_moods" 3 ["_law_row"] [] (spN (fMoods K))) (DLawTwo : Def P w K mg base CX0 "_law_two" 3 ["_law_row", "_law_moods_here"] [] (spN (fLTwo K))) :
    Def P w K mg base CX0 "_law_one_folk" 4 ["_law_row", "_law_most"] [] (spN (fOneFolk K)) := by
  refine F.defN scLawOneFolk (fun ds d h => ?_) (fun cdv A outer s H E f hr => ?_)
  · obtain ⟨a, rfl, _⟩ := h
    rfl
  · refine ⟨_, (pss_cons (ps_par (i := 2) (j := 3) rfl scLawOneFolk.nd rfl rfl (by decide) (by rfl) (by rfl) (pa_cons (pe_def DLawMoods hr (by decide) (by rfl) pass0 (pa_cons (pv 0) pa_nil)) (pa_cons (pe_lst pa_nil) pa_nil)) (by rfl) (by rfl))
      (pss_cons (ps_set (i := 4) scLawOneFolk.nd rfl (by first | exact Or.inl rfl | exact Or.inr rfl) (pe_slice (uSl K rfl) (pv 2) (po_some (pe_op op_divU (pe_callB (uLen K rfl) (by rfl) T.len (by decide +kernel) (pa_cons (pv 2) pa_nil)) pe_int)) po_none))
      (pss_cons (ps_for PassesOwn.never rfl (pi_range1 (by rfl) T.range (pa_cons (pe_def DLawTaken hr (by decide) (by rfl) pass0 (pa_cons (pv 0) (pa_cons (pe_op op_addU (pv 1) pe_int) pa_nil))) pa_nil)) (pg_name (i := 5) scLawOneFolk.nd rfl (by first | exact Or.inl rfl | exact Or.inr rfl)) (pss_cons (ps_asg (pe_tup (pa_cons (pe_def DLawTwo hr (by decide) (by rfl) pass0 (pa_cons (pv 0) (pa_cons (pv 2) pa_nil))) (pa_cons (pe_def DLawTwo hr (by decide) (by rfl) pass0 (pa_cons (pv 0) (pa_cons (pv 4) pa_nil))) pa_nil))) (uGtup K rfl (pg_tup rfl (pgs_cons (pg_name (i := 6) scLawOneFolk.nd rfl (by first | exact Or.inl rfl | exact Or.inr rfl)) (pgs_cons (pg_name (i := 7) scLawOneFolk.nd rfl (by first | exact Or.inl rfl | exact Or.inr rfl)) pgs_nil)))))
      (pss_one (ps_if (PW.pt (pw_and (pt_cmpR (uEq K rfl (hu64 hr)) (pe_lc (own := [("_law_pair", 8), ("_law_later", 9)]) (g := (gTup K 2 (gCons (gName 8) (gCons (gName 9) gNil))))  rfl scLawOneFolk.nd (uSeq K rfl (pv 3)) (blkOk_by (N := ["_law_row", "_law_most", "_law_moods_here", "_law_rules", "_law_last", "_law_turn", "_law_one", "_law_other", "_law_pair", "_law_later", "_law_mood"]) (sc := (defScope sLawOneFolk)) (by decide +kernel)) (fun _ _ _ _ _ => (uGtup K rfl (pg_tup rfl (pgs_cons (pg_name (i := 8) scLawOneFolk.nd rfl (by first | exact Or.inl rfl | exact Or.inr rfl)) (pgs_cons (pg_name (i := 9) scLawOneFolk.nd rfl (by first | exact Or.inl rfl | exact Or.inr rfl)) pgs_nil))))) (fun _ _ _ _ _ => pts_one (pt_cmpR (uEq K rfl (hu64 hr)) (pv 8) (pv 6) (nomark _))) (fun _ _ _ _ _ => (pv 8))) (pe_lst pa_nil) (nomark _)) (pw_and (pt_cmpR (uNe K rfl (hu64 hr)) (pe_lc (own := [("_law_mood", 10)]) (g := (gName 10))  rfl scLawOneFolk.nd (uSeq K rfl (pv 6)) (blkOk_by (N := ["_law_row", "_law_most", "_law_moods_here", "_law_rules", "_law_last", "_law_turn", "_law_one", "_law_other", "_law_pair", "_law_later", "_law_mood"]) (sc := (defScope sLawOneFolk)) (by decide +kernel)) (fun _ _ _ _ _ => (pg_name (i := 10) scLawOneFolk.nd rfl (by first | exact Or.inl rfl | exact Or.inr rfl))) (fun _ _ _ _ _ => pts_one (pt_cmpR (uNin K rfl) (pv 10) (pv 4) (by rfl))) (fun _ _ _ _ _ => (pv 10))) (pe_lst pa_nil) (nomark _)) (pw_and1 (pt_cmpR (uNe K rfl (hu64 hr)) (pv 6) (pv 7) (nomark _)))))) (pss_one (ps_expr (uBm K rfl PySem.F.plainAttrs_list PySem.F.slot_list_append PySem.F.type_list_append mt_append (pv 3) (pa_cons (pe_tup (pa_cons (pv 6) (pa_cons (pv 7) pa_nil))) pa_nil)))) pss_nil))))
      (pss_one (ps_ret (pe_tup (pa_cons (pv 2) (pa_cons (pe_callTy (uTup K rfl) (by rfl) T.tuple (by decide +kernel) (pa_cons (pv 3) pa_nil)) pa_nil)))))))), fun ds p h => ?_⟩
    obtain ⟨a, rfl, rfl⟩ := h
    refine q_parNL (en_callN (ea_cons (ev_var rfl) ea_nil) ⟨a, rfl, rfl⟩) fun d q hd hq => ?_
    obtain ⟨m, rfl, hm⟩ := hd
    have h6 := hm.l6
    have hls : m.length ≤ 100000 := by omega
    refine q_asg (d := .str (lastM m)) (ev_sl (ev_var rfl) (eo_some (ev_op (ev_cb (ea_cons (ev_var rfl) ea_nil) (cd_lenS hls)) ev_int (rd_div (divOk (by decide) (by decide))))) eo_none (sd_S hls)) asg_name ?_
    refine q_forN (ein_rng1 (B := 5) (by decide) (an_cons (en_callN (ea_cons (ev_var rfl) (ea_cons (ev_op (ev_var rfl) ev_int rd_addI) ea_nil)) ⟨a, _, rfl, rfl, by decide, by decide⟩) an_nil ?_)) fun ds hds => ?_
    · rintro d ds ⟨k, rfl, k0, k1⟩ rfl
      refine ⟨k.toNat, ?_, by omega⟩
      rw [show ((k.toNat : Nat) : Int) = k by omega]
    obtain ⟨n, rfl, hn⟩ := hds
    have hun : (upTo 0 n).length = n := by rw [upTo, List.length_map, List.length_range]
    refine ⟨fun i μ' ρ' => ∃ rs x y z, μ' = mset mu0 q (eRules rs) ∧ ρ' = [some (rowD K a), some (.int 5), some (.str m), some (.ref q), some (.str (lastM m)), x, y, z, none, none, none] ∧ OkR m rs ∧ rs.length ≤ i, ⟨[], none, none, none, rfl, rfl, OkR.nil, Nat.le_refl _⟩, fun i d μ' ρ' hi hI => ?_, fun μ' ρ' hI => ?_⟩
    · obtain ⟨rs, x, y, z, rfl, rfl, hR, hlr⟩ := hI
      have hin : i < n := by
        have h := (List.getElem?_eq_some_iff.mp hi).1
        rw [hun] at h
        exact h
      refine ⟨[5], _, asg_name, ?_⟩
      refine q_asgN (en_tup (z := fun d => ∃ t1 t2, d = .tup [.str t1, .str t2] ∧ OkTwo m t1 ∧ OkTwo (lastM m) t2) (an_cons (R := fun ds => ∃ t1 t2, ds = [.str t1, .str t2] ∧ OkTwo m t1 ∧ OkTwo (lastM m) t2) (en_callN (ea_cons (ev_var rfl) (ea_cons (ev_var rfl) ea_nil)) ⟨a, m, rfl, rfl, ?_, h6⟩)
        (an_cons (R := fun ds => ∃ t2, ds = [.str t2] ∧ OkTwo (lastM m) t2) (en_callN (ea_cons (ev_var rfl) (ea_cons (ev_var rfl) ea_nil)) ⟨a, lastM m, rfl, rfl, lastM_ne hm, lastM_len hm⟩) an_nil ?_) ?_) ?_) ?_
      · intro e
        have := hm.l1
        rw [e] at this
        exact absurd this (by decide)
      · rintro d ds ⟨t2, rfl, h2⟩ rfl
        exact ⟨t2, rfl, h2⟩
      · rintro d ds ⟨t1, rfl, h1⟩ ⟨t2, rfl, h2⟩
        exact ⟨t1, t2, rfl, h1, h2⟩
      · rintro ds ⟨t1, t2, rfl, h1, h2⟩
        exact ⟨show 2 ≤ 100000 by decide, t1, t2, rfl, h1, h2⟩
      rintro d ⟨t1, t2, rfl, h1, h2⟩
      refine ⟨[6, 7], _, asg_tup2, ?_⟩
      have p1 := h1.pl hm 9
      have p2 := h2.up.pl hm 9
      refine sv_if (et_and (et_test (ev_op (ev_lc (f := fun r : Rl => decide (r.1 = t1)) (h := fun r : Rl => D.str r.1) (ρ' := fun r : Rl => [some (rowD K a), some (.int 5), some (.str m), some (.ref q), some (.str (lastM m)), _, some (.str t1), some (.str t2), some (.str r.1), some (.str r.2), none]) (ei_seqM (ev_var rfl) mset_same) (fun j hj => hj) (fun r _ => asg_tup2) (fun r hr => et_test (ev_op (ev_var rfl) (ev_var rfl) (rd_eq ((hR.one r hr).pl hm 9) p1 ?_))) (fun r _ _ => ev_var rfl) (by omega)) (ev_lst ea_nil (by decide)) (rd_eqNil ?_)))
        fun hA => et_and (et_test (ev_op (ev_lc (f := fun c : Nat => !decide (c ∈ (lastM m).cps.toList)) (h := fun c : Nat => D.str ⟨#[c]⟩) (ρ' := fun c : Nat => [some (rowD K a), some (.int 5), some (.str m), some (.ref q), some (.str (lastM m)), _, some (.str t1), some (.str t2), none, none, some (.str ⟨#[c]⟩)]) (ei_sg (ev_var rfl)) (fun j hj => hj) (fun c _ => asg_name) (fun c hc => et_test (ev_op (ev_var rfl) (ev_var rfl) rd_ninS)) (fun c _ _ => ev_var rfl) ?_) (ev_lst ea_nil (by decide)) (rd_neNil ?_)))
        fun hB => et_test (ev_op (ev_var rfl) (ev_var rfl) (rd_ne (b := decide (t1 = t2)) p1 p2 ?_))) (fun hb => ?_) (fun hb => ?_)
      · rw [decide_eq_true_iff]
        exact ⟨fun h => by rw [h], fun h => D.str.inj h⟩
      · exact pls_map fun r hr => (hR.one r (List.mem_filter.mp hr).1).pl hm 8
      · rw [mlen, h1.len]
        decide
      · refine pls_map fun c hc => str_pl _ (fun d hd => ?_) 8
        rw [show (⟨#[c]⟩ : Str).cps.toList = [c] from rfl, List.mem_singleton] at hd
        rw [hd]
        exact hm.lt (h1.mem c (List.mem_filter.mp hc).1)
      · rw [decide_eq_true_iff]
        exact ⟨fun h => by rw [h], fun h => D.str.inj h⟩
      · rw [Bool.and_eq_true, Bool.and_eq_true] at hb
        obtain ⟨b1, b2, b3⟩ := hb
        refine sv_app (p := q) (l := eRules rs) (ev_var rfl) mset_same (ev_tup (ea_cons (ev_var rfl) (ea_cons (ev_var rfl) ea_nil)) (show 2 ≤ 100000 by decide)) (by rw [List.length_map]; omega) ⟨rs ++ [(t1, t2)], _, _, _, ?_, rfl, hR.snoc h1 h2.up ?_ ?_ ?_ ?_, by rw [List.length_append]; show _ + 1 ≤ _; omega⟩
        · rw [mset_mset]
          show mset mu0 q (rs.map eRule ++ [eRule (t1, t2)]) = mset mu0 q ((rs ++ [(t1, t2)]).map eRule)
          rw [List.map_append]
          rfl
        · rw [Bool.not_eq_true'] at b3
          exact of_decide_eq_false b3
        · rw [Bool.not_eq_true', List.isEmpty_eq_false_iff] at b2
          obtain ⟨x, hx⟩ := List.exists_mem_of_ne_nil _ b2
          obtain ⟨c, hc, _⟩ := List.mem_map.mp hx
          obtain ⟨c1, c2⟩ := List.mem_filter.mp hc
          refine ⟨c, c1, ?_⟩
          rw [← lastM_cps]
          rw [Bool.not_eq_true'] at c2
          exact of_decide_eq_false c2
        · intro c hc
          rw [← lastM_cps]
          exact h2.mem c hc
        · intro r hr e
          rw [List.isEmpty_iff] at b1
          have : D.str r.1 ∈ (rs.filter fun r : Rl => decide (r.1 = t1)).map fun r : Rl => D.str r.1 := List.mem_map_of_mem (f := fun r : Rl => D.str r.1) (List.mem_filter.mpr ⟨hr, decide_eq_true e⟩)
          rw [b1] at this
          cases this
      · exact sv_next ⟨rs, _, _, _, rfl, rfl, hR, by omega⟩
    · obtain ⟨rs, x, y, z, rfl, rfl, hR, hlr⟩ := hI
      rw [hun] at hlr
      exact sv_ret (ev_tup (ea_cons (ev_var rfl) (ea_cons (ev_cb (ea_cons (ev_var rfl) ea_nil) (cd_tupM mset_same)) ea_nil)) (show 2 ≤ 100000 by decide)) ⟨m, rs, rfl, hR.n hm (by omega)⟩
def fLStays (ds : List D) (d : D) : Prop := ∃ (m : Str) (rs : List Rl) (cs : List (List Int)) (g : List Int), ds = [eFolk m rs, .lst (cs.map eCrowd), eCrowd g] ∧ d = .bl (stayz m rs cs g) ∧ OkF m rs ∧ cs.length ≤ 1000 ∧ (∀ c ∈ cs, c.length ≤ 1000) ∧ g.length ≤ 1000
theorem dLawStays (F : FunAt K mg "_law_stays" sLawStays ["_law_folk", "_law_crowds", "_law_gains"]) (T : Bts mg) (DLawCounts : Def P w K mg base CX0 "_law_counts" 1 ["_law_moods_here", "_law_text"] [] (spF fCnt)) :
    Def P w K mg base CX0 "_law_stays" 2 ["_law_folk", "_law_crowds", "_law_gains"] [] (spF fLStays) := by
  refine F.def_ scLawStays (fun ds d h => ?_) (fun cdv A outer s H E f hr => ?_)
  · obtain ⟨m, rs, cs, g, rfl, _⟩ := h
    rfl
  · refine ⟨_, (pss_cons (ps_for PassesOwn.never rfl (uSeq K rfl (pv 1)) (pg_name (i := 3) scLawStays.nd rfl (by first | exact Or.inl rfl | exact Or.inr rfl)) (pss_one (ps_for PassesOwn.never rfl (uSeq K rfl (pe_ix (uIx K rfl) (pv 0) pe_int (fun _ _ => rfl))) (pg_name (i := 4) scLawStays.nd rfl (by first | exact Or.inl rfl | exact Or.inr rfl)) (pss_cons (ps_set (i := 5) scLawStays.nd rfl (by first | exact Or.inl rfl | exact Or.inr rfl) (pe_def DLawCounts hr (by decide) (by rfl) pass0 (pa_cons (pe_ix (uIx K rfl) (pv 0) pe_int (fun _ _ => rfl)) (pa_cons (pe_ix (uIx K rfl) (pv 4) pe_int (fun _ _ => rfl)) pa_nil))))
      (pss_one (ps_if (pt_cmpR (uEq K rfl (hu64 hr)) (pe_lc (own := [("_law_many", 6), ("_law_one", 7), ("_law_gain", 8)]) (g := (gTup K 3 (gCons (gName 6) (gCons (gName 7) (gCons (gName 8) gNil)))))  rfl scLawStays.nd (pi_zip3 (by rfl) T.zip (pa_cons (pv 3) (pa_cons (pv 5) (pa_cons (pv 2) pa_nil)))) (blkOk_by (N := ["_law_folk", "_law_crowds", "_law_gains", "_law_crowd_here", "_law_rule", "_law_need", "_law_many", "_law_one", "_law_gain"]) (sc := (defScope sLawStays)) (by decide +kernel)) (fun _ _ _ _ _ => (uGtup K rfl (pg_tup rfl (pgs_cons (pg_name (i := 6) scLawStays.nd rfl (by first | exact Or.inl rfl | exact Or.inr rfl)) (pgs_cons (pg_name (i := 7) scLawStays.nd rfl (by first | exact Or.inl rfl | exact Or.inr rfl)) (pgs_cons (pg_name (i := 8) scLawStays.nd rfl (by first | exact Or.inl rfl | exact Or.inr rfl)) pgs_nil)))))) (fun _ _ _ _ _ => pts_one (PW.pt (pw_and (pt_cmpR op_ltU (pv 6) (pv 7) (nomark _)) (pw_and1 (pt_cmpR (uEq K rfl (hu64 hr)) (pv 8) pe_int (nomark _)))))) (fun _ _ _ _ _ => pe_int)) (pe_lst pa_nil) (nomark _)) (pss_one (ps_ret pe_bl)) pss_nil))))))
      (pss_one (ps_ret pe_bl))), fun ds p h => ?_⟩
    obtain ⟨m, rs, cs, g, rfl, rfl, hF, hl, hc, hg⟩ := h
    have hm := hF.moods
    let L : List Int → Bool := fun c => rs.all fun r => lack m c g r
    refine q_for (ds := cs.map eCrowd) (ei_seqL (ev_var rfl)) (fun i μ' ρ' => μ' = mu0 ∧ (∃ x3 x4 x5, ρ' = [some (eFolk m rs), some (.lst (cs.map eCrowd)), some (eCrowd g), x3, x4, x5, none, none, none]) ∧ (cs.take i).all L = true) ⟨rfl, ⟨none, none, none, rfl⟩, rfl⟩ (fun i d μ' ρ' hi hI => ?_) (fun μ' ρ' hI => ?_)
    · obtain ⟨rfl, ⟨x3, x4, x5, rfl⟩, hA⟩ := hI
      rw [List.getElem?_map] at hi
      obtain ⟨c, hci, rfl⟩ := Option.map_eq_some_iff.mp hi
      have hcm : c ∈ cs := List.mem_of_getElem? hci
      refine ⟨[3], _, asg_name, ?_⟩
      refine sv_for (ds := eRules rs) (ei_seqT (ev_op (ev_var rfl) ev_int (rd_ixT rfl))) (fun j μ' ρ' => μ' = mu0 ∧ (∃ x4 x5, ρ' = [some (eFolk m rs), some (.lst (cs.map eCrowd)), some (eCrowd g), some (eCrowd c), x4, x5, none, none, none]) ∧ ((rs.take j).all fun r => lack m c g r) = true) ⟨rfl, ⟨_, _, rfl⟩, rfl⟩ (fun j d μ' ρ' hj hJ => ?_) (fun μ' ρ' hJ => ?_)
      · obtain ⟨rfl, ⟨y4, y5, rfl⟩, hB⟩ := hJ
        rw [List.getElem?_map] at hj
        obtain ⟨r, hrj, rfl⟩ := Option.map_eq_some_iff.mp hj
        have hrm : r ∈ rs := List.mem_of_getElem? hrj
        have h1 := hF.one r hrm
        refine ⟨[4], _, asg_name, ?_⟩
        refine q_asg (d := eCrowd (cn m r.1)) (ev_call0 (ds := [.str m, .str r.1]) (ea_cons (ev_op (ev_var rfl) ev_int (rd_ixT rfl)) (ea_cons (ev_op (ev_var rfl) ev_int (rd_ixT rfl)) ea_nil)) (spD ⟨m, r.1, rfl, rfl, hm, by rw [h1.len]; decide, h1.mem⟩)) asg_name ?_
        refine sv_if (b := !lack m c g r) (et_test ((ev_op (ev_lc (f := fun p : Int × Int × Int => decide (p.1 < p.2.1) && decide (p.2.2 = 0)) (h := fun _ => D.int 1) (ρ' := fun p : Int × Int × Int => [some (eFolk m rs), some (.lst (cs.map eCrowd)), some (eCrowd g), some (eCrowd c), some (eRule r), some (eCrowd (cn m r.1)), some (.int p.1), some (.int p.2.1), some (.int p.2.2)])
          ((ei_zip3 (ea_cons (ev_var rfl) (ea_cons (ev_var rfl) (ea_cons (ev_var rfl) ea_nil))) (.tup _) (.tup _) (.tup _)).is zip3_map) (fun j hj => hj) (fun p _ => asg_tup3) (fun p _ => et_and (et_test (ev_op (ev_var rfl) (ev_var rfl) rd_ltI)) fun _ => et_test (ev_op (ev_var rfl) ev_int rd_eqI)) (fun p _ _ => ev_int) ?_) (ev_lst ea_nil (by decide)) (rd_eqNil ?_)).is ?_)) (fun hb => ?_) (fun hb => ?_)
        · rw [List.length_zip]
          have := hc c hcm
          omega
        · exact pls_map fun p hp => by rw [pl]
        · congr 1
          unfold lack
          rw [Bool.eq_iff_iff, List.isEmpty_iff, List.map_eq_nil_iff, List.filter_eq_nil_iff, Bool.not_eq_true', List.any_eq_false]
        · refine sv_ret ev_bl ?_
          show D.bl false = D.bl (stayz m rs cs g)
          congr 1
          refine Eq.symm ?_
          rw [Bool.not_eq_true'] at hb
          unfold stayz
          rw [List.all_eq_false]
          refine ⟨c, hcm, ?_⟩
          rw [Bool.not_eq_true, List.all_eq_false]
          exact ⟨r, hrm, by rw [hb]; decide⟩
        · refine sv_next ⟨rfl, ⟨_, _, rfl⟩, ?_⟩
          rw [List.take_add_one, hrj, List.all_append, hB]
          rw [Bool.not_eq_false'] at hb
          show (lack m c g r && true) = true
          rw [hb]
          rfl
      · obtain ⟨rfl, ⟨y4, y5, rfl⟩, hB⟩ := hJ
        refine ⟨rfl, ⟨_, _, _, rfl⟩, ?_⟩
        rw [List.take_add_one, hci, List.all_append, hA]
        rw [List.length_map, List.take_length] at hB
        show (L c && true) = true
        have hB : L c = true := hB
        rw [hB]
        rfl
    · obtain ⟨rfl, ⟨x3, x4, x5, rfl⟩, hA⟩ := hI
      rw [List.length_map, List.take_length] at hA
      refine sv_ret ev_bl ?_
      show D.bl true = D.bl (stayz m rs cs g)
      congr 1
      exact hA.symm
abbrev fAl (ok : D → Prop) (ds : List D) (d : D) : Prop := ∃ x, ds = [x, x] ∧ d = .bl true ∧ ok x
def alUp (ok : D → Prop) (x : D) : Prop := (∃ i, x = .int i) ∨ ∃ l : List D, (x = .tup l ∨ x = .lst l) ∧ l.length ≤ 1000 ∧ ∀ y ∈ l, ok y
theorem dLawAlike0 (F : FunAt K mg "_law_alike" sLawAlike ["_law_found", "_law_due"]) : Def P w K mg base CX0 "_law_alike" 1 ["_law_found", "_law_due"] [] (spF (fAl fun _ => False)) := by
  obtain ⟨f, fd, Fn, m, b⟩ := F
  refine ⟨f, fd, [], ⟨fun vs H Q E h => ?_, fun A outer s H args us vs Q E hr e0 hb hvs hs => ?_⟩, m, Fn.kp, b, .nil⟩
  · obtain ⟨_, _, _, _, _, _, ⟨_, _, _, h⟩, _⟩ := h
    exact h.elim
  · obtain ⟨_, _, _, _, _, _, ⟨_, _, _, h⟩, _⟩ := hs
    exact h.elim
theorem dLawAlikeUp {k : Nat} {ok : D → Prop} (F : FunAt K mg "_law_alike" sLawAlike ["_law_found", "_law_due"]) (T : Bts mg) (DLawAlike : Def P w K mg base CX0 "_law_alike" k ["_law_found", "_law_due"] [] (spF (fAl ok))) :
    Def P w K mg base CX0 "_law_alike" (k + 1) ["_law_found", "_law_due"] [] (spF (fAl (alUp ok))) := by
  refine F.def_ scLawAlike (fun ds d h => ?_) (fun cdv A outer s H E f hr => ?_)
  · obtain ⟨x, rfl, _⟩ := h
    rfl
  · refine ⟨_, (pss_cons (ps_if (pt_val (pe_callB (uIsi K rfl) (by rfl) T.isinstance (by decide +kernel) (pa_cons (pv 1) (pa_cons (pe_tup (pa_cons (pe_bltn (v := .ty "tuple") (by rfl) T.tuple (by decide +kernel) rfl) (pa_cons (pe_bltn (v := .ty "list") (by rfl) T.list (by decide +kernel) rfl) pa_nil))) pa_nil)))) (pss_cons (ps_if (PW.pt (pw_or (pt_not (pt_val (pe_callB (uIsi K rfl) (by rfl) T.isinstance (by decide +kernel) (pa_cons (pv 0) (pa_cons (pe_tup (pa_cons (pe_bltn (v := .ty "tuple") (by rfl) T.tuple (by decide +kernel) rfl) (pa_cons (pe_bltn (v := .ty "list") (by rfl) T.list (by decide +kernel) rfl) pa_nil))) pa_nil))))) (pw_or1 (pt_cmpR (uNe K rfl (hu64 hr)) (pe_callB (uIsi K rfl) (by rfl) T.isinstance (by decide +kernel) (pa_cons (pv 0) (pa_cons (pe_bltn (v := .ty "list") (by rfl) T.list (by decide +kernel) rfl) pa_nil))) (pe_callB (uIsi K rfl) (by rfl) T.isinstance (by decide +kernel) (pa_cons (pv 1) (pa_cons (pe_bltn (v := .ty "list") (by rfl) T.list (by decide +kernel) rfl) pa_nil))) (nomark _))))) (pss_one (ps_ret pe_bl)) pss_nil)
      (pss_cons (ps_if (pt_cmpR (uNe K rfl (hu64 hr)) (pe_callB (uLen K rfl) (by rfl) T.len (by decide +kernel) (pa_cons (pv 0) pa_nil)) (pe_callB (uLen K rfl) (by rfl) T.len (by decide +kernel) (pa_cons (pv 1) pa_nil)) (nomark _)) (pss_one (ps_ret pe_bl)) pss_nil)
      (pss_one (ps_ret (pe_cmpR (uEq K rfl (hu64 hr)) (pe_lc (own := [("_law_k", 2)]) (g := (gName 2))  rfl scLawAlike.nd (pi_range1 (by rfl) T.range (pa_cons (pe_callB (uLen K rfl) (by rfl) T.len (by decide +kernel) (pa_cons (pv 1) pa_nil)) pa_nil)) (blkOk_by (N := ["_law_found", "_law_due", "_law_k", "_law_key"]) (sc := (defScope sLawAlike)) (by decide +kernel)) (fun _ _ _ _ _ => (pg_name (i := 2) scLawAlike.nd rfl (by first | exact Or.inl rfl | exact Or.inr rfl))) (fun _ _ _ _ _ => pts_one (pt_not (pt_val (pe_def DLawAlike hr (Nat.le_refl _) (by rfl) pass0 (pa_cons (pe_ix (uIx K rfl) (pv 0) (pv 2) (fun _ _ => rfl)) (pa_cons (pe_ix (uIx K rfl) (pv 1) (pv 2) (fun _ _ => rfl)) pa_nil)))))) (fun _ _ _ _ _ => (pv 2))) (pe_lst pa_nil) (nomark _)))))) pss_nil)
      (pss_cons (ps_if (pt_val (pe_callB (uIsi K rfl) (by rfl) T.isinstance (by decide +kernel) (pa_cons (pv 1) (pa_cons (pe_bltn (v := .ty "dict") (by rfl) T.dict (by decide +kernel) rfl) pa_nil)))) (pss_cons (ps_if (PW.pt (pw_or (pt_not (pt_val (pe_callB (uIsi K rfl) (by rfl) T.isinstance (by decide +kernel) (pa_cons (pv 0) (pa_cons (pe_bltn (v := .ty "dict") (by rfl) T.dict (by decide +kernel) rfl) pa_nil))))) (pw_or1 (pt_cmpR (uNe K rfl (hu64 hr)) (pe_callB (uSorted K rfl) (by rfl) T.sorted (by decide +kernel) (pa_cons (pv 0) pa_nil)) (pe_callB (uSorted K rfl) (by rfl) T.sorted (by decide +kernel) (pa_cons (pv 1) pa_nil)) (nomark _))))) (pss_one (ps_ret pe_bl)) pss_nil)
      (pss_one (ps_ret (pe_cmpR (uEq K rfl (hu64 hr)) (pe_lc (own := [("_law_key", 3)]) (g := (gName 3))  rfl scLawAlike.nd (uSeq K rfl (pv 1)) (blkOk_by (N := ["_law_found", "_law_due", "_law_k", "_law_key"]) (sc := (defScope sLawAlike)) (by decide +kernel)) (fun _ _ _ _ _ => (pg_name (i := 3) scLawAlike.nd rfl (by first | exact Or.inl rfl | exact Or.inr rfl))) (fun _ _ _ _ _ => pts_one (pt_not (pt_val (pe_def DLawAlike hr (Nat.le_refl _) (by rfl) pass0 (pa_cons (pe_ix (uIx K rfl) (pv 0) (pv 3) (fun _ _ => rfl)) (pa_cons (pe_ix (uIx K rfl) (pv 1) (pv 3) (fun _ _ => rfl)) pa_nil)))))) (fun _ _ _ _ _ => (pv 3))) (pe_lst pa_nil) (nomark _))))) pss_nil)
      (pss_cons (ps_if (PW.pt (pw_or (pt_cmpR uIsN (pv 1) pe_non (nomark _)) (pw_or1 (pt_val (pe_callB (uIsi K rfl) (by rfl) T.isinstance (by decide +kernel) (pa_cons (pv 1) (pa_cons (pe_bltn (v := .ty "str") (by rfl) T.str (by decide +kernel) rfl) pa_nil))))))) (pss_one (ps_ret (pe_and (pe_cmpR (uEq K rfl (hu64 hr)) (pv 0) (pv 1) (nomark _)) (pe_one (pe_cmpR (uEq K rfl (hu64 hr)) (pe_callB (uIsi K rfl) (by rfl) T.isinstance (by decide +kernel) (pa_cons (pv 0) (pa_cons (pe_bltn (v := .ty "str") (by rfl) T.str (by decide +kernel) rfl) pa_nil))) (pe_callB (uIsi K rfl) (by rfl) T.isinstance (by decide +kernel) (pa_cons (pv 1) (pa_cons (pe_bltn (v := .ty "str") (by rfl) T.str (by decide +kernel) rfl) pa_nil))) (nomark _)))))) pss_nil)
      (pss_one (ps_ret (pe_and (pe_callB (uIsi K rfl) (by rfl) T.isinstance (by decide +kernel) (pa_cons (pv 0) (pa_cons (pe_bltn (v := .ty "int") (by rfl) T.int (by decide +kernel) rfl) pa_nil))) (pe_and (pe_cmpR (uEq K rfl (hu64 hr)) (pe_callB (uIsi K rfl) (by rfl) T.isinstance (by decide +kernel) (pa_cons (pv 0) (pa_cons (pe_bltn (v := .ty "bool") (by rfl) T.bool (by decide +kernel) rfl) pa_nil))) (pe_callB (uIsi K rfl) (by rfl) T.isinstance (by decide +kernel) (pa_cons (pv 1) (pa_cons (pe_bltn (v := .ty "bool") (by rfl) T.bool (by decide +kernel) rfl) pa_nil))) (nomark _)) (pe_one (pe_cmpR (uEq K rfl (hu64 hr)) (pv 0) (pv 1) (nomark _)))))))))), fun ds p h => ?_⟩
    obtain ⟨x, rfl, rfl, hx⟩ := h
    have tt : ∀ {i : Nat} {d : D} {b c : Bool} {σ : DEnv} (s : String), σ[i]? = some (some d) → dty d = s → kitB s "tuple" = some b → kitB s "list" = some c → s ≠ "?" → Ev mu0 (tCB (rIsiU K) (tCons (tVar i) (tCons (tTup (tCons (tC (.ty "tuple")) (tCons (tC (.ty "list")) tNil))) tNil))) σ (.bl (b || c)) := fun s h e h1 h2 h3 => by
      subst e
      exact ev_cb (ea_cons (ev_var h) (ea_cons (ev_tup (ea_cons ev_ty (ea_cons ev_ty ea_nil)) (by decide)) ea_nil)) (cd_isi2 h1 h2 h3)
    have t1 : ∀ {i : Nat} {d : D} {b : Bool} {σ : DEnv} {n : String} (s : String), σ[i]? = some (some d) → dty d = s → kitB s n = some b → s ≠ "?" → Ev mu0 (tCB (rIsiU K) (tCons (tVar i) (tCons (tC (.ty n)) tNil))) σ (.bl b) := fun s h e h1 h3 => by
      subst e
      exact ev_cb (ea_cons (ev_var h) (ea_cons ev_ty ea_nil)) (cd_isi h1 h3)
    rcases hx with ⟨i, rfl⟩ | ⟨l, rfl | rfl, hl, hok⟩
    · refine q_if (b := false) (et_test (tt (b := false) (c := false) "int" rfl rfl (by decide +kernel) (by decide +kernel) (by decide))) (fun h => by cases h) fun _ => q_next ?_
      refine q_if (b := false) (et_test (t1 "int" rfl rfl (by decide +kernel) (by decide))) (fun h => by cases h) fun _ => q_next ?_
      refine q_if (b := false) (et_or (a := false) (b := false) (et_test (ev_op (ev_var rfl) ev_non (rd_isN (by intro h; cases h)))) fun _ => et_test (t1 "int" rfl rfl (by decide +kernel) (by decide))) (fun h => by cases h) fun _ => q_next ?_
      refine sv_ret ((ev_andV (a := true) (b := true) (t1 "int" rfl rfl (by decide +kernel) (by decide)) fun _ => (ev_andV (a := true) (b := true) ((ev_op (t1 (b := false) "int" rfl rfl (by decide +kernel) (by decide)) (t1 (b := false) "int" rfl rfl (by decide +kernel) (by decide)) rd_eqB).is rfl) fun _ => (ev_op (ev_var rfl) (ev_var rfl) rd_eqI).is (by rw [decide_eq_true rfl])))) rfl
    · have hfil : (List.range l.length).filter (fun _ => false) = [] := List.filter_eq_nil_iff.mpr (fun _ _ h => absurd h (by decide))
      have hat : ∀ i ∈ List.range l.length, atI l (0 + ((i : Nat) : Int)) = some (l.getD i .non) := fun i hi => by
        rw [Int.zero_add, atI_getD (List.mem_range.mp hi) .non]
      have hokg : ∀ i ∈ List.range l.length, ok (l.getD i .non) := fun i hi => by
        have hi := List.mem_range.mp hi
        rw [List.getD_eq_getElem?_getD, List.getElem?_eq_getElem hi]
        exact hok _ (List.getElem_mem hi)
      refine q_if (b := true) (et_test (tt (b := true) (c := false) "tuple" rfl rfl (by decide +kernel) (by decide +kernel) (by decide))) (fun _ => ?_) (fun h => by cases h)
      refine q_seq (q_if (b := false) (et_or (a := false) (b := false) (et_not (a := true) (et_test (tt (b := true) (c := false) "tuple" rfl rfl (by decide +kernel) (by decide +kernel) (by decide)))) fun _ => et_test ((ev_op (t1 (b := false) "tuple" rfl rfl (by decide +kernel) (by decide)) (t1 (b := false) "tuple" rfl rfl (by decide +kernel) (by decide)) rd_neB).is rfl)) (fun h => by cases h) fun _ => q_next ?_)
      refine q_seq (q_if (b := false) (et_test ((ev_op (ev_cb (ea_cons (ev_var rfl) ea_nil) cd_lenT) (ev_cb (ea_cons (ev_var rfl) ea_nil) cd_lenT) rd_neI).is (by rw [decide_eq_true rfl]; rfl))) (fun h => by cases h) fun _ => q_next ?_)
      refine q_ret (sv_ret ((ev_op (ev_lc (xs := List.range l.length) (enc := fun i : Nat => D.int (0 + (i : Nat))) (f := fun _ => false) (h := fun i : Nat => D.int (0 + (i : Nat))) (ρ' := fun i : Nat => [some (.tup l), some (.tup l), some (.int (0 + (i : Nat))), none]) ((ei_rng1 (ea_cons (ev_cb (ea_cons (ev_var rfl) ea_nil) cd_lenT) ea_nil) (by omega) (by omega)).is (by rw [upTo]; congr 1)) (fun j hj => hj) (fun i _ => asg_name)
        (fun i hi => et_not (a := true) (et_test (ev_call0 (ds := [l.getD i .non, l.getD i .non]) (ea_cons (ev_op (ev_var rfl) (ev_var rfl) (rd_ixT (hat i hi))) (ea_cons (ev_op (ev_var rfl) (ev_var rfl) (rd_ixT (hat i hi))) ea_nil)) (spD ⟨_, rfl, rfl, hokg i hi⟩)))) (fun i _ _ => ev_var rfl) (by rw [List.length_range]; omega)) (ev_lst ea_nil (by decide)) (rd_eqNil (by rw [hfil]; rfl))).is (by rw [hfil]; rfl)) rfl)
    · have hfil : (List.range l.length).filter (fun _ => false) = [] := List.filter_eq_nil_iff.mpr (fun _ _ h => absurd h (by decide))
      have hat : ∀ i ∈ List.range l.length, atI l (0 + ((i : Nat) : Int)) = some (l.getD i .non) := fun i hi => by
        rw [Int.zero_add, atI_getD (List.mem_range.mp hi) .non]
      have hokg : ∀ i ∈ List.range l.length, ok (l.getD i .non) := fun i hi => by
        have hi := List.mem_range.mp hi
        rw [List.getD_eq_getElem?_getD, List.getElem?_eq_getElem hi]
        exact hok _ (List.getElem_mem hi)
      refine q_if (b := true) (et_test (tt (b := false) (c := true) "list" rfl rfl (by decide +kernel) (by decide +kernel) (by decide))) (fun _ => ?_) (fun h => by cases h)
      refine q_seq (q_if (b := false) (et_or (a := false) (b := false) (et_not (a := true) (et_test (tt (b := false) (c := true) "list" rfl rfl (by decide +kernel) (by decide +kernel) (by decide)))) fun _ => et_test ((ev_op (t1 (b := true) "list" rfl rfl (by decide +kernel) (by decide)) (t1 (b := true) "list" rfl rfl (by decide +kernel) (by decide)) rd_neB).is rfl)) (fun h => by cases h) fun _ => q_next ?_)
      refine q_seq (q_if (b := false) (et_test ((ev_op (ev_cb (ea_cons (ev_var rfl) ea_nil) cd_lenL) (ev_cb (ea_cons (ev_var rfl) ea_nil) cd_lenL) rd_neI).is (by rw [decide_eq_true rfl]; rfl))) (fun h => by cases h) fun _ => q_next ?_)
      refine q_ret (sv_ret ((ev_op (ev_lc (xs := List.range l.length) (enc := fun i : Nat => D.int (0 + (i : Nat))) (f := fun _ => false) (h := fun i : Nat => D.int (0 + (i : Nat))) (ρ' := fun i : Nat => [some (.lst l), some (.lst l), some (.int (0 + (i : Nat))), none]) ((ei_rng1 (ea_cons (ev_cb (ea_cons (ev_var rfl) ea_nil) cd_lenL) ea_nil) (by omega) (by omega)).is (by rw [upTo]; congr 1)) (fun j hj => hj) (fun i _ => asg_name)
        (fun i hi => et_not (a := true) (et_test (ev_call0 (ds := [l.getD i .non, l.getD i .non]) (ea_cons (ev_op (ev_var rfl) (ev_var rfl) (rd_ixL (hat i hi))) (ea_cons (ev_op (ev_var rfl) (ev_var rfl) (rd_ixL (hat i hi))) ea_nil)) (spD ⟨_, rfl, rfl, hokg i hi⟩)))) (fun i _ _ => ev_var rfl) (by rw [List.length_range]; omega)) (ev_lst ea_nil (by decide)) (rd_eqNil (by rw [hfil]; rfl))).is (by rw [hfil]; rfl)) rfl)
end
end Mf
set_option maxRecDepth 100000
set_option maxHeartbeats 4000000
/-! Several except clauses, some of which name the exception; isinstance of such an exception with a dict of its own. -/
namespace Mf
open PySem PySem.Spec L2 PyProof.Rows
structure Cl where
  c : Value
  i : Option Nat
  ts : Addr → Value → Option Addr → TS
def Cl.go (k : Cl) (En : Ends) (a : Addr) (kl : Value) (dd : Option Addr) (g : L2.St) (Hh : Hp) : Prop := match k.i with
  | none => k.ts a kl dd En g Hh
  | some i => k.ts a kl dd { nx := fun g' H' => En.nx (g'.set i none) H', rt := En.rt, bk := fun g' H' => En.bk (g'.set i none) H', ct := fun g' H' => En.ct (g'.set i none) H' } (g.set i (some (.ref a))) Hh
def wCls (K : PySem.W.Frag) (Wo : WX) (En : Ends) : List Cl → WX
  | [] => Wo
  | k :: r => fun kl dd g Hh => ∃ b, PySem.W.exmOne K kl k.c = some b ∧ (b = true → ∀ a, Hh a = none → k.go En a kl dd g Hh) ∧ (b = false → wCls K Wo En r kl dd g Hh)
inductive ClsOk (X : Cx) : List ExceptHandler → List Cl → Prop
  | nil : ClsOk X [] []
  | plain {x : Str} {c : Value} {ts : Addr → Value → Option Addr → TS} {b₀ : Stmt} {suite : List Stmt} {np pq : Pos} {hds : List ExceptHandler} {l : List Cl} (hc : Names X x c)
      (hsu : ∀ (a : Addr) (ox : Obj) (kl : Value) (dd : Option Addr) (pn : List (Addr × Obj)), Zc kl dd ox → (∃ vs, ox.data = .fields vs) → PSs (X.suite a ((a, ox) :: pn)) (b₀ :: suite) (ts a kl dd)) (r : ClsOk X hds l) :
      ClsOk X (.ExceptHandler (some (.Name x np)) none (b₀ :: suite) pq :: hds) (⟨c, none, ts⟩ :: l)
  | named {x n : Str} {i : Nat} {c : Value} {ts : Addr → Value → Option Addr → TS} {b₀ : Stmt} {suite : List Stmt} {np pq : Pos} {hds : List ExceptHandler} {l : List Cl} (hc : Names X x c) (hN : X.N.Nodup) (hi : X.N[i]? = some n) (hln : X.env.kindOf n = some .local)
      (hsu : ∀ (a : Addr) (ox : Obj) (kl : Value) (dd : Option Addr) (pn : List (Addr × Obj)), Zc kl dd ox → (∃ vs, ox.data = .fields vs) → PSs (X.suite a ((a, ox) :: pn)) (b₀ :: suite) (ts a kl dd)) (r : ClsOk X hds l) :
      ClsOk X (.ExceptHandler (some (.Name x np)) (some n) (b₀ :: suite) pq :: hds) (⟨c, some i, ts⟩ :: l)
section
variable {X : Cx} {bd : List Stmt} {hd0 : ExceptHandler} {hds : List ExceptHandler} {l : List Cl} {pz : Pos} {tb : WX → TS} {Wo : WX}
theorem ps_try_cls (hstk : X.stack = X.env :: X.outer) (hfrm : X.env.frame = some X.env.locals) (tk : Takes X Wo)
    (hbd : ∀ (W : WX) (pn : List (Addr × Obj)) (xe : Value → Shared → Prop), Takes (X.tr pn xe) W → PassesOwn (model X.prog X.w) X.A X.env xe → PSs (X.tr pn xe) bd (tb W))
    (hh : ClsOk X (hd0 :: hds) l) : PS X (.Try bd (hd0 :: hds) [] [] pz) (fun En g Hh => tb (fun kl dd g' H' => g'.length = X.N.length → wCls X.K Wo En l kl dd g' H') En g Hh) := by
  refine ⟨fun pj s0 g Hh En I0 hq => ?_⟩
  have okX := I0.ok
  have hfr0 : X.A.frames = some (X.env :: X.outer) := by rw [okX.frames, hstk]
  refine wpAny_Try_except (wpAny_mono ((hbd (fun kl dd g' H' => g'.length = X.N.length → wCls X.K Wo En l kl dd g' H') (X.pn ++ pj) (fun e sa => wpAny (model X.prog X.w) X.A (noteFrame e X.env) (fun _ sb => wpAny (model X.prog X.w) X.A (setFlight e none) (fun _ sc =>
    wpAny (model X.prog X.w) X.A (handleBy e X.env (hd0 :: hds)) (SP X pj En) X.xe sc) X.xe sb) X.xe sa) (fun u t0 xx => ?_) PassesOwn.looking).run [] s0 g Hh En (I0.toTry _) hq) (fun fl t1 hsp => ?_) (fun e t1 he => he))
  · obtain ⟨a, Bs, si, pk, g', H', kl, dd, rfl, J0, nb, up0, sk0, na, os0, ag0, ww⟩ := xx
    have Jx : Inv X pj g' H' si := J0.ofTry okX
    have ww := ww Jx.len
    have sk1 : Sky Bs (X.env :: X.outer) a (Zc kl dd) X.env.locals t0.heap := by rw [← hstk]; exact sk0
    show wpAny (model X.prog X.w) X.A (noteFrame (.ref a) X.env) _ _ _
    refine Sky.land Zc.steady hfr0 hfrm sk1 fun ha fla upa => ?_
    have Ja : Inv X pj g' H' { t0 with heap := ha } := Jx.landed nb fla.1 (up0.trans upa) os0 ag0
    obtain ⟨oa, va, ga, za, da⟩ := fla.there
    have noF : ∀ {h : Heap} {o : Obj} {vs : Array Value}, h.FunFrames Bs (X.env :: X.outer) → h.get? a = some o → o.data = .fields vs → a ∉ frs (X.env :: X.outer) := fun {h o vs} ff e dd hm => by
      obtain ⟨_, oq, eq, hnf⟩ := ff.mem hm
      rw [e] at eq
      cases eq
      exact hnf _ dd
    have nfra := noF fla.2.2.1 ga da
    have nLa : a ≠ X.env.locals := fun z => nfra (List.mem_filterMap.mpr ⟨X.env, List.mem_cons_self, by rw [hfrm, z]⟩)
    have nFa : a ∉ X.fs := fun hm => by
      obtain ⟨ev, hev, qe⟩ := List.mem_filterMap.mp hm
      exact nfra (List.mem_filterMap.mpr ⟨ev, List.mem_cons_of_mem _ hev, qe⟩)
    have Sa := Ja.suite ga da na nLa nFa
    have LTa : PySem.W.Looks (model X.prog X.w) ha (typeOf (.ref a)) kl := fun A Q E s k q => wpAny_typeOf_ref (k _ _ ga) (by rw [za.1]; exact q)
    have asks : ∀ {x : Str} {c : Value} {np : Pos} {Q : Value → Shared → Prop} {E : Value → Shared → Prop}, Names X x c → Q c { t0 with heap := ha } → wpAny (model X.prog X.w) (X.A.mark (some (.ref a))) (eval (.Name x np) X.env) Q E { t0 with heap := ha } := fun {x c np Q E} hc q => by
      obtain ⟨hg, hdb, hm | ⟨hm, hv, hnn⟩⟩ := hc
      · exact ld_glob (X := X.suite a ((a, oa) :: (X.pn ++ pj))) Sa hg hm q hdb
      · exact ld_blt (X := X.suite a ((a, oa) :: (X.pn ++ pj))) Sa hg hm hv q hnn hdb
    have all_ : ∀ {hs2 : List ExceptHandler} {l2 : List Cl}, ClsOk X hs2 l2 → wCls X.K Wo En l2 kl dd g' H' →
        wpAny (model X.prog X.w) X.A (handleBy (.ref a) X.env hs2) (SP X pj En) X.xe { t0 with heap := ha } := by
      intro hs2 l2 hk
      induction hk with
      | nil =>
        intro w
        refine wpAny_handleBy_nil ?_
        obtain ⟨k1, k2, k3, ox, vs, T, oT, us, he, hz, hd, h1, hr⟩ := id fla
        unfold PySem.passOn
        refine wpAny_bind (wpAny_field he hd h1 ?_)
        rw [if_neg (show ¬ ((Value.ref T == Value.none) = true) from by simp)]
        have last : wpAny (model X.prog X.w) X.A (setFlight (.ref a) X.env.frame) (fun _ sx => wpAny (model X.prog X.w) X.A (throw (.ref a) : Sem Flow) (SP X pj En) X.xe sx) X.xe { t0 with heap := ha } := by
          rw [hfrm]
          refine HandSPX.setFlight_upZ fla fun hb hhb upb => wpAny_throw (tk _ _ ⟨a, Bs, si, pj, g', H', kl, dd, rfl, Jx, nb, (up0.trans upa).trans upb, .inr (.inr (by rw [hstk]; exact hhb)), na, os0, ag0, w⟩)
        first
          | exact wpAny_bind (wpAny_pure (wpAny_bind last))
          | exact wpAny_bind last
      | @plain x c ts b₀ suite np pq hds2 l3 hc hsu r ih =>
        intro w
        obtain ⟨b, hb1, hyes, hno⟩ := w
        refine wpAny_handleBy_cons (codeAny_handlers_test ?_) (by intro q; cases q)
        refine asks hc ((PySem.W.exm_one (M := model X.prog X.w) Ja.kIn LTa hb1).here ?_)
        cases b with
        | false => exact ih (hno rfl)
        | true =>
          refine codeAny_handlers_suite (HandSPX.lands_againZ fla fun hb flb upb => ?_)
          have Jb : Inv X pj g' H' { t0 with heap := hb } := Jx.landed nb flb.1 ((up0.trans upa).trans upb) os0 ag0
          obtain ⟨ob, vb, gb, zb, db⟩ := flb.there
          have hy : ts a kl dd En g' H' := hyes rfl a na
          refine wpAny_mono ((hsu a ob kl dd (X.pn ++ pj) zb ⟨_, db⟩).run [] _ _ H' _ (Jb.suite gb db na nLa nFa) hy) (fun fl sx hsp => ?_) (fun _ _ z => False.elim z)
          cases fl with
          | next =>
            obtain ⟨gx, Hx, Sx, qx⟩ := hsp
            exact ⟨_, _, Sx.unsuite okX, qx⟩
          | brk =>
            obtain ⟨gx, Hx, Sx, qx⟩ := hsp
            exact ⟨_, _, Sx.unsuite okX, qx⟩
          | cont =>
            obtain ⟨gx, Hx, Sx, qx⟩ := hsp
            exact ⟨_, _, Sx.unsuite okX, qx⟩
          | ret u =>
            obtain ⟨vx, gx, Hx, Sx, rx, qx⟩ := hsp
            exact ⟨_, _, _, Sx.unsuite okX, rx, qx⟩
      | @named x n i c ts b₀ suite np pq hds2 l3 hc hN hi hln hsu r ih =>
        intro w
        obtain ⟨b, hb1, hyes, hno⟩ := w
        refine wpAny_handleBy_cons (codeAny_handlers_test ?_) (by intro q; cases q)
        refine asks hc ((PySem.W.exm_one (M := model X.prog X.w) Ja.kIn LTa hb1).here ?_)
        cases b with
        | false => exact ih (hno rfl)
        | true =>
          refine codeAny_handlers_suite_as (HandSPX.lands_againZ fla fun hb flb upb => ?_)
          have Jb : Inv X pj g' H' { t0 with heap := hb } := Jx.landed nb flb.1 ((up0.trans upa).trans upb) os0 ag0
          obtain ⟨ob, vb, gb, zb, db⟩ := flb.there
          have locn : Loc X.env.scope n := .inl hln
          refine store_ok (X := X.suite a ((a, ob) :: (X.pn ++ pj))) (v := .ref a) (Jb.suite gb db na nLa nFa) hN hi locn rfl (fun sy Sy => ?_) (.inr hln)
          have hy : ts a kl dd { nx := fun g' H' => En.nx (g'.set i none) H', rt := En.rt, bk := fun g' H' => En.bk (g'.set i none) H', ct := fun g' H' => En.ct (g'.set i none) H' } (g'.set i (some (.ref a))) H' := hyes rfl a na
          refine wpAny_mono ((hsu a ob kl dd (X.pn ++ pj) zb ⟨_, db⟩).run [] sy _ H' _ Sy hy) (fun fl sx hsp => ?_) (fun _ _ z => False.elim z)
          have gone_ : ∀ {gx : L2.St} {Hx : Hp} {Q : Shared → Prop}, Inv (X.suite a ((a, ob) :: (X.pn ++ pj))) [] gx Hx sx → (∀ sw, Inv X pj (gx.set i none) Hx sw → Q sw) →
              wpAny (model X.prog X.w) X.A (do bindName X.env n .none; unbindBehindTheSuite X.env n pq) (fun _ sw => Q sw) X.xe sx := fun {gx Hx Q} Sx hq => gone_ok (Sx.unsuite okX) hN hi hln hq
          cases fl with
          | next =>
            obtain ⟨gx, Hx, Sx, qx⟩ := hsp
            exact gone_ Sx fun sw Jw => ⟨_, _, Jw, qx⟩
          | brk =>
            obtain ⟨gx, Hx, Sx, qx⟩ := hsp
            exact gone_ Sx fun sw Jw => ⟨_, _, Jw, qx⟩
          | cont =>
            obtain ⟨gx, Hx, Sx, qx⟩ := hsp
            exact gone_ Sx fun sw Jw => ⟨_, _, Jw, qx⟩
          | ret u =>
            obtain ⟨vx, gx, Hx, Sx, rx, qx⟩ := hsp
            exact gone_ Sx fun sw Jw => ⟨_, _, _, Jw, rx, qx⟩
    exact all_ hh ww
  · cases fl with
    | next =>
      obtain ⟨g', H', J0, q⟩ := hsp
      exact wpAny_execs_nil ⟨g', H', J0.ofTry okX, q⟩
    | brk =>
      obtain ⟨g', H', J0, q⟩ := hsp
      exact ⟨g', H', J0.ofTry okX, q⟩
    | cont =>
      obtain ⟨g', H', J0, q⟩ := hsp
      exact ⟨g', H', J0.ofTry okX, q⟩
    | ret u =>
      obtain ⟨v, g', H', J0, r, q⟩ := hsp
      exact ⟨v, g', H', J0.ofTry okX, r, q⟩
end
/-- what isinstance of an exception with fields asks of its class -/
structure ExD (K : PySem.W.Frag) (C : Addr) : Prop where
  cl : (PySem.W.clsIn K C).isSome = true
  ga : PySem.W.findIn K (.ref C) "__getattribute__" = some (some (.builtin "BaseException.__getattribute__"))
  gt : PySem.W.findIn K (.ref C) "__getattr__" = some none
  sub : PySem.W.subIn K (.ref C) (.type "BaseException") = some true
  dc : PySem.W.findIn K (.ref C) "__class__" = some (some (.builtin "object.__class__"))
  sp : PySem.W.specialIn K (.builtin "object.__class__") "__get__" = some (some (.builtin "getset_descriptor.__get__"))
  tk : PySem.W.takesIn K (.builtin "object.__class__") = some true
  mro : PySem.W.mroIn K C (.type "object") = some true
def rIsX (K : PySem.W.Frag) (C a : Addr) (kl : Value) (dd : Option Addr) : List V → Hp → VK → Prop := fun xs Hh Q => kl = .ref C ∧ (∃ p fs, dd = some p ∧ Hh p = some (.xd fs)) ∧ ∃ (T : String) (b : Bool), xs = [.ref a, .ty T] ∧ PySem.W.kitOne K (.ref C) (.type T) = some b ∧ Q (.bl b) Hh
theorem call_isX {X : Cx} {a C : Addr} {ox : Obj} {kl : Value} {dd : Option Addr} {pn : List (Addr × Obj)} (T : ExD X.K C) (hz : Zc kl dd ox) (hf : ∃ vs, ox.data = .fields vs) : CallR (X.suite a ((a, ox) :: pn)) (.builtin "isinstance") (rIsX X.K C a kl dd) := by
  intro pj s0 g Hh vs us Q I0 r hq
  obtain ⟨rfl, ⟨p, fs, rfl, hp⟩, n, b, rfl, hk, q⟩ := hq
  cases r with
  | cons r1 r =>
  cases r with
  | cons r2 r =>
  cases r
  cases r1
  cases r2
  obtain ⟨hget, _⟩ := I0.pin (a, ox) (List.mem_append.mpr (.inl List.mem_cons_self))
  obtain ⟨vs, hd⟩ := hf
  have hx : ObjOk X.prog X.w Hh s0.heap p (.xd fs) := I0.hok p _ hp
  obtain ⟨mA, hns, _⟩ := hx
  obtain ⟨od, ho, _⟩ := lookIn_ns hns
  have J : PySem.W.InstAt s0.heap a ox C (some od) := ⟨hget, hz.1, by unfold PySem.W.notCls; rw [hd] <;> rfl, by rw [hz.2]; exact ho⟩
  exact PySem.W.kia_one (PySem.W.kitx_exc (x := a) (C := C) (ox := ox) (od := some od) T.cl T.ga T.gt T.sub T.dc T.sp T.tk T.mro) I0.kIn J hk (fun z => nomatch z) fun tk => ⟨.bl b, Hh, I0.kept (t' := tk) fun _ _ z => z, rfl, q⟩
end Mf
set_option maxRecDepth 100000
set_option maxHeartbeats 4000000
/-! A lambda with one parameter that has a default, handed to a def that calls it without arguments. -/
namespace Mf
open PySem PySem.Spec L2 PyProof.Rows LamX
variable [Tt] [Xw]
section
variable {X : Cx} {pins : List (Addr × Obj)} {σ : L2.St} {H HZ : Hp} {s s1 : Shared}
theorem lamD_start {A : Around} {outer : List Env} {E : XK} {scope : Scope} {f c' : Addr} {h₁ : Heap} {tk i : Nat} {x : Str} {v : V} {u : Value}
    (I : Inv X pins σ H s) (L : Lam1 X.env.scope scope x) (e0 : Env0 X.prog X.w X.K X.mg X.base A outer s1 HZ) (hd : A.handled = none) (un : Un (frs X.stack) [] H HZ s.heap s1.heap) (hi : X.N[i]? = some x) (nd : X.N.Nodup) (ru : RelV v u)
    (hns : h₁.Ns s1.heap.objs.size fun y => ([(x, u)] : List (Str × Value)).reverse.lookup y) (kp : ∀ b o, s1.heap.get? b = some o → h₁.get? b = some o) :
    Inv (lamCx X A outer s1 HZ E scope f c') [] (σ.set i (some v)) HZ { s1 with heap := h₁, toks := tk } := by
  have hfree := L.has I.ok
  have cm : ∀ {y c}, (cloFrom X.env.cells scope.names []).lookup y = some c → X.env.cells.lookup y = some c := fun {y c} e => by
    rcases cloFrom_mem (PySem.mem_of_lookup e) with hm | ⟨h1, h2⟩
    · cases hm
    · obtain ⟨cq, hcq⟩ := hfree _ h1 rfl
      have hcq : X.env.cells.lookup y = some cq := hcq
      have eq : c = cq := by
        rw [h2, hcq] <;> rfl
      rw [eq]
      exact hcq
  have look : ∀ {y}, scope.names.lookup y = some .free → ∃ c, (cloFrom X.env.cells scope.names []).lookup y = some c := fun {y} hl => mem_lookup (cloFrom_has (cells := X.env.cells) (acc := []) (PySem.mem_of_lookup hl))
  have cellQ : ∀ {c : Addr} {v : Option Value}, H c = none → s.heap.IsCell c v → h₁.IsCell c v := fun {c v} n ⟨o, ho, hd⟩ => by
    obtain ⟨sl, q⟩ := un.any ho n (by simp)
    exact ⟨_, kp _ _ q, hd⟩
  have noA : ∀ b : Addr, b ∉ (lamCx X A outer s1 HZ E scope f c').ex := fun b z => absurd (show b ∈ ([] : List Addr) from z) (by simp)
  have hil : i < σ.length := by
    rw [I.len]
    exact (List.getElem?_eq_some_iff.mp hi).1
  have okl : (lamCx X A outer s1 HZ E scope f c').Ok := by
    refine ⟨e0.mod, L.kind, rfl, rfl, Nat.le_refl _, fun y z c e1 e2 => I.ok.inj y z c (cm e1) (cm e2), fun y hy => ?_, fun y c z _ => ?_, fun _ => hd, Around.frames_deeper e0.frames, .inr ⟨rfl, rfl⟩, fun b z => absurd z (noA b), e0.bs, e0.bsz, fun b _ _ => noA b, fun b z => absurd z (noA b), e0.funs, e0.frf⟩
    · have hy : scope.names.lookup y = some .cell ∨ scope.names.lookup y = some .free := hy
      exact hy.elim (fun hy => absurd rfl (L.cell _ (PySem.mem_of_lookup hy))) look
    · have z : false = true := z
      cases z
  refine ⟨okl, rfl, e0.bare, Un.kept kp, ⟨_, hns, fun j y v' e1 e2 e3 => ?_⟩, fun y c e => ?_, e0.hok.fresh (Nat.le_refl _), fun y c e => ?_, fun q hq => absurd (show q ∈ ([] : List (Addr × Obj)) ++ [] from hq) (by simp), e0.hok.kept kp, by rw [List.length_set]; exact I.len⟩
  · have e3 : Vis scope y := e3
    have e1 : X.N[j]? = some y := e1
    rcases e3 with k | k | k
    · obtain rfl := L.loc y k
      obtain rfl := nodup_ix nd e1 hi
      rw [List.getElem?_set_self hil] at e2
      cases e2
      exact ⟨u, ru, .inl ⟨k, by simp⟩⟩
    · exact absurd rfl (L.cell _ (PySem.mem_of_lookup k))
    · have hyx : y ≠ x := fun z => by
        rw [z, L.par] at k
        cases k
      have hij : i ≠ j := fun z => by
        subst z
        rw [hi] at e1
        exact hyx (Option.some.inj e1).symm
      rw [List.getElem?_set_ne hij] at e2
      obtain ⟨m, hn, hl⟩ := I.loc
      have vis : Vis X.env.scope y := (L.free _ (PySem.mem_of_lookup k) rfl).elim (fun k => .inr (.inl k)) (fun k => .inr (.inr k))
      obtain ⟨wv, rv, lq⟩ := hl j y v' e1 e2 vis
      obtain ⟨cy, hcy⟩ := look k
      refine ⟨wv, rv, .inr ⟨.inr k, cy, hcy, ?_⟩⟩
      have cyx := cm hcy
      rcases lq with ⟨kl, _⟩ | ⟨_, cz, ez, z⟩
      · have kl : X.env.scope.names.lookup y = some .local := kl
        rcases L.free _ (PySem.mem_of_lookup k) rfl with kk | kk <;> rw [show X.env.scope.names.lookup y = _ from kk] at kl <;> cases kl
      · rw [cyx] at ez
        cases ez
        exact cellQ (I.freeC y _ cyx) z
  · obtain ⟨wv, z⟩ := I.cell y c (cm e)
    exact ⟨wv, cellQ (I.freeC y c (cm e)) z⟩
  · obtain ⟨v, o, ho, hd⟩ := I.cell y c (cm e)
    exact un.free c o ho (I.freeC y c (cm e)) (by simp)
/-- it is made: its code object is new, or found in the table; t0 holds its defaults -/
theorem lamD_make {T : List (Addr × Str)} {c P : Addr} {params : Arguments} {body e1 : Expr} {scope : Scope} {pos : Pos} {n : Int} {Q : Value → Shared → Prop} (I : Inv X pins σ H s) (TB : TabB X.base X.mg c P) (hcode : X.env.code = .ref c)
    (hm : (P, X.env.qual ++ "<lambda>") ∈ T) (hu : ∀ p ∈ T, p.1 = P → p.2 = X.env.qual ++ "<lambda>") (hT : Tabs T H) (hdef : params.defaults = [e1]) (hkw : params.kw_defaults = []) (he1 : PE X e1 (tC (.int n))) (hfree : ∀ y ∈ scope.names, y.2 = .free → ∃ c, X.env.cells.lookup y.1 = some c)
    (h : ∀ (f c' t0 : Addr) (tk : Tok) (doc pm ctv : Value) (Hm : Hp) (sm : Shared), Inv X pins σ Hm sm → ExtN H Hm → Tabs T Hm →
      sm.heap.get? f = some (PySem.W.kdv_obj "<lambda>" (X.env.qual ++ "<lambda>") params (.expr body) scope (cloFrom X.env.cells scope.names []) (.ref t0) doc pm c' ctv) → Hm f = none → f ∉ frs X.stack →
      sm.heap.get? t0 = some (PySem.W.kdv_tup [.int n tk]) → Hm t0 = none → t0 ∉ frs X.stack → Hm c' = some (CodeO c' (X.env.qual ++ "<lambda>")) → Q (.ref f) sm) :
    wpAny (model X.prog X.w) X.A (eval (.Lambda params body scope pos) X.env) Q X.xe s := by
  refine PySem.W.kdv_lam (by rw [hdef]; rfl) hkw ?_
  rw [hdef]
  refine PySem.W.kdv_all1 (thn (he1.run pins s σ H (fun v H1 => v = .int n ∧ H1 = H) I ⟨rfl, rfl⟩) fun u sa ⟨v, H1, Ia, ra, ev, eH⟩ => PySem.W.kdv_all0 ?_)
  subst ev
  subst eH
  obtain ⟨tk, rfl⟩ : ∃ t, u = Value.int n t := ra
  rw [makeFunction_eq]
  simp only [List.zip_nil_right, List.filterMap_nil, List.isEmpty_nil, List.isEmpty_cons, if_true, pure_bind, Bool.false_eq_true, if_false]
  refine wpAny_bind (wpAny_newTextTuple ?_)
  obtain ⟨ps, hP, ht, ha⟩ := hT _ hm
  have nofr : ∀ {sx : Shared}, Inv X pins σ H1 sx → ∀ f, sx.heap.objs.size ≤ f → f ∉ frs X.stack := fun {sx} Ix f hf z => by
    rcases List.mem_cons.mp (Ix.stkSub _ z) with e | e
    · have hlt := Ix.lt
      rw [← e] at hlt
      exact Nat.lt_irrefl _ (Nat.lt_of_lt_of_le hlt hf)
    · exact Ix.nofs hf e
  have nT := nofr Ia _ (Nat.le_refl _)
  have hTn : H1 sa.heap.objs.size = none := Ia.hok.fresh (Nat.le_refl _)
  let hpT := sa.heap.push (PySem.W.kdv_tup [.int n tk])
  have getT : hpT.get? sa.heap.objs.size = some (PySem.W.kdv_tup [.int n tk]) := Heap.get?_push_size _ rfl
  have Ib : Inv X pins σ H1 { sa with heap := hpT } := Ia.kept (t' := sa.toks) fun b o e => Heap.get?_push_of_some _ e
  have szT : sa.heap.objs.size < hpT.objs.size := Heap.lt_size getT
  have bP : hpT.BuiltinsAt X.mg P := TB.bm.keeps Ib.bk
  have hPb : hpT.get? P = some { cls := .none, data := .fields ps } := Ib.hok P _ hP
  cases hc : codeAmong pos ps.toList with
  | none =>
    refine PySem.W.kdv_makeTail (mg := X.mg) (c := c) (P := P) (ps := ps) (s := { sa with heap := hpT }) (closure_ok hfree) Ib.ok.glob (Ib.mod.glob.keeps Ib.bk) hcode (TB.code.keeps Ib.bk) hPb ht hc TB.gP bP fun c' ctv doc hx tq ext hge hlt hrec htb => ?_
    obtain ⟨cz, oc, vs, t, ez, hoc, hd, hv⟩ := hrec
    cases ez
    have hsz : hpT.objs.size ≤ hx.objs.size := Nat.le_trans hge (Nat.le_of_lt hlt)
    have nC : H1 c' = none := Ib.hok.fresh hge
    have Ic := inv_table (t' := tq) (more := #[rawInt pos.line, rawInt pos.col, .ref c']) (h' := hx.push (PySem.W.kdv_obj "<lambda>" (X.env.qual ++ "<lambda>") params (.expr body) scope (cloFrom X.env.cells scope.names []) (.ref sa.heap.objs.size) doc ((X.mg "__name__").getD .none) c' ctv)) Ib hP
      (fun b o hb e => Heap.get?_push_of_some _ (ext b o hb e)) (Heap.get?_push_of_some _ htb) hge ⟨oc, vs, t, Heap.get?_push_of_some _ hoc, hd, hv⟩
    have hE : ExtN H1 (upd (upd H1 P (.tbl (ps ++ #[rawInt pos.line, rawInt pos.col, .ref c']))) c' (CodeO c' (X.env.qual ++ "<lambda>"))) := fun b o e q => by
      rw [upd_ne (ne_of_none e nC), upd_ne (fun z => q ps (Option.some.inj (e.symm.trans (by rw [z]; exact hP))))]
      exact e
    have eL : (ps ++ #[rawInt pos.line, rawInt pos.col, .ref c']).toList = ps.toList ++ [rawInt pos.line, rawInt pos.col, .ref c'] := by simp
    have nPT : P ≠ sa.heap.objs.size := ne_of_none hP hTn
    refine h hx.objs.size c' sa.heap.objs.size tk doc ((X.mg "__name__").getD .none) ctv _ _ Ic hE (fun p hp => ?_) (Heap.get?_push_size _ rfl) ?_ (nofr Ib _ hsz) (Heap.get?_push_of_some _ (ext _ _ (Ne.symm nPT) getT)) ?_ nT upd_same
    · by_cases hb : p.1 = P
      · rw [hu p hp hb, hb]
        refine ⟨_, by rw [upd_ne (ne_of_none hP nC), upd_same], by rw [eL]; exact PySem.TriplesOk_snoc _ _ _ _ ht, fun pq cv hcv => ?_⟩
        rw [eL] at hcv
        rcases among_app _ ht hcv with z | z
        · obtain ⟨cq, e1, e2⟩ := ha pq cv z
          exact ⟨cq, e1, hE _ _ e2 codeO_ne⟩
        · exact ⟨c', z, upd_same⟩
      · obtain ⟨qs, a1, a2, a3⟩ := hT p hp
        refine ⟨qs, by rw [upd_ne (ne_of_none a1 nC), upd_ne hb]; exact a1, a2, fun pq cv hcv => ?_⟩
        obtain ⟨cq, e1, e2⟩ := a3 pq cv hcv
        exact ⟨cq, e1, hE _ _ e2 codeO_ne⟩
    · have n1 : hx.objs.size ≠ c' := Nat.ne_of_gt hlt
      have n2 : hx.objs.size ≠ P := Nat.ne_of_gt (Nat.lt_of_lt_of_le (Heap.lt_size hPb) hsz)
      rw [upd_ne n1, upd_ne n2]
      exact Ib.hok.fresh hsz
    · have n1 : sa.heap.objs.size ≠ c' := Nat.ne_of_lt (Nat.lt_of_lt_of_le szT hge)
      rw [upd_ne n1, upd_ne (Ne.symm nPT)]
      exact hTn
  | some cv =>
    obtain ⟨c', e, hco⟩ := ha pos cv hc
    subst e
    refine PySem.W.kdv_makeTailHit (mg := X.mg) (c := c) (P := P) (ps := ps) (s := { sa with heap := hpT }) (closure_ok hfree) Ib.ok.glob (Ib.mod.glob.keeps Ib.bk) hcode (TB.code.keeps Ib.bk) hPb ht hc bP fun ctv doc hx tq kp hsz => ?_
    have Ic : Inv X pins σ H1 { sa with heap := hx.push (PySem.W.kdv_obj "<lambda>" (X.env.qual ++ "<lambda>") params (.expr body) scope (cloFrom X.env.cells scope.names []) (.ref sa.heap.objs.size) doc ((X.mg "__name__").getD .none) c' ctv), toks := tq } := Ib.kept fun b o e => Heap.get?_push_of_some _ (kp b o e)
    exact h hx.objs.size c' sa.heap.objs.size tk doc ((X.mg "__name__").getD .none) ctv H1 _ Ic (ExtN.refl H1) hT (Heap.get?_push_size _ rfl) (Ib.hok.fresh hsz) (nofr Ib _ hsz) (Heap.get?_push_of_some _ (kp _ _ getT)) hTn nT hco
/-- what binding it without arguments comes to -/
def BindD (params : Arguments) (body : Expr) (scope : Scope) (x : Str) (n : Int) : Prop := ∀ (q : Str) (cl : List (Str × Addr)) (t0 : Addr) (doc pm cv ctv : Value) (tk : Tok), ∃ k : Option (Array Value) → Sem (List (Str × Value)),
  bindArgs (PySem.W.kdv_fn "<lambda>" q params (.expr body) scope cl (.ref t0) doc pm cv ctv) ⟨[], []⟩ = seqItems? (.ref t0) >>= k ∧ k (some [Value.int n tk].toArray) = pure [(x, .int n tk)]
theorem pe_actD {CXg : CXT} {Eg : XK} {Ng : List Str} {qg : Str} {sg : Scope} {g f c' t0 : Addr} {cdg doc pm ctv : Value} {params : Arguments} {body : Expr} {scope : Scope} {k i j : Nat} {n : Int} {a x : Str} {tk0 : Tok} {pn : List (Addr × Obj)} {xe : Value → Shared → Prop} {W : WX} {E : XK} {tb : TE} {p1 p2 : Pos}
    (I : Inv X pins σ H s) (L : Lam1 X.env.scope scope x) (hj : X.N[j]? = some x) (nd : X.N.Nodup) (hf : s.heap.get? f = some (PySem.W.kdv_obj "<lambda>" (X.env.qual ++ "<lambda>") params (.expr body) scope (cloFrom X.env.cells scope.names []) (.ref t0) doc pm c' ctv)) (hfn : H f = none) (hfr : f ∉ frs X.stack)
    (ht0 : s.heap.get? t0 = some (PySem.W.kdv_tup [.int n tk0])) (htn : H t0 = none) (htr : t0 ∉ frs X.stack)
    (hbind : BindD params body scope x n)
    (tk : Takes ((cxOf CXg X.prog X.w X.K X.mg X.base Ng qg sg g cdg X.A X.stack s H Eg).tr pn xe) W) (hW : ∀ cls d σ' H', E cls d H' → W cls d σ' H') (hr : Room (k + 1) (X.A.deeper (envOfC qg sg s.heap.objs.size g cdg)))
    (hbody : ∀ (A : Around) (outer : List Env) (s : Shared) (H : Hp), Room k (A.deeper (lamEnv X scope s.heap.objs.size f c')) → PE (lamCx X A outer s H E scope f c') body tb)
    (hN : Ng[i]? = some a) (hv : Vis sg a) (hd : (a == ("__debug__" : Str)) = false) (hcd : (a == ("__classdict__" : Str)) = false) :
    PE ((cxOf CXg X.prog X.w X.K X.mg X.base Ng qg sg g cdg X.A X.stack s H Eg).tr pn xe) (.Call (.Name a p1) [] [] p2)
      (fun σZ HZ Q => σZ[i]? = some (some (.ref f)) ∧ HZ c' = some (CodeO c' (X.env.qual ++ "<lambda>")) ∧ tb (σ.set j (some (.int n))) HZ Q) := by
  refine ⟨fun pz sZ gZ HZ Q IZ hq => ?_⟩
  obtain ⟨hs, hc, ht⟩ := hq
  refine wpAny_Call_Name_kw (thn ((pe_var (pos := p1) (i := i) hN hv hd hcd).run pz sZ gZ HZ (fun v H1 => v = .ref f ∧ H1 = HZ) IZ ⟨.ref f, hs, rfl, rfl⟩) fun u s1 ⟨v, H1, I1, r1, q1⟩ => ?_)
  obtain ⟨ev, eH⟩ := q1
  subst ev
  rw [eH] at I1
  obtain rfl : u = Value.ref f := r1
  have nex : ∀ {b : Addr}, b ∉ ([] : List Addr) := fun {b} z => nomatch z
  have off := I1.base.keep f _ hf hfn hfr nex
  have off : s1.heap.get? f = some (PySem.W.kdv_obj "<lambda>" (X.env.qual ++ "<lambda>") params (.expr body) scope (cloFrom X.env.cells scope.names []) (.ref t0) doc pm c' ctv) := off
  have oft : s1.heap.get? t0 = some (PySem.W.kdv_tup [.int n tk0]) := I1.base.keep t0 _ ht0 htn htr nex
  refine PySem.W.callWith_F0 ⟨_, _, _, _, off⟩ ?_
  have un : Un (frs X.stack) [] H HZ s.heap s1.heap := I1.base
  obtain ⟨⟨oc, vs, t, hoc, hdc, hvc⟩, _, _⟩ := I1.hok c' _ hc
  have rc : codeAny (model X.prog X.w) (X.A.deeper (envOfC qg sg s.heap.objs.size g cdg)) (.call (.ref f) ⟨[], []⟩) (CR (L2.CX X.prog X.w) (envOfC qg sg s.heap.objs.size g cdg :: X.stack) X.prog X.w HZ s1 Q E) s1 := by
    refine PySem.W.kla_callFunE hr.depth off rfl L.co L.gen rfl ⟨c', oc, vs, t, rfl, hoc, hdc, hvc⟩ ?_
    obtain ⟨kf, hb1, hb2⟩ := hbind (X.env.qual ++ "<lambda>") (cloFrom X.env.cells scope.names []) t0 doc pm (.ref c') ctv tk0
    refine BindsTo.of_defaults rfl oft rfl hb1 hb2 _ _ _ _ ?_
    refine wpAny_newFunctionEnv (fun y hy => L.cell y hy) (fun y hy => ?_) (fun h₁ hns hsb => ⟨I1.nolimit.fresh _ hsb, ?_⟩) L.kind
    · obtain rfl : y = (x, Value.int n tk0) := by simpa using hy
      exact L.par
    show codeAny _ _ (.expr body (lamEnv X scope s1.heap.objs.size f c')) _ _
    have kp : ∀ b o, s1.heap.get? b = some o → h₁.get? b = some o := fun b o e => hsb.extBut b o (Nat.ne_of_lt (Heap.lt_size e)) (Heap.get?_push_of_some _ e)
    have J := lamD_start (E := E) (f := f) (c' := c') (tk := s1.toks + ([(x, Value.int n tk0)] : List (Str × Value)).length) (v := .int n) I L I1.env0 hr.hd un hj nd ⟨tk0, rfl⟩ hns kp
    refine PySem.W.kla_codeExpr (wpAny_mono ((hbody _ _ s1 HZ (hr.deeper _)).run [] _ _ HZ Q J ht) (fun v s' hq => ?_) fun e s' hq => hq)
    obtain ⟨wv, Hv, Jv, rv, q⟩ := hq
    exact ⟨wv, Hv, Jv.os, Jv.bare, Jv.base, Jv.hok, rv, q⟩
  have hx : Passes (L2.CX X.prog X.w) ((cxOf CXg X.prog X.w X.K X.mg X.base Ng qg sg g cdg X.A X.stack s H Eg).tr pn xe) E := passes_call tk hW
  refine wpAny_call (codeAny_mono rc fun r s' hq => ?_)
  cases r with
  | error e => exact hx pz gZ HZ s1 e s' I1 hq
  | ok fl =>
    cases fl with
    | ret u => exact I1.after hq
    | next => exact False.elim hq
    | brk => exact False.elim hq
    | cont => exact False.elim hq
def tLamD (T : List (Addr × Str)) (TT : (XK → Hp → VK → Prop) → Hp → VK → Prop) (j : Nat) (n : Int) (t : XK → TE) : TE := fun σ H Q => Tabs T H ∧ ∀ H1, ExtN H H1 → Tabs T H1 → TT (fun E H' Q' => t E (σ.set j (some (.int n))) H' Q') H1 Q
/-- x(lambda p=n: body) -/
theorem pe_lamcallD {T : List (Addr × Str)} {TT : (XK → Hp → VK → Prop) → Hp → VK → Prop} {x a y : Str} {g c P : Addr} {k j : Nat} {n : Int} {pg : Arguments} {bg : List Stmt} {sg : Scope} {dV kV doc pm cdv ct oc : Value} {an od : Option Addr} {osl : Array (Option Value)} {Ng : List Str}
    {params : Arguments} {body e1 : Expr} {scope : Scope} {t : XK → TE} {p lpos pos : Pos} (hg : Gl X x) (hm : X.mg x = some (.ref g)) (hk : PySem.W.keepIn X.K (.ref g) = true)
    (lk : X.K.lookup g = some ⟨oc, od, .func (PySem.W.fnOf x x pg bg sg dV kV doc pm an cdv ct), osl⟩) (hcg : PySem.W.codeIn X.K cdv x = true) (hb : L2.Binds X.K (PySem.W.fnOf x x pg bg sg dV kV doc pm an cdv ct) [a] []) (Sg : FnScope Ng [a] sg) (hNg : Ng[0]? = some a) (hva : Vis sg a)
    (hG : GivesTo X Ng x sg g cdv bg a (X.env.qual ++ "<lambda>") TT)
    (TB : TabB X.base X.mg c P) (hcode : X.env.code = .ref c) (hmT : (P, X.env.qual ++ "<lambda>") ∈ T) (hu : ∀ p ∈ T, p.1 = P → p.2 = X.env.qual ++ "<lambda>") (hr : Room (k + 2) X.A) (L : Lam1 X.env.scope scope y) (hj : X.N[j]? = some y) (nd : X.N.Nodup) (hdef : params.defaults = [e1]) (hkw : params.kw_defaults = []) (he1 : PE X e1 (tC (.int n)))
    (hbind : BindD params body scope y n)
    (hbody : ∀ (A : Around) (outer : List Env) (s : Shared) (H : Hp) (E : XK) (f c' : Addr), Room k (A.deeper (lamEnv X scope s.heap.objs.size f c')) → PE (lamCx X A outer s H E scope f c') body (t E))
    (hdb : (x == ("__debug__" : Str)) = false := by decide) (hd : (a == ("__debug__" : Str)) = false := by decide) (hcd : (a == ("__classdict__" : Str)) = false := by decide) :
    PE X (.Call (.Name x p) [.Lambda params body scope lpos] [] pos) (tLamD T TT j n t) := by
  refine ⟨fun pz s0 gz Hz Q I0 hq => ?_⟩
  obtain ⟨hT, hq⟩ := hq
  refine wpAny_Call_Name_kw (ld_glob I0 hg hm ?_ hdb)
  refine PySem.W.callWith_K (h₀ := X.base) I0.ok.mod.kin hk ?_ (by rfl) (by rfl)
  show wpAny _ _ (spliced ((false, eval (.Lambda params body scope lpos) X.env) :: backTo pos (starEach [] X.env))) _ _ s0
  refine Calls.spliced_cons (lamD_make I0 TB hcode hmT hu hT hdef hkw he1 (L.has I0.ok) fun f c' t0 tk doc' pm' ctv H1 sm I1 eN T1 hf hfn hfr ht htn htr hco => ?_)
  refine Calls.spliced_nil ⟨I1.kIn, ?_⟩
  have rc : codeAny (model X.prog X.w) X.A (.call (.ref g) ⟨[.ref f], []⟩) (CR C8.CX0 X.stack X.prog X.w H1 sm Q C8.E0) sm := by
    refine run_ofS (N := Ng) (ps := [a]) (us := [.ref f]) (vs := [.ref f]) lk hcg Sg hr I1.env0 (hb sm [.ref f] I1.kIn rfl) (.cons rfl .nil) rfl fun hr' => ?_
    obtain ⟨tz, htz, hqz⟩ := hG f c' sm H1 Q (fun E H' Q' => t E (gz.set j (some (.int n))) H' Q') (fun W pn xe E p1 p2 tk hW => pe_actD (i := 0) I1 L hj nd hf hfn hfr ht htn htr hbind tk hW hr' (fun A outer s H hr2 => hbody A outer s H E f c' hr2) hNg hva hd hcd) hco (hq H1 eN T1)
    exact ⟨tz, htz.nox, hqz⟩
  refine wpAny_call (codeAny_mono rc fun r sx hqx => ?_)
  cases r with
  | error e => exact (show False from hqx).elim
  | ok fl =>
    cases fl with
    | ret u => exact I1.after hqx
    | next => exact False.elim hqx
    | brk => exact False.elim hqx
    | cont => exact False.elim hqx
end
end Mf
set_option maxRecDepth 100000
set_option maxHeartbeats 4000000
/-! The law's error teller. -/
namespace Mf
open PySem L2 PyProof.Rows LamX
variable [Tt] [Xw]
local macro_rules
  | `(tactic| walk_at "rd") => `(tactic| first
    | exact rd_addI | refine rd_addL ?_ | refine rd_addS ?_ | exact rd_sub | refine rd_mulI ?_ | refine rd_mulL ?_ ?_ ?_ | refine rd_mulS ?_ ?_ ?_ | refine rd_div ?_ | refine rd_mod ?_ | refine rd_pow ?_ | exact ud_neg
    | exact rd_ltI | exact rd_leI | exact rd_gtI | exact rd_geI | exact rd_ltS | exact rd_leS | exact rd_eqI | exact rd_neI
    | exact rd_ixT rfl | exact rd_ixL rfl | exact cd_lenL | exact cd_lenT | exact cd_int | exact cd_abs | exact cd_tupL | exact cd_listL | exact cd_listT | exact cd_all | exact cd_any | exact cd_sumT | exact bd_count)
local macro_rules
  | `(tactic| walk_at "ev1") => `(tactic| first
    | exact ev_int | exact ev_str | exact ev_bl | exact ev_non | exact ea_nil | refine ea_cons ?_ ?_ | exact ev_var rfl | exact ev_ty
    | refine ev_op ?_ ?_ ?_ | refine ev_un ?_ ?_ | refine ev_cb ?_ ?_ | refine ev_tup ?_ (by decide) | refine ev_bm ?_ ?_ ?_
    | exact et_yes | refine et_test ?_ | refine et_B ?_ | refine et_or ?_ (fun _ => ?_) | refine et_and ?_ (fun _ => ?_) | refine ev_andV ?_ (fun _ => ?_) | refine ev_orV ?_ (fun _ => ?_) | refine ev_notV ?_ | refine ev_chain ?_ ?_ ?_ (fun _ => ?_) (fun _ => ?_) | refine et_not ?_ | exact eo_none | refine eo_some ?_ | walk_at "rd")
local macro_rules
  | `(tactic| walk_at "ev") => `(tactic| repeat' walk_at "ev1")

abbrev sLawError : Stmt := topS 75
theorem scLawError : FnScope ["_law_call", "e"] ["_law_call"] (defScope sLawError) := ⟨rfl, rfl, rfl, by decide +kernel, rfl, by decide +kernel, by decide +kernel⟩
structure ErrAt (K : PySem.W.Frag) (mg : Str → Option Value) (CN CT CF : Addr) : Prop where
  mN : mg "NoRay" = some (.ref CN)
  mT : mg "TooMany" = some (.ref CT)
  mF : mg "FolkError" = some (.ref CF)
  nn : PySem.W.exmOne K (.ref CN) (.ref CN) = some true
  tn : PySem.W.exmOne K (.ref CT) (.ref CN) = some false
  tt : PySem.W.exmOne K (.ref CT) (.ref CT) = some true
  xf : XfC K CT
  fld : PySem.W.findIn K (.ref CT) "most" = some none
  ex : ExD K CT
  ve : PySem.W.kitOne K (.ref CT) (.type "ValueError") = some true
def eErr (CN CT : Addr) (Q : VK) : XK := fun kl dd Hh => (kl = .ref CN ∧ Q (.str "NoRay") Hh) ∨ (kl = .ref CT ∧ ∃ (p : Addr) (n : V), dd = some p ∧ Hh p = some (.xd [("most", n)]) ∧ ∀ q, Hh q = none → Q (.ref q) (upd Hh q (.tup [.str "TooMany", n])))
def TErr (CN CT : Addr) : (XK → Hp → VK → Prop) → Hp → VK → Prop := fun tl Hh Q => tl (eErr CN CT Q) Hh (fun _ H2 => Q (.str "") H2)
theorem err_gives {X : Cx} {g CN CT CF : Addr} {cdg : Value} {q : Str} (E0 : ErrAt X.K X.mg CN CT CF) (T : Bts X.mg) : GivesTo X ["_law_call", "e"] "_law_error" (defScope sLawError) g cdg (defBody sLawError) "_law_call" q (TErr CN CT) := by
  intro f c' s H Q tl act hc h
  refine ⟨_, pss_cons (ps_try_cls (X := (cxOf C8.CX0 X.prog X.w X.K X.mg X.base ["_law_call", "e"] "_law_error" (defScope sLawError) g cdg X.A X.stack s H C8.E0).nox)
      (tb := fun W D σ H => ∃ Ech : XK, (∀ cls d σ' H', Ech cls d H' → W cls d σ' H') ∧ σ[0]? = some (some (.ref f)) ∧ H c' = some (CodeO c' q) ∧ tl Ech H fun _ H' => D.nx σ H')
      rfl rfl LamX.takes0 (fun W pn xe tk _ => ?_) (.plain (c := .ref CN) ⟨by rfl, by decide, .inl E0.mN⟩ (fun a oe cls d pn _ _ => pss_one (ps_ret pe_str))
        (.named (i := 1) (n := "e") (c := .ref CT) ⟨by rfl, by decide, .inl E0.mT⟩ scLawError.nd rfl rfl (fun a oe cls d pn hz hf => pss_one (ps_ret (pe_ifExp (pt_val (pe_callB (call_isX E0.ex hz hf) (by rfl) T.isinstance (by decide +kernel) (pa_cons (pv 1) (pa_cons (pe_bltn (v := .ty "ValueError") (by rfl) T.ValueError (by decide +kernel) rfl) pa_nil))))
            (pe_tup (pa_cons pe_str (pa_cons (pe_xf E0.xf E0.fld hz hf (pv 1)) pa_nil))) pe_str)))
          (.plain (c := .ref CF) ⟨by rfl, by decide, .inl E0.mF⟩ (fun a oe cls d pn _ _ => pss_one (ps_ret pe_str)) .nil)))) (pss_one (ps_ret pe_str)), ?_⟩
  · refine ⟨fun pins s' σ H' D I h' => ?_⟩
    obtain ⟨Ech, hW, h1, h2, h3⟩ := h'
    exact (pss_one (ps_expr (act W pn xe Ech _ _ tk hW))).run pins s' σ H' D I ⟨h1, h2, h3⟩
  · refine ⟨eErr CN CT Q, fun kl dd g' H' he hl => ?_, rfl, hc, h⟩
    rcases he with ⟨rfl, he⟩ | ⟨rfl, p, n, rfl, hp, he⟩
    · exact ⟨true, E0.nn, fun _ a _ => he, fun z => absurd z (by decide)⟩
    · refine ⟨false, E0.tn, (fun z => absurd z (by decide)), fun _ => ⟨true, E0.tt, fun _ a ha => ?_, fun z => absurd z (by decide)⟩⟩
      have hl : g'.length = 2 := hl
      have h1 : (g'.set 1 (some (.ref a)))[1]? = some (some (.ref a)) := List.getElem?_set_self (by omega)
      refine ⟨.ref a, h1, rfl, ⟨p, _, rfl, hp⟩, "ValueError", true, rfl, E0.ve, true, rfl, ?_⟩
      exact ⟨.ref a, h1, rfl, rfl, p, _, n, rfl, hp, rfl, by show 2 ≤ sizeLine; decide, fun r hr => he r hr⟩
section
variable {CN CT : Addr} {t : XK → TE} {d : D}
theorem ev_err0 (h : ∀ E, Ev μ (t E) ρ d) : Ev μ (tLam Tt.T (TErr CN CT) t) ρ (.str "") := fun σ F M H rs rm w Q q => ⟨w.t, fun H1 eN T1 =>
  h _ σ F M H1 rs rm (w.lam eN T1) _ fun v F2 H2 e2 w2 r2 => q _ F2 H2 e2 w2 (.str "")⟩
theorem xw_nr {F M : Hp} {Q : VK} (q : ∀ v F2 H2, Same F F2 → Wd F2 M H2 → Rep F2 (.str "NoRay") v → Q v H2) : letI : Xw := ⟨eErr CN CT Q⟩; XWish ⟨CN, none⟩ F M := fun F2 H2 dd e2 w2 _ => Or.inl ⟨rfl, q _ F2 H2 e2 w2 (.str "NoRay")⟩
theorem xw_tm {F M : Hp} {Q : VK} {n : Int} (q : ∀ v F2 H2, Same F F2 → Wd F2 M H2 → Rep F2 (.tup [.str "TooMany", .int n]) v → Q v H2) : letI : Xw := ⟨eErr CN CT Q⟩; XWish ⟨CT, some ("most", n)⟩ F M := fun F2 H2 dd e2 w2 ha => by
  obtain ⟨a, rfl, ha⟩ := ha
  exact Or.inr ⟨rfl, a, .int n, rfl, ha, fun r hr => q _ _ _ (e2.trans (w2.newS hr)) (w2.new hr) (.tup upd_same (.cons (.str _) (.cons (.int n) .nil)))⟩
theorem ev_errN (h : ∀ E, letI : Xw := ⟨E⟩; EvR μ (t E) ρ ⟨CN, none⟩) : Ev μ (tLam Tt.T (TErr CN CT) t) ρ (.str "NoRay") := fun σ F M H rs rm w Q q => ⟨w.t, fun H1 eN T1 => h (eErr CN CT Q) σ F M H1 rs rm (w.lam eN T1) (xw_nr q) _⟩
theorem ev_errT {n : Int} (h : ∀ E, letI : Xw := ⟨E⟩; EvR μ (t E) ρ ⟨CT, some ("most", n)⟩) : Ev μ (tLam Tt.T (TErr CN CT) t) ρ (.tup [.str "TooMany", .int n]) := fun σ F M H rs rm w Q q => ⟨w.t, fun H1 eN T1 => h (eErr CN CT Q) σ F M H1 rs rm (w.lam eN T1) (xw_tm q) _⟩
theorem ev_errD {j : Nat} {n : Int} (h : ∀ E, letI : Xw := ⟨E⟩; EvR μ (t E) (ρ.set j (some (.int n))) ⟨CN, none⟩) : Ev μ (tLamD Tt.T (TErr CN CT) j n t) ρ (.str "NoRay") := fun σ F M H rs rm w Q q => ⟨w.t, fun H1 eN T1 => h (eErr CN CT Q) _ F M H1 (rs.set j (.int n)) rm (w.lam eN T1) (xw_nr q) _⟩
end
end Mf
set_option maxRecDepth 100000
set_option maxHeartbeats 4000000
/-! The law, plain: on the ray stand the ends, and the whole at once comes to the same end. -/
namespace Mf
open PySem L2 Sy
variable [Tt] [Xw]
theorem seq_of {S : Sys} (ok : S.Ok) {e0 step : Vec} (hst : ∀ i, 0 ≤ step i) (hz : ∀ i, S.n ≤ i → step i = 0) (h0 : S.Cr e0) (hr : S.Rest e0) :
    ∃ E : Nat → Vec, E 0 = e0 ∧ (∀ k, S.Cr (E k)) ∧ (∀ k, S.Rest (E k)) ∧ ∀ k, S.Rch (fun i => E k i + step i) (E (k + 1)) := by
  have crs : ∀ v : Vec, S.Cr v → S.Cr fun i => v i + step i := fun v hv => ⟨fun i => by have := hv.nn i; have := hst i; omega, fun i hi => by rw [hv.z i hi, hz i hi]; rfl⟩
  let nxt : {v : Vec // S.Cr v ∧ S.Rest v} → {v : Vec // S.Cr v ∧ S.Rest v} := fun v =>
    ⟨Classical.choose (exists_end ok (crs v.1 v.2.1)), (crs v.1 v.2.1).rch ok (Classical.choose_spec (exists_end ok (crs v.1 v.2.1))).1, (Classical.choose_spec (exists_end ok (crs v.1 v.2.1))).2⟩
  let F : Nat → {v : Vec // S.Cr v ∧ S.Rest v} := fun k => Nat.rec ⟨e0, h0, hr⟩ (fun _ v => nxt v) k
  exact ⟨fun k => (F k).1, rfl, fun k => (F k).2.1, fun k => (F k).2.2, fun k => (Classical.choose_spec (exists_end ok (crs (F k).1 (F k).2.1))).1⟩
section
variable {m : Str} {rs : List Rl} {c st : Cwd}
theorem fn_nn {d : Cwd} (h : ∀ x ∈ d, 0 ≤ x) (i : Nat) : 0 ≤ fn d i := by
  by_cases hi : i < d.length
  · exact h _ (fn_mem hi)
  · rw [fn_z (by omega)]
    exact Int.le_refl _
/-- the ends one by one, without an end -/
theorem RayH.seq (h : RayH m rs c st) (hone : partG m rs = none) : ∃ E : Nat → Vec, (∀ k, k ≤ 1000 → E k = fn (endsN m rs c st k)) ∧ (∀ k, (sysOf m rs).Cr (E k)) ∧ (∀ k, (sysOf m rs).Rest (E k)) ∧
    (∀ k, (sysOf m rs).Rch (fun i => E k i + fn st i) (E (k + 1))) ∧ (sysOf m rs).Rch (fn c) (E 0) := by
  have ok := sysOk h.d
  have sm := small_of h.d hone
  have hst : ∀ i, 0 ≤ fn st i := fn_nn h.s.nn
  have hz : ∀ i, (sysOf m rs).n ≤ i → fn st i = 0 := fun i hi => fn_z (by rw [h.s.len]; exact hi)
  obtain ⟨l0, a1, a2, a3, a4, a5⟩ := endT_ok h.d h.c (Int.le_trans h.c4 (by decide))
  obtain ⟨E, e1, e2, e3, e4⟩ := seq_of ok hst hz (cr_of (rs := rs) a2) a5
  refine ⟨E, fun k => ?_, e2, e3, e4, by rw [e1]; exact a4⟩
  induction k with
  | zero => exact fun _ => e1
  | succ k ih =>
    intro hk
    have hk0 := ih (by omega)
    obtain ⟨b1, b2, b3⟩ := h.in_ (k + 1) hk
    obtain ⟨l1, c1, c2, c3, c4, c5⟩ := endT_ok h.d b1 b3
    obtain ⟨_, _, d1, _⟩ := h.end_ (n := k) (by omega)
    have hin : fn (inN m rs c st (k + 1)) = fun i => E k i + fn st i := by
      funext i
      rw [hk0]
      show fn (pluz (endsN m rs c st k) st 1) i = _
      rw [fn_pluz (by rw [d1.len, h.s.len])]
      omega
    rw [endsN_eq]
    rw [hin] at c4
    refine one_end ok sm ?_ (e4 k) (e3 (k + 1)) c4 c5
    rw [← hin]
    exact cr_of b1
theorem onT_len (h : RayH m rs c st) {t : Nat × Nat × Cwd} (ht : rayT m rs (endsN m rs c st) = some t) (k : Nat) : (onT (endsN m rs c st) t k).length = m.length := by
  obtain ⟨last, q, q1, q2, q3, rfl, _⟩ := ray_some ht
  unfold onT
  split
  · rename_i hk
    have hk : k < last - q := hk
    obtain ⟨_, _, h1, _⟩ := h.end_ (n := k) (by omega)
    exact h1.len
  · have hm : (k - (last - q)) % q < q := Nat.mod_lt _ (by omega)
    show (pluz (endsN m rs c st (last - q + (k - (last - q)) % q)) (gainz (endsN m rs c st) last q) _).length = _
    obtain ⟨_, _, h1, _⟩ := h.end_ (n := last - q + (k - (last - q)) % q) (by omega)
    rw [pluz_len (by rw [h1.len, gainz_len h (by omega)]), h1.len]
theorem RayH.all (h : RayH m rs c st) (hone : partG m rs = none) {t : Nat × Nat × Cwd} (ht : rayT m rs (endsN m rs c st) = some t) {E : Nat → Vec} (h1 : ∀ k, k ≤ 1000 → E k = fn (endsN m rs c st k)) (h2 : ∀ k, (sysOf m rs).Cr (E k)) (h3 : ∀ k, (sysOf m rs).Rest (E k))
    (h4 : ∀ k, (sysOf m rs).Rch (fun i => E k i + fn st i) (E (k + 1))) (k : Nat) : E k = fn (onT (endsN m rs c st) t k) := by
  have ok := sysOk h.d
  have sm := small_of h.d hone
  obtain ⟨last, q, q1, q2, q3, rfl, hok⟩ := ray_some ht
  unfold rayOk at hok
  rw [Bool.and_eq_true] at hok
  obtain ⟨o1, o2⟩ := hok
  have gl : (gainz (endsN m rs c st) last q).length = m.length := gainz_len h (by omega)
  have gnn : ∀ i, 0 ≤ fn (gainz (endsN m rs c st) last q) i := fn_nn fun x hx => of_decide_eq_true (List.all_eq_true.mp o1 x hx)
  have len : ∀ {n : Nat}, n ≤ 1000 → (endsN m rs c st n).length = m.length := fun {n} hn => by
    obtain ⟨_, _, h1, _⟩ := h.end_ hn
    exact h1.len
  have ends := ray_ends ok sm (e := E) (step := fn st) (p := last - q) (q := q) (g := fn (gainz (endsN m rs c st) last q)) h2 (fn_nn h.s.nn) (fun i hi => fn_z (by rw [h.s.len]; exact hi)) h4 h3 (by omega) gnn (fun i => ?_) (fun j hj => ?_)
  · unfold onT
    split
    · rename_i hk
      have hk : k < last - q := hk
      exact h1 k (by omega)
    · rename_i hk
      have hk : ¬ k < last - q := hk
      show E k = fn (pluz (endsN m rs c st (last - q + (k - (last - q)) % q)) (gainz (endsN m rs c st) last q) (((k - (last - q)) / q : Nat) : Int))
      have hm : (k - (last - q)) % q < q := Nat.mod_lt _ (by omega)
      have he := ends ((k - (last - q)) / q) ((k - (last - q)) % q) hm
      have hk2 : last - q + (k - (last - q)) % q + (k - (last - q)) / q * q = k := by
        have := Nat.mod_add_div (k - (last - q)) q
        have e := Nat.mul_comm q ((k - (last - q)) / q)
        omega
      rw [hk2] at he
      rw [he]
      funext i
      rw [fn_pluz (by rw [len (by omega), gl]), h1 _ (by omega)]
  · have e : last - q + q = last := by omega
    rw [e, h1 last (by omega), h1 (last - q) (by omega)]
    exact fn_zip (f := fun x y => x - y) (by rw [len (by omega), len (by omega)]) rfl i
  · rw [h1 _ (by omega)]
    refine (stayz_iff (fun d hd => ?_) gl).mp o2 _ ?_
    · obtain ⟨n, hn, rfl⟩ := List.mem_map.mp hd
      rw [List.mem_range'_1] at hn
      exact len (by omega)
    · refine List.mem_map.mpr ⟨last - q + j, ?_, rfl⟩
      rw [List.mem_range'_1]
      omega
/-- on the ray stand the ends -/
theorem onT_eq (h : RayH m rs c st) (hone : partG m rs = none) {t : Nat × Nat × Cwd} (ht : rayT m rs (endsN m rs c st) = some t) {k : Nat} (hk : k ≤ 1000) : onT (endsN m rs c st) t k = endsN m rs c st k := by
  obtain ⟨E, h1, h2, h3, h4, _⟩ := h.seq hone
  have e1 := h.all hone ht h1 h2 h3 h4 k
  rw [h1 k hk] at e1
  obtain ⟨_, _, b, _⟩ := h.end_ hk
  exact fn_ext (by rw [onT_len h ht, b.len]) fun i => by rw [← e1]
/-- the whole at once -/
theorem whole_eq (h : RayH m rs c st) (hone : partG m rs = none) {t : Nat × Nat × Cwd} (ht : rayT m rs (endsN m rs c st) = some t) {n : Nat} {l : List (Rl × Int)} {d : Cwd} (hl : leapsOf m rs (pluz c st (n : Nat)) = some (l, d)) : d = onT (endsN m rs c st) t n := by
  obtain ⟨E, h1, h2, h3, h4, h5⟩ := h.seq hone
  have e1 := h.all hone ht h1 h2 h3 h4 n
  have hw : OkC m (pluz c st (n : Nat)) := pluz_ok h.c h.s (by omega)
  obtain ⟨a1, a2, a3, a4⟩ := leapsOf_spec h.d hw hl
  have hfn : fn (pluz c st (n : Nat)) = fun i => fn c i + (n : Nat) * fn st i := by
    funext i
    rw [fn_pluz (by rw [h.c.len, h.s.len])]
  have a2' := a2
  rw [hfn] at a2'
  have w := whole_end (sysOk h.d) (small_of h.d hone) (e := E) h2 (cr_of (rs := rs) h.c) (fn_nn h.s.nn) (fun i hi => fn_z (by rw [h.s.len]; exact hi)) h5 h4 n
  have e2 : fn d = E n := one_end (sysOk h.d) (small_of h.d hone) (by rw [← hfn]; exact cr_of hw) a2' a3 w (h3 n)
  exact fn_ext (by rw [onT_len h ht, a1.len]) fun i => by rw [e2, e1]
end
end Mf
set_option maxRecDepth 100000
set_option maxHeartbeats 4000000
/-! The law's row is made: what is known of it from then on. -/
namespace Mf
open PySem PySem.Spec PyProof.Rows L2
variable [Tt] [Xw]
def ScrAt (K : PySem.W.Frag) (a : Addr) (F : Hp) : Prop := ∃ ns : List Int, SqL K F a (ns.map V.int)
abbrev scrA (K : PySem.W.Frag) (a : Addr) : D := .own a (ScrAt K a)
theorem sq_mono {K : PySem.W.Frag} {F F' : Hp} {a : Addr} {xs : List V} (h : SqL K F a xs) (e : Same F F') : SqL K F' a xs := by
  rcases h with (h | ⟨o, h⟩) | h
  · exact .inl (.inl (e _ _ h))
  · exact .inl (.inr ⟨o, e _ _ h⟩)
  · exact .inr h
def tRow (ta : TA) : TE := fun σ H Q => ta σ H fun xs H1 => ∃ (sc : Addr) (i z c : Int), xs = [V.ref sc, .int i, .int z, .int c] ∧ RowOk i z ∧ ∀ p, H1 p = none → Q (.ref p) (upd H1 p (rowO p sc))
theorem pe_row {X : Cx} {es : List Expr} {pos : Pos} {ta : TA} (h : PA X es ta) : PE X (.List es pos) (tRow ta) := by
  refine ⟨fun pz s0 gz Hz Q I hq => ?_⟩
  refine wpAny_List_spliced (thn (h.run pos pz s0 gz Hz _ I hq) fun us s1 ⟨xs, H1, I1, r, sc, i, z, c, ex, ok, q⟩ => ?_)
  subst ex
  cases r with
  | cons a1 r =>
  cases r with
  | cons a2 r =>
  cases r with
  | cons a3 r =>
  cases r with
  | cons a4 r =>
  cases r
  obtain rfl := a1
  obtain ⟨t1, rfl⟩ := a2
  obtain ⟨t2, rfl⟩ := a3
  obtain ⟨t3, rfl⟩ := a4
  refine ⟨by rw [sizeLine_eq]; show 4 ≤ _; omega, ?_⟩
  have hf : H1 s1.heap.objs.size = none := I1.hok.fresh (Nat.le_refl _)
  refine ⟨.ref s1.heap.objs.size, upd H1 s1.heap.objs.size (rowO s1.heap.objs.size sc), I1.laid (t' := s1.toks) (fun b u e => Heap.get?_push_of_some _ e) (Nat.le_refl _) ?_, rfl, q _ hf⟩
  exact ⟨⟨i, z, c, t1, t2, t3, 0, Heap.get?_push_size _ rfl, ok⟩, ⟨_, Heap.get?_push_size _ rfl⟩, fun h1 h2 ⟨i, z, c, t1, t2, t3, n, hg, ok⟩ st => ⟨i, z, c, t1, t2, t3, n, st _ hg, ok⟩⟩
theorem en_row {K : PySem.W.Frag} {ta : TA} {a : Addr} {i z c : Int} (h : EvA μ ta ρ [scrA K a, .int i, .int z, .int c]) (ok : RowOk i z) : EvN μ (tRow ta) ρ fun d => ∃ p, d = rowD K p := fun σ F M H rs rm w Q k =>
  h σ F M H rs rm w _ fun vs F1 H1 e1 w1 r1 => by
    cases r1 with
    | cons r1 r =>
    cases r with
    | cons r2 r =>
    cases r with
    | cons r3 r =>
    cases r with
    | cons r4 r =>
    cases r
    cases r2
    cases r3
    cases r4
    cases r1 with
    | own hR =>
    refine ⟨a, i, z, c, rfl, ok, fun p hp => ?_⟩
    refine k _ (rowD K p) _ _ ⟨p, rfl⟩ (e1.trans (w1.newS hp)) (w1.new hp) (.own fun F' e' => ?_)
    obtain ⟨ns, hsq⟩ := hR F' ((w1.newS hp).trans e')
    exact ⟨a, ns, e' _ _ upd_same, hsq⟩
end Mf
set_option maxRecDepth 100000
set_option maxHeartbeats 8000000
/-! The law itself. -/
namespace Mf
open PySem L2 PyProof.Rows LamX
variable [Tt] [Xw]
local macro_rules
  | `(tactic| walk_at "rd") => `(tactic| first
    | exact rd_addI | refine rd_addL ?_ | refine rd_addS ?_ | exact rd_sub | refine rd_mulI ?_ | refine rd_mulL ?_ ?_ ?_ | refine rd_mulS ?_ ?_ ?_ | refine rd_div ?_ | refine rd_mod ?_ | refine rd_pow ?_ | exact ud_neg
    | exact rd_ltI | exact rd_leI | exact rd_gtI | exact rd_geI | exact rd_ltS | exact rd_leS | exact rd_eqI | exact rd_neI
    | exact rd_ixT rfl | exact rd_ixL rfl | exact cd_lenL | exact cd_lenT | exact cd_int | exact cd_abs | exact cd_tupL | exact cd_listL | exact cd_listT | exact cd_all | exact cd_any | exact cd_sumT | exact bd_count)
local macro_rules
  | `(tactic| walk_at "ev1") => `(tactic| first
    | exact ev_int | exact ev_str | exact ev_bl | exact ev_non | exact ea_nil | refine ea_cons ?_ ?_ | exact ev_var rfl | exact ev_ty
    | refine ev_op ?_ ?_ ?_ | refine ev_un ?_ ?_ | refine ev_cb ?_ ?_ | refine ev_tup ?_ (by decide) | refine ev_bm ?_ ?_ ?_
    | exact et_yes | refine et_test ?_ | refine et_B ?_ | refine et_or ?_ (fun _ => ?_) | refine et_and ?_ (fun _ => ?_) | refine ev_andV ?_ (fun _ => ?_) | refine ev_orV ?_ (fun _ => ?_) | refine ev_notV ?_ | refine ev_chain ?_ ?_ ?_ (fun _ => ?_) (fun _ => ?_) | refine et_not ?_ | exact eo_none | refine eo_some ?_ | walk_at "rd")
local macro_rules
  | `(tactic| walk_at "ev") => `(tactic| repeat' walk_at "ev1")

abbrev sLaw : Stmt := topS 77
theorem scLaw : FnScope ["_law_script", "_law_row", "_law_folk", "_law_crowd_here", "_law_step", "_law_found", "_law_turn", "_law_due", "_law_last", "_law_size", "_law_gains", "_law_p", "_law_q", "_law_many", "_law_rounds", "_law_far", "_law_whole", "_law_one", "_law_two_here", "_law_a", "_law_k", "_law_gain"] ["_law_script"] (defScope sLaw) := ⟨rfl, rfl, rfl, by decide +kernel, rfl, by decide +kernel, by decide +kernel⟩
def trD : Option (Nat × Nat × Cwd) → D
  | none => .non
  | some t => tripD t
def rayFn (m : Str) (rs : List Rl) (e : Nat → Cwd) (last b : Nat) : Option (Nat × Nat × Cwd) := if rayOk m rs e last (b + 1) = true then some (last - (b + 1), b + 1, gainz e last (b + 1)) else none
def dueA (m : Str) (rs : List Rl) (e : Nat → Cwd) (a : Nat) : Option (Nat × Nat × Cwd) := (List.range a).findSome? fun a => rayAt m rs e (a + 1)
def dueB (m : Str) (rs : List Rl) (e : Nat → Cwd) (a b : Nat) : Option (Nat × Nat × Cwd) := (dueA m rs e a).or ((List.range b).findSome? (rayFn m rs e (a + 1)))
theorem find_succ {α : Type} (f : Nat → Option α) (n : Nat) : (List.range (n + 1)).findSome? f = ((List.range n).findSome? f).or (f n) := by
  rw [List.range_succ, List.findSome?_append]
  congr 1
  show List.findSome? f [n] = f n
  rw [List.findSome?_cons]
  cases f n <;> rfl
theorem dueA_succ (m : Str) (rs : List Rl) (e : Nat → Cwd) (a : Nat) : dueA m rs e (a + 1) = dueB m rs e a (a + 1) := find_succ _ a
theorem dueB_succ (m : Str) (rs : List Rl) (e : Nat → Cwd) (a b : Nat) : dueB m rs e a (b + 1) = (dueB m rs e a b).or (rayFn m rs e (a + 1) b) := by
  unfold dueB
  rw [find_succ, Option.or_assoc]
theorem dueB0 (m : Str) (rs : List Rl) (e : Nat → Cwd) (a : Nat) : dueB m rs e a 0 = dueA m rs e a := by
  unfold dueB
  exact Option.or_none
theorem ev_isN {t : Option (Nat × Nat × Cwd)} {i : Nat} {σ : DEnv} (h : σ[i]? = some (some (trD t))) : Ev μ (tOp rIsNU (tVar i) (tC .non)) σ (.bl t.isNone) := by
  cases t with
  | none => exact ev_op (ev_var h) ev_non rd_isN1
  | some t => exact ev_op (ev_var h) ev_non (rd_isN (by intro z; cases z))
theorem foundN_len (m : Str) (rs : List Rl) (c st : Cwd) (n : Nat) : (crowdsN m rs c st n).length = n := by rw [List.length_map, List.length_range]
theorem crowdsN_succ (m : Str) (rs : List Rl) (c st : Cwd) (n : Nat) : crowdsN m rs c st (n + 1) = crowdsN m rs c st n ++ [endsN m rs c st n] := by
  unfold crowdsN
  rw [List.range_succ, List.map_append]
  rfl
theorem al_crowd (ok : D → Prop) (c : Cwd) (h : c.length ≤ 1000) : alUp (alUp ok) (eCrowd c) := .inr ⟨_, .inl rfl, by rw [List.length_map]; exact h, fun y hy => by
  obtain ⟨i, _, rfl⟩ := List.mem_map.mp hy
  exact .inl ⟨i, rfl⟩⟩
theorem al_trip (ok : D → Prop) (t : Nat × Nat × Cwd) (h : t.2.2.length ≤ 1000) : alUp (alUp (alUp ok)) (tripD t) := .inr ⟨_, .inl rfl, by show 3 ≤ 1000; decide, fun y hy => by
  rcases List.mem_cons.mp hy with e | hy
  · exact .inl ⟨_, e⟩
  · rcases List.mem_cons.mp hy with e | hy
    · exact .inl ⟨_, e⟩
    · rw [List.mem_singleton.mp hy]
      exact al_crowd ok _ h⟩
theorem al_crowds (ok : D → Prop) (cs : List Cwd) (h : cs.length ≤ 1000) (hc : ∀ c ∈ cs, c.length ≤ 1000) : alUp (alUp (alUp ok)) (.lst (cs.map eCrowd)) := .inr ⟨_, .inr rfl, by rw [List.length_map]; exact h, fun y hy => by
  obtain ⟨c, hcm, rfl⟩ := List.mem_map.mp hy
  exact al_crowd ok c (hc c hcm)⟩
theorem al_up1 {ok : D → Prop} {c : Cwd} (h : c.length ≤ 1000) : alUp (alUp (alUp ok)) (eCrowd c) := .inr ⟨_, .inl rfl, by rw [List.length_map]; exact h, fun y hy => by
  obtain ⟨i, _, rfl⟩ := List.mem_map.mp hy
  exact .inl ⟨i, rfl⟩⟩
abbrev LR (K : PySem.W.Frag) (a r : Addr) (m : Str) (rs : List Rl) (c st : Cwd) (x5 x6 x7 x8 x9 x10 x11 x12 x13 x14 x15 x16 : Option D) : DEnv :=
  [some (scrA K a), some (rowD K r), some (eFolk m rs), some (eCrowd c), some (eCrowd st), x5, x6, x7, x8, x9, x10, x11, x12, x13, x14, x15, x16, none, none, none, none, none]
section
variable {P : Program} {w : World} {K : PySem.W.Frag} {mg : Str → Option Value} {base : Heap}
/-- a def's facts, told one by one -/
structure FnX (K : PySem.W.Frag) (x : Str) (st : Stmt) (f : Addr) (oc : Value) (od : Option Addr) (dV kV doc pm : Value) (an : Option Addr) (cd ct : Value) (osl : Array (Option Value)) : Prop where
  lk : K.lookup f = some ⟨oc, od, .func (PySem.W.fnOf x x (defArgs st) (defBody st) (defScope st) dV kV doc pm an cd ct), osl⟩
  cd_ : PySem.W.codeIn K cd x = true
  kp : PySem.W.keepIn K (.ref f) = true
def fLaw (K : PySem.W.Frag) (ds : List D) (d : D) : Prop := ∃ a, ds = [scrA K a] ∧ d = .bl true
theorem lawBody {CN CT CF c Pt gE : Addr} {ocE : Value} {odE : Option Addr} {dVE kVE docE pmE : Value} {anE : Option Addr} {cdE ctE : Value} {oslE : Array (Option Value)} (T : Bts mg) (EA : ErrAt K mg CN CT CF) (XE : FnX K "_law_error" sLawError gE ocE odE dVE kVE docE pmE anE cdE ctE oslE) (mE : mg "_law_error" = some (.ref gE))
    (bE : L2.Binds K (PySem.W.fnOf "_law_error" "_law_error" (defArgs sLawError) (defBody sLawError) (defScope sLawError) dVE kVE docE pmE anE cdE ctE) ["_law_call"] [])
    (hTB : LamX.TabB base mg c Pt) (hMem : (Pt, ("law.<locals>." : Str) ++ ("<lambda>" : Str)) ∈ Tt.T) (hU : ∀ p ∈ Tt.T, p.1 = Pt → p.2 = ("law.<locals>." : Str) ++ ("<lambda>" : Str))
    (DLawTaken : Def P w K mg base CX0 "_law_taken" 1 ["_law_row", "_law_many"] [] (spN (fTk K))) (DLawOneFolk : Def P w K mg base CX0 "_law_one_folk" 4 ["_law_row", "_law_most"] [] (spN (fOneFolk K)))
    (DAlwaysRests : Def P w K mg base CX0 "always_rests" 8 ["folk"] [] (spF fAlways)) (DIsOneEnded : Def P w K mg base CX0 "is_one_ended" 9 ["folk"] [] (spF fOneEnded))
    (DLawCrowd : Def P w K mg base CX0 "_law_crowd" 3 ["_law_row", "_law_folk", "_law_most"] [] (spN (fCrowd K))) (DEnd : Def P w K mg base (L2.CX P w) "end" 10 ["folk", "crowd"] [] (spX (fEnd CT)))
    (DLawStays : Def P w K mg base CX0 "_law_stays" 2 ["_law_folk", "_law_crowds", "_law_gains"] [] (spF fLStays)) (DRay : Def P w K mg base (L2.CX P w) "ray" 11 ["folk", "crowd", "step"] [] (spX (fRay CN)))
    (DOnRay : Def P w K mg base (L2.CX P w) "on_ray" 11 ["folk", "crowd", "step", "k"] [] (spX (fOnRay CN))) (DLawAlike : Def P w K mg base CX0 "_law_alike" 4 ["_law_found", "_law_due"] [] (spF (fAl (alUp (alUp (alUp fun _ => False))))))
    (A : Around) (outer : List Env) (s : Shared) (H : Hp) (E : XK) (f : Addr) (hr : Room 13 (A.deeper (envOfC "law" (defScope sLaw) s.heap.objs.size f (.ref c)))) :
    ∃ t, PSs (cxOf CX0 P w K mg base ["_law_script", "_law_row", "_law_folk", "_law_crowd_here", "_law_step", "_law_found", "_law_turn", "_law_due", "_law_last", "_law_size", "_law_gains", "_law_p", "_law_q", "_law_many", "_law_rounds", "_law_far", "_law_whole", "_law_one", "_law_two_here", "_law_a", "_law_k", "_law_gain"] "law" (defScope sLaw) f (.ref c) A outer s H E).nox (defBody sLaw) t ∧ ∀ ds d, fLaw K ds d → Sv mu0 t (start0 22 ds) { nx := fun _ _ => d = .non, rt := fun _ d' => d' = d } := by
  have lkE := XE.lk
  have hcE := XE.cd_
  have kE := XE.kp
  refine ⟨_, (pss_cons (ps_set (i := 1) scLaw.nd rfl (by first | exact Or.inl rfl | exact Or.inr rfl) (pe_row (pa_cons (pv 0) (pa_cons pe_int (pa_cons pe_int (pa_cons pe_int pa_nil))))))
      (pss_cons (ps_set (i := 2) scLaw.nd rfl (by first | exact Or.inl rfl | exact Or.inr rfl) (pe_def DLawOneFolk hr (by decide) (by rfl) pass0 (pa_cons (pv 1) (pa_cons pe_int pa_nil))))
      (pss_cons (ps_if (PW.pt (pw_or (pt_not (pt_val (pe_def DAlwaysRests hr (by decide) (by rfl) pass0 (pa_cons (pv 2) pa_nil)))) (pw_or1 (pt_not (pt_val (pe_def DIsOneEnded hr (by decide) (by rfl) pass0 (pa_cons (pv 2) pa_nil))))))) (pss_one (ps_ret pe_bl)) pss_nil)
      (pss_cons (ps_asg (pe_tup (pa_cons (pe_def DLawCrowd hr (by decide) (by rfl) pass0 (pa_cons (pv 1) (pa_cons (pv 2) (pa_cons pe_int pa_nil)))) (pa_cons (pe_def DLawCrowd hr (by decide) (by rfl) pass0 (pa_cons (pv 1) (pa_cons (pv 2) (pa_cons pe_int pa_nil)))) pa_nil))) (uGtup K rfl (pg_tup rfl (pgs_cons (pg_name (i := 3) scLaw.nd rfl (by first | exact Or.inl rfl | exact Or.inr rfl)) (pgs_cons (pg_name (i := 4) scLaw.nd rfl (by first | exact Or.inl rfl | exact Or.inr rfl)) pgs_nil)))))
      (pss_cons (ps_set (i := 5) scLaw.nd rfl (by first | exact Or.inl rfl | exact Or.inr rfl) (pe_lst (pa_cons (pe_def DEnd hr (by decide) (by rfl) passL (pa_cons (pv 2) (pa_cons (pv 3) pa_nil))) pa_nil)))
      (pss_cons (ps_for PassesOwn.never rfl (pi_range1 (by rfl) T.range (pa_cons pe_int pa_nil)) (pg_name (i := 6) scLaw.nd rfl (by first | exact Or.inl rfl | exact Or.inr rfl)) (pss_one (ps_expr (uBm K rfl PySem.F.plainAttrs_list PySem.F.slot_list_append PySem.F.type_list_append mt_append (pv 5) (pa_cons (pe_def DEnd hr (by decide) (by rfl) passL (pa_cons (pv 2) (pa_cons (pe_callTy (uTup K rfl) (by rfl) T.tuple (by decide +kernel) (pa_cons (pe_lc (own := [("_law_one", 17), ("_law_two_here", 18)]) (g := (gTup K 2 (gCons (gName 17) (gCons (gName 18) gNil)))) (tt := tYes) rfl scLaw.nd (pi_zip2 (by rfl) T.zip (pa_cons (pe_ix (uIx K rfl) (pv 5) (pe_un un_negU pe_int) (fun _ _ => rfl)) (pa_cons (pv 4) pa_nil))) (blkOk_by (N := ["_law_script", "_law_row", "_law_folk", "_law_crowd_here", "_law_step", "_law_found", "_law_turn", "_law_due", "_law_last", "_law_size", "_law_gains", "_law_p", "_law_q", "_law_many", "_law_rounds", "_law_far", "_law_whole", "_law_one", "_law_two_here", "_law_a", "_law_k", "_law_gain"]) (sc := (defScope sLaw)) (by decide +kernel)) (fun _ _ _ _ _ => (uGtup K rfl (pg_tup rfl (pgs_cons (pg_name (i := 17) scLaw.nd rfl (by first | exact Or.inl rfl | exact Or.inr rfl)) (pgs_cons (pg_name (i := 18) scLaw.nd rfl (by first | exact Or.inl rfl | exact Or.inr rfl)) pgs_nil))))) (fun _ _ _ _ _ => pts_nil) (fun _ _ _ _ _ => (pe_op op_addU (pv 17) (pv 18)))) pa_nil)) pa_nil))) pa_nil)))))
      (pss_cons (ps_set (i := 7) scLaw.nd rfl (by first | exact Or.inl rfl | exact Or.inr rfl) pe_non)
      (pss_cons (ps_for PassesOwn.never rfl (pi_range2 (by rfl) T.range (pa_cons pe_int (pa_cons pe_int pa_nil))) (pg_name (i := 8) scLaw.nd rfl (by first | exact Or.inl rfl | exact Or.inr rfl)) (pss_one (ps_for PassesOwn.never rfl (pi_range2 (by rfl) T.range (pa_cons pe_int (pa_cons (pe_op op_addU (pv 8) pe_int) pa_nil))) (pg_name (i := 9) scLaw.nd rfl (by first | exact Or.inl rfl | exact Or.inr rfl)) (pss_cons (ps_set (i := 10) scLaw.nd rfl (by first | exact Or.inl rfl | exact Or.inr rfl) (pe_callTy (uTup K rfl) (by rfl) T.tuple (by decide +kernel) (pa_cons (pe_lc (own := [("_law_one", 17), ("_law_two_here", 18)]) (g := (gTup K 2 (gCons (gName 17) (gCons (gName 18) gNil)))) (tt := tYes) rfl scLaw.nd (pi_zip2 (by rfl) T.zip (pa_cons (pe_ix (uIx K rfl) (pv 5) (pv 8) (fun _ _ => rfl)) (pa_cons (pe_ix (uIx K rfl) (pv 5) (pe_op op_subU (pv 8) (pv 9)) (fun _ _ => rfl)) pa_nil))) (blkOk_by (N := ["_law_script", "_law_row", "_law_folk", "_law_crowd_here", "_law_step", "_law_found", "_law_turn", "_law_due", "_law_last", "_law_size", "_law_gains", "_law_p", "_law_q", "_law_many", "_law_rounds", "_law_far", "_law_whole", "_law_one", "_law_two_here", "_law_a", "_law_k", "_law_gain"]) (sc := (defScope sLaw)) (by decide +kernel)) (fun _ _ _ _ _ => (uGtup K rfl (pg_tup rfl (pgs_cons (pg_name (i := 17) scLaw.nd rfl (by first | exact Or.inl rfl | exact Or.inr rfl)) (pgs_cons (pg_name (i := 18) scLaw.nd rfl (by first | exact Or.inl rfl | exact Or.inr rfl)) pgs_nil))))) (fun _ _ _ _ _ => pts_nil) (fun _ _ _ _ _ => (pe_op op_subU (pv 17) (pv 18)))) pa_nil)))
      (pss_one (ps_if (PW.pt (pw_and (pt_cmpR uIsN (pv 7) pe_non (nomark _)) (pw_and (pt_cmpR op_geU (pe_callB (uMin K rfl rfl (hu_of hr)) (by rfl) T.min (by decide +kernel) (pa_cons (pv 10) pa_nil)) pe_int (nomark _)) (pw_and1 (pt_val (pe_def DLawStays hr (by decide) (by rfl) pass0 (pa_cons (pv 2) (pa_cons (pe_slice (uSl K rfl) (pv 5) (po_some (pe_op op_subU (pv 8) (pv 9))) (po_some (pv 8))) (pa_cons (pv 10) pa_nil))))))))) (pss_one (ps_set (i := 7) scLaw.nd rfl (by first | exact Or.inl rfl | exact Or.inr rfl) (pe_tup (pa_cons (pe_op op_subU (pv 8) (pv 9)) (pa_cons (pv 9) (pa_cons (pv 10) pa_nil)))))) pss_nil))))))
      (pss_cons (ps_if (pt_cmpR uIsN (pv 7) pe_non (nomark _)) (pss_one (ps_ret (pe_cmpR (uEq K rfl (hu64 hr)) (pe_lst (pa_cons (LamX.pe_lamcall (k := 11) (by rfl) mE kE lkE hcE bE scLawError rfl (.inl rfl) (err_gives EA T) hTB rfl hMem hU hr (LamX.lamS_by (show LamX.lamSB (defScope sLaw) _ = true from by decide +kernel)) rfl (fun _ _ _ _ _ => rfl) (fun A outer s H E f c hr => (pe_def DRay hr (by decide) (by rfl) (passes_call (takes_of rfl rfl rfl rfl) (fun _ _ _ _ h => h)) (pa_cons (pv 2) (pa_cons (pv 3) (pa_cons (pv 4) pa_nil)))))) (pa_cons (pe_lamcallD (k := 11) (j := 19) (by rfl) mE kE lkE hcE bE scLawError rfl (.inl rfl) (err_gives EA T) hTB rfl hMem hU hr (lam1_by (show lam1B (defScope sLaw) _ _ = true from by decide +kernel)) rfl scLaw.nd rfl rfl pe_int (fun _ _ _ _ _ _ _ _ => ⟨_, rfl, rfl⟩) (fun A outer s H E f c hr => (pe_def DOnRay hr (by decide) (by rfl) (passes_call (takes_of rfl rfl rfl rfl) (fun _ _ _ _ h => h)) (pa_cons (pv 2) (pa_cons (pv 3) (pa_cons (pv 4) (pa_cons pe_int pa_nil))))))) pa_nil))) (pe_op op_mulU (pe_lst (pa_cons pe_str pa_nil)) pe_int) (nomark _)))) pss_nil)
      (pss_cons (ps_if (pt_not (pt_val (pe_def DLawAlike hr (by decide) (by rfl) pass0 (pa_cons (pe_def DRay hr (by decide) (by rfl) passL (pa_cons (pv 2) (pa_cons (pv 3) (pa_cons (pv 4) pa_nil)))) (pa_cons (pv 7) pa_nil))))) (pss_one (ps_ret pe_bl)) pss_nil)
      (pss_cons (ps_if (pt_not (pt_val (pe_def DLawAlike hr (by decide) (by rfl) pass0 (pa_cons (pe_lc (own := [("_law_k", 20)]) (g := (gName 20)) (tt := tYes) rfl scLaw.nd (pi_range1 (by rfl) T.range (pa_cons pe_int pa_nil)) (blkOk_by (N := ["_law_script", "_law_row", "_law_folk", "_law_crowd_here", "_law_step", "_law_found", "_law_turn", "_law_due", "_law_last", "_law_size", "_law_gains", "_law_p", "_law_q", "_law_many", "_law_rounds", "_law_far", "_law_whole", "_law_one", "_law_two_here", "_law_a", "_law_k", "_law_gain"]) (sc := (defScope sLaw)) (by decide +kernel)) (fun _ _ _ _ _ => (pg_name (i := 20) scLaw.nd rfl (by first | exact Or.inl rfl | exact Or.inr rfl))) (fun _ _ _ _ _ => pts_nil) (fun _ _ _ _ _ => (pe_def DOnRay hr (by decide) (by rfl) passL (pa_cons (pv 2) (pa_cons (pv 3) (pa_cons (pv 4) (pa_cons (pv 20) pa_nil))))))) (pa_cons (pv 5) pa_nil))))) (pss_one (ps_ret pe_bl)) pss_nil)
      (pss_cons (ps_asg (pv 7) (uGtup K rfl (pg_tup rfl (pgs_cons (pg_name (i := 11) scLaw.nd rfl (by first | exact Or.inl rfl | exact Or.inr rfl)) (pgs_cons (pg_name (i := 12) scLaw.nd rfl (by first | exact Or.inl rfl | exact Or.inr rfl)) (pgs_cons (pg_name (i := 10) scLaw.nd rfl (by first | exact Or.inl rfl | exact Or.inr rfl)) pgs_nil))))))
      (pss_cons (ps_set (i := 13) scLaw.nd rfl (by first | exact Or.inl rfl | exact Or.inr rfl) (pe_op op_addU (pe_op op_powU pe_int pe_int) (pe_def DLawTaken hr (by decide) (by rfl) pass0 (pa_cons (pv 1) (pa_cons pe_int pa_nil)))))
      (pss_cons (ps_set (i := 14) scLaw.nd rfl (by first | exact Or.inl rfl | exact Or.inr rfl) (pe_op op_divU (pe_op op_subU (pv 13) (pv 11)) (pv 12)))
      (pss_cons (ps_set (i := 15) scLaw.nd rfl (by first | exact Or.inl rfl | exact Or.inr rfl) (pe_callTy (uTup K rfl) (by rfl) T.tuple (by decide +kernel) (pa_cons (pe_lc (own := [("_law_one", 17), ("_law_gain", 21)]) (g := (gTup K 2 (gCons (gName 17) (gCons (gName 21) gNil)))) (tt := tYes) rfl scLaw.nd (pi_zip2 (by rfl) T.zip (pa_cons (pe_ix (uIx K rfl) (pv 5) (pe_op op_addU (pv 11) (pe_op op_modU (pe_op op_subU (pv 13) (pv 11)) (pv 12))) (fun _ _ => rfl)) (pa_cons (pv 10) pa_nil))) (blkOk_by (N := ["_law_script", "_law_row", "_law_folk", "_law_crowd_here", "_law_step", "_law_found", "_law_turn", "_law_due", "_law_last", "_law_size", "_law_gains", "_law_p", "_law_q", "_law_many", "_law_rounds", "_law_far", "_law_whole", "_law_one", "_law_two_here", "_law_a", "_law_k", "_law_gain"]) (sc := (defScope sLaw)) (by decide +kernel)) (fun _ _ _ _ _ => (uGtup K rfl (pg_tup rfl (pgs_cons (pg_name (i := 17) scLaw.nd rfl (by first | exact Or.inl rfl | exact Or.inr rfl)) (pgs_cons (pg_name (i := 21) scLaw.nd rfl (by first | exact Or.inl rfl | exact Or.inr rfl)) pgs_nil))))) (fun _ _ _ _ _ => pts_nil) (fun _ _ _ _ _ => (pe_op op_addU (pv 17) (pe_op op_mulU (pv 14) (pv 21))))) pa_nil)))
      (pss_cons (ps_if (pt_not (pt_val (pe_def DLawAlike hr (by decide) (by rfl) pass0 (pa_cons (pe_def DOnRay hr (by decide) (by rfl) passL (pa_cons (pv 2) (pa_cons (pv 3) (pa_cons (pv 4) (pa_cons (pv 13) pa_nil))))) (pa_cons (pv 15) pa_nil))))) (pss_one (ps_ret pe_bl)) pss_nil)
      (pss_cons (ps_set (i := 16) scLaw.nd rfl (by first | exact Or.inl rfl | exact Or.inr rfl) (pe_callTy (uTup K rfl) (by rfl) T.tuple (by decide +kernel) (pa_cons (pe_lc (own := [("_law_one", 17), ("_law_two_here", 18)]) (g := (gTup K 2 (gCons (gName 17) (gCons (gName 18) gNil)))) (tt := tYes) rfl scLaw.nd (pi_zip2 (by rfl) T.zip (pa_cons (pv 3) (pa_cons (pv 4) pa_nil))) (blkOk_by (N := ["_law_script", "_law_row", "_law_folk", "_law_crowd_here", "_law_step", "_law_found", "_law_turn", "_law_due", "_law_last", "_law_size", "_law_gains", "_law_p", "_law_q", "_law_many", "_law_rounds", "_law_far", "_law_whole", "_law_one", "_law_two_here", "_law_a", "_law_k", "_law_gain"]) (sc := (defScope sLaw)) (by decide +kernel)) (fun _ _ _ _ _ => (uGtup K rfl (pg_tup rfl (pgs_cons (pg_name (i := 17) scLaw.nd rfl (by first | exact Or.inl rfl | exact Or.inr rfl)) (pgs_cons (pg_name (i := 18) scLaw.nd rfl (by first | exact Or.inl rfl | exact Or.inr rfl)) pgs_nil))))) (fun _ _ _ _ _ => pts_nil) (fun _ _ _ _ _ => (pe_op op_addU (pv 17) (pe_op op_mulU (pv 13) (pv 18))))) pa_nil)))
      (pss_one (ps_ret (pe_or (pe_cmpR (uEq K rfl (hu64 hr)) (LamX.pe_lamcall (k := 11) (by rfl) mE kE lkE hcE bE scLawError rfl (.inl rfl) (err_gives EA T) hTB rfl hMem hU hr (LamX.lamS_by (show LamX.lamSB (defScope sLaw) _ = true from by decide +kernel)) rfl (fun _ _ _ _ _ => rfl) (fun A outer s H E f c hr => (pe_def DEnd hr (by decide) (by rfl) (passes_call (takes_of rfl rfl rfl rfl) (fun _ _ _ _ h => h)) (pa_cons (pv 2) (pa_cons (pv 16) pa_nil))))) (pe_tup (pa_cons pe_str (pa_cons pe_int pa_nil))) (nomark _)) (pe_one (pe_cmpR (uEq K rfl (hu64 hr)) (pe_def DEnd hr (by decide) (by rfl) passL (pa_cons (pv 2) (pa_cons (pv 16) pa_nil))) (pv 15) (nomark _))))))))))))))))))))))), fun ds d h => ?_⟩
  obtain ⟨a, rfl, rfl⟩ := h
  refine q_asgN (en_row (ea_cons (ev_var rfl) (ea_cons ev_int (ea_cons ev_int (ea_cons ev_int ea_nil)))) ⟨by decide, by decide, by decide⟩) fun d hd => ⟨_, _, asg_name, ?_⟩
  obtain ⟨r, rfl⟩ := hd
  refine q_asgN (en_callN (ea_cons (ev_var rfl) (ea_cons ev_int ea_nil)) ⟨r, rfl, rfl⟩) fun d hd => ⟨_, _, asg_name, ?_⟩
  obtain ⟨m, rs, rfl, hN⟩ := hd
  refine q_if (et_or (a := !rests m rs) (b := !(partG m rs).isNone) (et_not (et_B (ev_call0 (ea_cons (ev_var rfl) ea_nil) (spD ⟨m, rs, rfl, rfl, hN⟩)))) fun hrs => et_not (et_B (ev_call0 (ea_cons (ev_var rfl) ea_nil) (spD ⟨m, rs, rfl, rfl, hN, by simpa using hrs⟩)))) (fun _ => q_ret (sv_ret ev_bl rfl)) (fun hb => q_next ?_)
  have hE : OkE m rs := by
    rw [Bool.or_eq_false_iff, Bool.not_eq_false', Bool.not_eq_false', Option.isNone_iff_eq_none] at hb
    exact ⟨hN, hb.1, hb.2⟩
  have hd := hN.d
  have hm := hd.ok.moods
  have h6 := hm.l6
  have h1m := hm.l1
  refine q_asgN (en_tup (z := fun d => ∃ c st, d = .tup [eCrowd c, eCrowd st] ∧ RayH m rs c st) (an_cons (p := fun d => ∃ c, d = eCrowd c ∧ OkC m c ∧ c.sum ≤ ((4 : Nat) : Int)) (P := fun ds => ∃ st, ds = [eCrowd st] ∧ OkC m st ∧ st.sum ≤ ((3 : Nat) : Int)) (R := fun ds => ∃ c st, ds = [eCrowd c, eCrowd st] ∧ RayH m rs c st)
    (en_callN (ea_cons (ev_var rfl) (ea_cons (ev_var rfl) (ea_cons ev_int ea_nil))) ⟨r, m, rs, 4, rfl, rfl, hm, by decide⟩) (an_cons (p := fun d => ∃ c, d = eCrowd c ∧ OkC m c ∧ c.sum ≤ ((3 : Nat) : Int)) (en_callN (ea_cons (ev_var rfl) (ea_cons (ev_var rfl) (ea_cons ev_int ea_nil))) ⟨r, m, rs, 3, rfl, rfl, hm, by decide⟩) an_nil ?_) ?_) ?_) ?_
  · rintro d ds ⟨st, rfl, h1, h2⟩ rfl
    exact ⟨st, rfl, h1, h2⟩
  · rintro d ds ⟨c, rfl, h1, h2⟩ ⟨st, rfl, h3, h4⟩
    exact ⟨c, st, rfl, hd, h2, h1, h3, h4⟩
  · rintro ds ⟨c, st, rfl, hh⟩
    exact ⟨show 2 ≤ 100000 by decide, c, st, rfl, hh⟩
  rintro d ⟨c, st, rfl, hh⟩
  refine ⟨_, _, asg_tup2, ?_⟩
  have endIn : ∀ n, n ≤ 1000 → fEnd CT [eFolk m rs, eCrowd (inN m rs c st n)] (.val (eCrowd (endsN m rs c st n))) := fun n hn => by
    obtain ⟨l, hl, _⟩ := hh.end_ hn
    obtain ⟨i1, _, i3⟩ := hh.in_ n hn
    exact ⟨m, rs, inN m rs c st n, rfl, by rw [hl]; rfl, hE, i1, Int.le_trans i3 (by decide)⟩
  have elen : ∀ {n}, n ≤ 1000 → (endsN m rs c st n).length = m.length := fun {n} hn => by
    obtain ⟨_, _, h1, _⟩ := hh.end_ hn
    exact h1.len
  refine q_newL (ds := [eCrowd (endsN m rs c st 0)]) (ea_cons (ev_call0 (ea_cons (ev_var rfl) (ea_cons (ev_var rfl) ea_nil)) (spXD (endIn 0 (by decide)))) ea_nil) (by show 1 ≤ _; decide) fun p hp => ?_
  refine q_for (ei_rng1 (n := 45) (ea_cons ev_int ea_nil) (by decide) (by decide)) (fun j μ ρ => μ = mset mu0 p ((crowdsN m rs c st (j + 1)).map eCrowd) ∧ ∃ x6, ρ = LR K a r m rs c st (some (.ref p)) x6 none none none none none none none none none none) ⟨rfl, none, rfl⟩ ?_ ?_
  · rintro j d μ ρ hdj ⟨rfl, x6, rfl⟩
    obtain ⟨hj, rfl⟩ := upTo_get hdj
    have hj : j < 45 := hj
    refine ⟨_, _, asg_name, ?_⟩
    have hin : ((endsN m rs c st j).zip st).map (fun p => p.1 + p.2) = inN m rs c st (j + 1) := by
      show _ = pluz (endsN m rs c st j) st 1
      unfold pluz
      refine List.map_congr_left fun p _ => ?_
      rw [Int.one_mul]
    refine sv_app (d := eCrowd (endsN m rs c st (j + 1))) (ev_var rfl) mset_same (ev_call0 (ds := [eFolk m rs, eCrowd (inN m rs c st (j + 1))]) (ea_cons (ev_var rfl) (ea_cons (Ev.is (ev_tupI (f := fun p : Int × Int => p.1 + p.2) (ρ' := fun p : Int × Int => [some (scrA K a), some (rowD K r), some (eFolk m rs), some (eCrowd c), some (eCrowd st), some (.ref _), _, none, none, none, none, none, none, none, none, none, none, some (.int p.1), some (.int p.2), none, none, none])
      ((ei_zip2 (ea_cons (ev_op (ev_var rfl) (ev_un ev_int ud_neg) (rd_ixM (d := eCrowd (endsN m rs c st j)) mset_same ?_)) (ea_cons (ev_var rfl) ea_nil)) (.tup _) (.tup _)).is zip2_map) (by simp) (fun x _ => asg_tup2) (fun x hx => ev_op (ev_var rfl) (ev_var rfl) rd_addI) ?_) (by rw [hin])) ea_nil)) (spXD (endIn (j + 1) (by omega)))) ?_ ⟨?_, _, rfl⟩
    · rw [atI_last _ (by simp), crowdsN_succ, List.map_append]
      simp
    · rw [List.length_zip, elen (by omega)]
      omega
    · rw [List.length_map, foundN_len]
      omega
    · rw [mset_mset]
      congr 1
      rw [crowdsN_succ m rs c st (j + 1), List.map_append]
      rfl
  rintro μ ρ ⟨rfl, x6, rfl⟩
  rw [show (upTo 0 (45 : Int).toNat).length = 45 from rfl]
  refine sv_freeze (i := 5) rfl mset_same ?_
  rw [mdel_mset rfl]
  show Sv mu0 _ (LR K a r m rs c st (some (.lst ((crowdsN m rs c st 46).map eCrowd))) x6 none none none none none none none none none none) _
  refine q_asg ev_non asg_name ?_
  have emin : ∀ {l : Cwd} {mn : Int}, IsMin l mn → decide ((0 : Int) ≤ mn) = l.all (fun x => decide (0 ≤ x)) := fun {l mn} hmn => by
    by_cases h0 : 0 ≤ mn
    · rw [decide_eq_true h0]
      exact (List.all_eq_true.mpr fun x hx => decide_eq_true (Int.le_trans h0 (hmn.2 x hx))).symm
    · rw [decide_eq_false h0]
      refine Eq.symm (Bool.eq_false_iff.mpr fun h => h0 ?_)
      exact of_decide_eq_true (List.all_eq_true.mp h mn hmn.1)
  generalize hfo : (some (D.lst ((crowdsN m rs c st 46).map eCrowd)) : Option D) = fo
  refine q_for (ei_rng2 (lo := 1) (n := 41) (ea_cons ev_int (ea_cons ev_int ea_nil)) (by decide) (by decide)) (fun j μ ρ => μ = mu0 ∧ ∃ x8 x9 x10, ρ = LR K a r m rs c st fo x6 (some (trD (dueA m rs (endsN m rs c st) j))) x8 x9 x10 none none none none none none) ⟨rfl, none, none, none, rfl⟩ ?_ ?_
  · rintro j d μ ρ hdj ⟨rfl, x8, x9, x10, rfl⟩
    obtain ⟨hj, rfl⟩ := upTo_get hdj
    have hj : j < 40 := hj
    refine ⟨_, _, asg_name, ?_⟩
    refine sv_for (ei_rng2 (lo := 1) (n := 1 + (j : Nat) + 1) (ea_cons ev_int (ea_cons (ev_op (ev_var rfl) ev_int rd_addI) ea_nil)) (by decide) (by omega)) (fun b μ ρ => μ = mu0 ∧ ∃ x9 x10, ρ = LR K a r m rs c st fo x6 (some (trD (dueB m rs (endsN m rs c st) j b))) (some (.int (1 + (j : Nat)))) x9 x10 none none none none none none) ⟨rfl, _, _, by rw [dueB0]; rfl⟩ ?_ ?_
    · rintro b d μ ρ hdb ⟨rfl, x9, x10, rfl⟩
      obtain ⟨hb, rfl⟩ := upTo_get hdb
      have hb : b < j + 1 := by omega
      refine ⟨_, _, asg_name, ?_⟩
      subst hfo
      have ej : ((1 : Int) + (j : Nat)) = ((j + 1 : Nat) : Int) := by omega
      have eb : ((1 : Int) + (b : Nat)) = ((b + 1 : Nat) : Int) := by omega
      have ejb : ((j + 1 : Nat) : Int) - ((b + 1 : Nat) : Int) = ((j + 1 - (b + 1) : Nat) : Int) := by omega
      rw [ej, eb]
      have hgl := gainz_len hh (last := j + 1) (q := b + 1) (by omega)
      have esub : ∀ {σ : DEnv}, σ[8]? = some (some (.int ((j + 1 : Nat) : Int))) → σ[9]? = some (some (.int ((b + 1 : Nat) : Int))) → Ev mu0 (tOp rSubU (tVar 8) (tVar 9)) σ (.int ((j + 1 - (b + 1) : Nat) : Int)) := fun h1 h2 => Ev.is (ev_op (ev_var h1) (ev_var h2) rd_sub) (congrArg D.int ejb)
      refine q_asg (d := eCrowd (gainz (endsN m rs c st) (j + 1) (b + 1))) (ev_tupI (f := fun p : Int × Int => p.1 - p.2) (ρ' := fun p : Int × Int => [some (scrA K a), some (rowD K r), some (eFolk m rs), some (eCrowd c), some (eCrowd st), _, _, _, _, _, _, none, none, none, none, none, none, some (.int p.1), some (.int p.2), none, none, none])
        ((ei_zip2 (ea_cons (ev_op (ev_var rfl) (ev_var rfl) (rd_ixL (at_found (by omega)))) (ea_cons (ev_op (ev_var rfl) (esub rfl rfl) (rd_ixL (at_found (by omega)))) ea_nil)) (.tup _) (.tup _)).is zip2_map) (by simp) (fun x _ => asg_tup2) (fun x hx => ev_op (ev_var rfl) (ev_var rfl) rd_sub) ?_) asg_name ?_
      · rw [List.length_zip, elen (by omega)]
        omega
      obtain ⟨mn, hmn⟩ := exists_min (l := gainz (endsN m rs c st) (j + 1) (b + 1)) (fun e => by
        rw [e] at hgl
        simp at hgl
        omega)
      refine sv_if (b := (dueB m rs (endsN m rs c st) j b).isNone && rayOk m rs (endsN m rs c st) (j + 1) (b + 1)) (EvT.is (et_and (et_test (ev_isN rfl)) fun _ => et_and (et_test (ev_op (ev_cb (ea_cons (ev_var rfl) ea_nil) (cd_minT hmn)) ev_int rd_geI)) fun _ => et_B (ev_call0 (ea_cons (ev_var rfl) (ea_cons (ev_sl (ev_var rfl) (eo_some (esub rfl rfl)) (eo_some (ev_var rfl)) sd_L) (ea_cons (ev_var rfl) ea_nil))) (spD ⟨m, rs, (List.range' (j + 1 - (b + 1)) (b + 1)).map (endsN m rs c st), gainz (endsN m rs c st) (j + 1) (b + 1), ?_, rfl, hd.ok, ?_, ?_, ?_⟩))) ?_) (fun hok => ?_) fun hok => ?_
      · have := cut_found (m := m) (rs := rs) (c := c) (st := st) (n := 46) (p := j + 1 - (b + 1)) (q := b + 1) (by omega)
        rw [show j + 1 - (b + 1) + (b + 1) = j + 1 by omega] at this
        rw [this]
      · rw [List.length_map, List.length_range']
        omega
      · intro d hdm
        obtain ⟨n, hn, rfl⟩ := List.mem_map.mp hdm
        rw [List.mem_range'_1] at hn
        rw [elen (by omega)]
        omega
      · rw [hgl]
        omega
      · rw [emin hmn]
        rfl
      · rw [Bool.and_eq_true, Option.isNone_iff_eq_none] at hok
        refine sv_asg (d := tripD (j + 1 - (b + 1), b + 1, gainz (endsN m rs c st) (j + 1) (b + 1))) (ev_tup (ea_cons (esub rfl rfl) (ea_cons (ev_var rfl) (ea_cons (ev_var rfl) ea_nil))) (by show 3 ≤ _; decide)) asg_name ⟨rfl, some (.int ((b + 1 : Nat) : Int)), some (eCrowd (gainz (endsN m rs c st) (j + 1) (b + 1))), ?_⟩
        rw [dueB_succ, hok.1]
        show _ = LR K a r m rs c st _ x6 (some (trD (rayFn m rs (endsN m rs c st) (j + 1) b))) _ _ _ none none none none none none
        unfold rayFn
        rw [if_pos hok.2, ← ej]
        rfl
      · refine sv_next ⟨rfl, some (.int ((b + 1 : Nat) : Int)), some (eCrowd (gainz (endsN m rs c st) (j + 1) (b + 1))), ?_⟩
        rw [dueB_succ]
        have e : (dueB m rs (endsN m rs c st) j b).or (rayFn m rs (endsN m rs c st) (j + 1) b) = dueB m rs (endsN m rs c st) j b := by
          cases hdu : dueB m rs (endsN m rs c st) j b with
          | some t => rfl
          | none =>
            rw [hdu] at hok
            have hok : rayOk m rs (endsN m rs c st) (j + 1) (b + 1) = false := hok
            show rayFn m rs (endsN m rs c st) (j + 1) b = none
            unfold rayFn
            rw [hok, if_neg (by decide)]
        rw [e, ← ej]
        rfl
    · rintro μ ρ ⟨rfl, x9, x10, rfl⟩
      rw [upTo_len, show (1 + (j : Nat) + 1 - 1 : Int).toNat = j + 1 by omega, ← dueA_succ]
      exact ⟨rfl, _, _, _, rfl⟩
  rintro μ ρ ⟨rfl, x8, x9, x10, rfl⟩
  rw [upTo_len, show ((41 : Int) - 1).toNat = 40 from rfl, show dueA m rs (endsN m rs c st) 40 = rayT m rs (endsN m rs c st) from rfl]
  cases hray : rayT m rs (endsN m rs c st) with
  | none =>
    have f1 : fRay CN [eFolk m rs, eCrowd c, eCrowd st] (.exc ⟨CN, none⟩) := ⟨m, rs, c, st, rfl, by unfold rayOut1; rw [hray], hh, hE⟩
    have f2 : fOnRay CN [eFolk m rs, eCrowd c, eCrowd st, .int 3] (.exc ⟨CN, none⟩) := ⟨m, rs, c, st, 3, rfl, by unfold onOut; rw [hray], hh, hE, by decide⟩
    refine q_if (b := true) (et_test (ev_isN (t := none) rfl)) (fun _ => q_ret ?_) (fun h => by cases h)
    refine sv_ret ((ev_op (ev_lst (ds := [.str "NoRay", .str "NoRay"]) (ea_cons (ev_errN fun E => letI : Xw := ⟨E⟩; er_call0 (ea_cons (ev_var rfl) (ea_cons (ev_var rfl) (ea_cons (ev_var rfl) ea_nil))) f1)
      (ea_cons (ev_errD fun E => letI : Xw := ⟨E⟩; er_call0 (ea_cons (ev_var rfl) (ea_cons (ev_var rfl) (ea_cons (ev_var rfl) (ea_cons ev_int ea_nil)))) f2) ea_nil)) (by decide)) (ev_op (ev_lst (ds := [.str "NoRay"]) (ea_cons ev_str ea_nil) (by decide)) ev_int (rd_mulL (by decide) (by decide) (by decide))) (rd_eq (b := true) (by decide +kernel) (by decide +kernel) (by simp)))) rfl
  | some t =>
    obtain ⟨last, q, q1, q2, q3, ht, hok⟩ := ray_some hray
    have hgl : t.2.2.length = m.length := by
      rw [ht]
      exact gainz_len hh (by omega)
    have hq1 : 1 ≤ t.2.1 := by rw [ht]; exact q1
    have hpq : t.1 + t.2.1 ≤ 40 := by
      rw [ht]
      show last - q + q ≤ 40
      omega
    have gmem : ∀ x ∈ t.2.2, x.natAbs ≤ 2 ^ 200 := fun x hx => by
      rw [ht] at hx
      have hx : x ∈ gainz (endsN m rs c st) last q := hx
      obtain ⟨pp, hpp, rfl⟩ := List.mem_map.mp hx
      obtain ⟨hz1, hz2⟩ := List.of_mem_zip hpp
      obtain ⟨_, _, a1, _, a2⟩ := hh.end_ (n := last) (by omega)
      obtain ⟨_, _, b1, _, b2⟩ := hh.end_ (n := last - q) (by omega)
      have u1 := a1.nn _ hz1
      have u2 := sum_nn a1.nn _ hz1
      have u3 := b1.nn _ hz2
      have u4 := sum_nn b1.nn _ hz2
      have : (pp.1 - pp.2).natAbs ≤ 5000 := by omega
      exact Nat.le_trans this (by decide)
    refine q_if (b := false) (et_test (ev_isN (t := some t) rfl)) (fun h => by cases h) (fun _ => q_next ?_)
    show Sv mu0 _ (LR K a r m rs c st fo x6 (some (tripD t)) x8 x9 x10 none none none none none none) _
    have f1 : fRay CN [eFolk m rs, eCrowd c, eCrowd st] (.val (tripD t)) := ⟨m, rs, c, st, rfl, by unfold rayOut1; rw [hray], hh, hE⟩
    have f2 : ∀ k, k ≤ 10 ^ 30 → fOnRay CN [eFolk m rs, eCrowd c, eCrowd st, .int (k : Nat)] (.val (eCrowd (onT (endsN m rs c st) t k))) := fun k hk => ⟨m, rs, c, st, k, rfl, by unfold onOut; rw [hray], hh, hE, hk⟩
    have onlen : ∀ k, (onT (endsN m rs c st) t k).length ≤ 1000 := fun k => by
      rw [onT_len hh hray]
      omega
    refine q_if (b := false) (et_not (a := true) (et_B (ev_call0 (ea_cons (ev_call0 (ea_cons (ev_var rfl) (ea_cons (ev_var rfl) (ea_cons (ev_var rfl) ea_nil))) (spXD f1)) (ea_cons (ev_var rfl) ea_nil)) (spD ⟨tripD t, rfl, rfl, al_trip _ t (by omega)⟩)))) (fun h => by cases h) (fun _ => q_next ?_)
    subst hfo
    refine q_if (b := false) (et_not (a := true) (et_B (ev_call0 (ds := [.lst ((crowdsN m rs c st 46).map eCrowd), .lst ((crowdsN m rs c st 46).map eCrowd)]) (ea_cons (Ev.is (ev_lc1 (xs := List.range 46) (enc := fun k : Nat => D.int (k : Nat)) (h := fun k : Nat => eCrowd (endsN m rs c st k))
      (ρ' := fun k : Nat => [some (scrA K a), some (rowD K r), some (eFolk m rs), some (eCrowd c), some (eCrowd st), _, _, _, _, _, _, none, none, none, none, none, none, none, none, none, some (.int (k : Nat)), none])
      ((ei_rng1 (n := 46) (ea_cons ev_int ea_nil) (by decide) (by decide)).is (by unfold upTo; exact List.map_congr_left fun k _ => by rw [Int.zero_add])) (by simp) (fun k _ => asg_name) (fun k hk => Ev.is (ev_call0 (ea_cons (ev_var rfl) (ea_cons (ev_var rfl) (ea_cons (ev_var rfl) (ea_cons (ev_var rfl) ea_nil)))) (spXD (f2 k ?_))) ?_) (by decide)) ?_) (ea_cons (ev_var rfl) ea_nil)) (spD ⟨_, rfl, rfl, al_crowds _ _ ?_ ?_⟩)))) (fun h => by cases h) (fun _ => q_next ?_)
    · have := List.mem_range.mp hk
      exact Nat.le_trans (Nat.le_of_lt this) (by decide)
    · have := List.mem_range.mp hk
      rw [onT_eq hh hE.one hray (by omega)]
    · unfold crowdsN
      rw [List.map_map]
      rfl
    · rw [foundN_len]
      decide
    · intro d hdm
      obtain ⟨n, hn, rfl⟩ := List.mem_map.mp hdm
      have := List.mem_range.mp hn
      rw [elen (by omega)]
      omega
    refine q_asg (ev_var rfl) asg_tup3 ?_
    refine q_asgN (p := fun d => ∃ N : Nat, d = .int (N : Nat) ∧ 10 ^ 9 ≤ N ∧ N < 10 ^ 9 + 9) (en_op (p := fun d => d = .int (10 ^ 9)) (q := fun d => ∃ n : Int, d = .int n ∧ 0 ≤ n ∧ n < 9) (en_of (ev_op ev_int ev_int (rd_pow ⟨by decide, by decide, by decide⟩)) (by rfl)) (en_callN (ea_cons (ev_var rfl) (ea_cons ev_int ea_nil)) ⟨r, 9, rfl, rfl, by decide, by decide⟩) ?_) ?_
    · rintro x y rfl ⟨n, rfl, n0, n1⟩
      exact ⟨.int (10 ^ 9 + n), ⟨(10 ^ 9 + n).toNat, by congr 1; omega, by omega, by omega⟩, rd_addI⟩
    rintro d ⟨N, rfl, N0, N1⟩
    refine ⟨_, _, asg_name, ?_⟩
    have hNt : t.1 ≤ N := by omega
    have esub : ((N : Nat) : Int) - ((t.1 : Nat) : Int) = ((N - t.1 : Nat) : Int) := by omega
    have q0 : (0 : Int) < ((t.2.1 : Nat) : Int) := by omega
    have q9 : ((t.2.1 : Nat) : Int) < 1000000000 := by omega
    have hmod : (N - t.1) % t.2.1 < t.2.1 := Nat.mod_lt _ (by omega)
    have hdiv : (N - t.1) / t.2.1 ≤ 10 ^ 9 + 9 := Nat.le_trans (Nat.div_le_self _ _) (by omega)
    refine q_asg (d := .int (((N - t.1) / t.2.1 : Nat) : Int)) (Ev.is (ev_op (ev_op (ev_var rfl) (ev_var rfl) rd_sub) (ev_var rfl) (rd_div (divOk q0 q9))) (congrArg D.int (by rw [esub]; rfl))) asg_name ?_
    have honT : onT (endsN m rs c st) t N = ((endsN m rs c st (t.1 + (N - t.1) % t.2.1)).zip t.2.2).map fun p => p.1 + (((N - t.1) / t.2.1 : Nat) : Int) * p.2 := by
      unfold onT
      rw [if_neg (by omega)]
      rfl
    refine q_asg (d := eCrowd (onT (endsN m rs c st) t N)) (Ev.is (ev_tupI (f := fun p : Int × Int => p.1 + (((N - t.1) / t.2.1 : Nat) : Int) * p.2) (ρ' := fun p : Int × Int => [some (scrA K a), some (rowD K r), some (eFolk m rs), some (eCrowd c), some (eCrowd st), _, _, _, _, _, _, some (.int (t.1 : Nat)), some (.int (t.2.1 : Nat)), some (.int (N : Nat)), some (.int (((N - t.1) / t.2.1 : Nat) : Int)), none, none, some (.int p.1), none, none, none, some (.int p.2)])
      ((ei_zip2 (ea_cons (ev_op (ev_var rfl) (Ev.is (ev_op (ev_var rfl) (ev_op (ev_op (ev_var rfl) (ev_var rfl) rd_sub) (ev_var rfl) (rd_mod q0)) rd_addI) (congrArg D.int (show _ = ((t.1 + (N - t.1) % t.2.1 : Nat) : Int) by rw [esub]; rfl))) (rd_ixL (at_found (by omega)))) (ea_cons (ev_var rfl) ea_nil)) (.tup _) (.tup _)).is zip2_map) (by simp) (fun x _ => asg_tup2) (fun x hx => ev_op (ev_var rfl) (ev_op (ev_var rfl) (ev_var rfl) (rd_mulI (mulOk (small_big ?_) (small_big (gmem _ (List.of_mem_zip hx).2))))) rd_addI) ?_) (by rw [honT])) asg_name ?_
    · have : ((((N - t.1) / t.2.1 : Nat) : Int)).natAbs ≤ 10 ^ 9 + 9 := by
        rw [Int.natAbs_natCast]
        exact hdiv
      exact Nat.le_trans this (by decide)
    · rw [List.length_zip, elen (by omega)]
      omega
    refine q_if (b := false) (et_not (a := true) (et_B (ev_call0 (ea_cons (ev_call0 (ea_cons (ev_var rfl) (ea_cons (ev_var rfl) (ea_cons (ev_var rfl) (ea_cons (ev_var rfl) ea_nil)))) (spXD (f2 N (Nat.le_trans (Nat.le_of_lt N1) (by decide))))) (ea_cons (ev_var rfl) ea_nil)) (spD ⟨_, rfl, rfl, al_up1 (onlen N)⟩)))) (fun h => by cases h) (fun _ => q_next ?_)
    refine q_asg (d := eCrowd (pluz c st (N : Nat))) (ev_tupI (f := fun p : Int × Int => p.1 + ((N : Nat) : Int) * p.2) (ρ' := fun p : Int × Int => [some (scrA K a), some (rowD K r), some (eFolk m rs), some (eCrowd c), some (eCrowd st), _, _, _, _, _, _, some (.int (t.1 : Nat)), some (.int (t.2.1 : Nat)), some (.int (N : Nat)), some (.int (((N - t.1) / t.2.1 : Nat) : Int)), _, none, some (.int p.1), some (.int p.2), none, none, none])
      ((ei_zip2 (ea_cons (ev_var rfl) (ea_cons (ev_var rfl) ea_nil)) (.tup _) (.tup _)).is zip2_map) (by simp) (fun x _ => asg_tup2) (fun x hx => ev_op (ev_var rfl) (ev_op (ev_var rfl) (ev_var rfl) (rd_mulI (mulOk (small_big ?_) (small_big ?_)))) rd_addI) ?_) asg_name ?_
    · have : (((N : Nat) : Int)).natAbs ≤ 10 ^ 9 + 9 := by omega
      exact Nat.le_trans this (by decide)
    · have u1 := hh.s.nn _ (List.of_mem_zip hx).2
      have u2 := sum_nn hh.s.nn _ (List.of_mem_zip hx).2
      have u3 := hh.s3
      have : x.2.natAbs ≤ 3 := by omega
      exact Nat.le_trans this (by decide)
    · rw [List.length_zip, hh.c.len]
      omega
    have wok : OkC m (pluz c st (N : Nat)) := pluz_ok hh.c hh.s (by omega)
    have wsum : (pluz c st (N : Nat)).sum ≤ 10 ^ 40 := by
      rw [sum_pluz _ (by rw [hh.c.len, hh.s.len])]
      have u0 := sum_nn0 hh.s.nn
      have u1 := hh.s3
      have u2 := hh.c4
      have u3 : ((N : Nat) : Int) * st.sum ≤ (10 ^ 9 + 9) * 3 := Int.mul_le_mul (by omega) u1 u0 (by decide)
      omega
    have fe : fEnd CT [eFolk m rs, eCrowd (pluz c st (N : Nat))] (endOut CT (leapsOf m rs (pluz c st (N : Nat)))) := ⟨m, rs, _, rfl, rfl, hE, wok, wsum⟩
    cases hlp : leapsOf m rs (pluz c st (N : Nat)) with
    | none =>
      rw [hlp] at fe
      refine sv_ret (ev_orV (a := true) (b := true) (ev_op (ev_errT fun E => letI : Xw := ⟨E⟩; er_call0 (ea_cons (ev_var rfl) (ea_cons (ev_var rfl) ea_nil)) fe) (ev_tup (ea_cons ev_str (ea_cons ev_int ea_nil)) (by decide)) (rd_eq (b := true) (by decide +kernel) (by decide +kernel) (by simp))) (fun h => by cases h)) rfl
    | some ld =>
      obtain ⟨l, dd⟩ := ld
      rw [hlp] at fe
      have hdd := whole_eq hh hE.one hray hlp
      have fe : fEnd CT [eFolk m rs, eCrowd (pluz c st (N : Nat))] (.val (eCrowd dd)) := fe
      refine sv_ret (ev_orV (a := false) (b := true) (ev_op (ev_err0 (d := eCrowd dd) fun E => ev_call0 (ea_cons (ev_var rfl) (ea_cons (ev_var rfl) ea_nil)) (spXD fe)) (ev_tup (ea_cons ev_str (ea_cons ev_int ea_nil)) (by decide)) (rd_eq (b := false) (by decide +kernel) (by decide +kernel) (by simp))) (fun _ => ev_op (ev_call0 (ea_cons (ev_var rfl) (ea_cons (ev_var rfl) ea_nil)) (spXD fe)) (ev_var rfl) (rd_eq (b := true) (crowd_pl _) (crowd_pl _) (by rw [hdd]; simp)))) rfl
end
end Mf
set_option maxRecDepth 100000
set_option maxHeartbeats 8000000
/-! All defs put together: what the law's def keeps, of the facts that the top leaves. -/
namespace Mf
open PySem L2 PyProof.Rows LamX
variable [Tt] [Xw]
structure Facts (P : Program) (K : PySem.W.Frag) (mg : Str → Option Value) (CN CT CF : Addr) : Prop where
  isInteger_ : FunAt K mg "is_integer" sIsInteger ["value"]
  isFrom_ : FunAt K mg "is_from" sIsFrom ["value", "low", "high"]
  isMoods_ : FunAt K mg "is_moods" sIsMoods ["value"]
  isTwo_ : FunAt K mg "is_two" sIsTwo ["moods", "value"]
  isRule_ : FunAt K mg "is_rule" sIsRule ["moods", "value"]
  isCrowd_ : FunAt K mg "is_crowd" sIsCrowd ["folk", "value"]
  needCrowd_ : FunAt K mg "need_crowd" sNeedCrowd ["folk", "value"]
  countsOf_ : FunAt K mg "counts_of" sCountsOf ["moods", "text"]
  changeOf_ : FunAt K mg "change_of" sChangeOf ["folk", "rule"]
  canUse_ : FunAt K mg "can_use" sCanUse ["folk", "crowd", "rule"]
  usable_ : FunAt K mg "usable" sUsable ["folk", "crowd"]
  behind_ : FunAtD K mg "behind" sBehind ["folk", "crowd", "rule", "times"] [.int 1]
  textOf_ : FunAt K mg "text_of" sTextOf ["folk", "crowd"]
  bySize_ : FunAt K mg "by_size" sBySize ["folk", "crowd"]
  crowdsOf_ : FunAt K mg "crowds_of" sCrowdsOf ["folk", "size"]
  common_ : FunAt K mg "common" sCommon ["one", "other"]
  withoutPart_ : FunAt K mg "without_part" sWithoutPart ["row"]
  cleared_ : FunAt K mg "cleared" sCleared ["row", "head", "at"]
  ledRows_ : FunAt K mg "led_rows" sLedRows ["rows"]
  firstPlace_ : FunAt K mg "first_place" sFirstPlace ["row"]
  nothingBy_ : FunAt K mg "nothing_by" sNothingBy ["rows", "size"]
  lotsOf_ : FunAt K mg "lots_of" sLotsOf ["size", "many"]
  balance_ : FunAt K mg "balance" sBalance ["folk"]
  doesRest_ : FunAt K mg "does_rest" sDoesRest ["folk"]
  few_ : FunAt K mg "few" sFew ["folk"]
  timesOf_ : FunAt K mg "times_of" sTimesOf ["folk", "crowd", "rule"]
  plus_ : FunAtD K mg "plus" sPlus ["one", "other", "times"] [.int 1]
  lacks_ : FunAt K mg "lacks" sLacks ["folk", "crowd", "gains", "rule"]
  stays_ : FunAt K mg "stays" sStays ["folk", "crowds", "gains"]
  leapsOf_ : FunAt K mg "leaps_of" sLeapsOf ["folk", "crowd"]
  comeTo_ : FunAt K mg "come_to" sComeTo ["folk", "crowd"]
  partingOf_ : FunAt K mg "parting_of" sPartingOf ["folk"]
  isFolk_ : FunAt K mg "is_folk" sIsFolk ["value"]
  needFolk_ : FunAt K mg "need_folk" sNeedFolk ["value"]
  alwaysRests_ : FunAt K mg "always_rests" sAlwaysRests ["folk"]
  needRest_ : FunAt K mg "need_rest" sNeedRest ["folk"]
  isOneEnded_ : FunAt K mg "is_one_ended" sIsOneEnded ["folk"]
  needOneEnded_ : FunAt K mg "need_one_ended" sNeedOneEnded ["folk"]
  end_ : FunAt K mg "end" sEnd ["folk", "crowd"]
  needRay_ : FunAt K mg "need_ray" sNeedRay ["folk", "crowd", "step"]
  rayOf_ : FunAt K mg "ray_of" sRayOf ["folk", "crowd", "step"]
  ray_ : FunAt K mg "ray" sRay ["folk", "crowd", "step"]
  onRay_ : FunAt K mg "on_ray" sOnRay ["folk", "crowd", "step", "k"]
  lawTaken_ : FunAt K mg "_law_taken" sLawTaken ["_law_row", "_law_many"]
  lawPick_ : FunAt K mg "_law_pick" sLawPick ["_law_row", "_law_things"]
  lawTwo_ : FunAt K mg "_law_two" sLawTwo ["_law_row", "_law_moods_here"]
  lawMoods_ : FunAt K mg "_law_moods" sLawMoods ["_law_row"]
  lawCounts_ : FunAt K mg "_law_counts" sLawCounts ["_law_moods_here", "_law_text"]
  lawCrowd_ : FunAt K mg "_law_crowd" sLawCrowd ["_law_row", "_law_folk", "_law_most"]
  lawOneFolk_ : FunAt K mg "_law_one_folk" sLawOneFolk ["_law_row", "_law_most"]
  lawStays_ : FunAt K mg "_law_stays" sLawStays ["_law_folk", "_law_crowds", "_law_gains"]
  lawAlike_ : FunAt K mg "_law_alike" sLawAlike ["_law_found", "_law_due"]
  T : Bts mg
  C : Cst mg
  TM : TmAt P K mg CT
  NR : NrAt K mg CN
  EA : ErrAt K mg CN CT CF
theorem law_fn {P : Program} {w : World} {K : PySem.W.Frag} {mg : Str → Option Value} {base : Heap} {CN CT CF cE pE cL pL gE fL : Addr} {ocE : Value} {odE : Option Addr} {dVE kVE docE pmE : Value} {anE : Option Addr} {cdE ctE : Value} {oslE : Array (Option Value)}
    {ocL : Value} {odL : Option Addr} {dVL kVL docL pmL : Value} {anL : Option Addr} {ctL : Value} {oslL : Array (Option Value)}
    (Fa : Facts P K mg CN CT CF) (FC : FunAtC K mg base "ends_of" sEndsOf ["folk", "crowd"] cE pE) (hMemE : (pE, ("ends_of.<locals>.<lambda>" : Str)) ∈ Tt.T) (hUE : ∀ p ∈ Tt.T, p.1 = pE → p.2 = ("ends_of.<locals>.<lambda>" : Str))
    (XE : FnX K "_law_error" sLawError gE ocE odE dVE kVE docE pmE anE cdE ctE oslE) (mE : mg "_law_error" = some (.ref gE))
    (bE : L2.Binds K (PySem.W.fnOf "_law_error" "_law_error" (defArgs sLawError) (defBody sLawError) (defScope sLawError) dVE kVE docE pmE anE cdE ctE) ["_law_call"] [])
    (XL : FnX K "law" sLaw fL ocL odL dVL kVL docL pmL anL (.ref cL) ctL oslL) (hTB : LamX.TabB base mg cL pL) (hMemL : (pL, ("law.<locals>." : Str) ++ ("<lambda>" : Str)) ∈ Tt.T) (hUL : ∀ p ∈ Tt.T, p.1 = pL → p.2 = ("law.<locals>." : Str) ++ ("<lambda>" : Str)) :
    FnOk P w K mg base CX0 14 fL (PySem.W.fnOf "law" "law" (defArgs sLaw) (defBody sLaw) (defScope sLaw) dVL kVL docL pmL anL (.ref cL) ctL) ["_law_script"] (spF (fLaw K)) := by
  have DIsInteger := dIsInteger (P := P) (w := w) (base := base) Fa.isInteger_ Fa.T
  have DIsFrom := dIsFrom (P := P) (w := w) (base := base) Fa.isFrom_ Fa.T DIsInteger
  have DIsMoods := dIsMoods (P := P) (w := w) (base := base) Fa.isMoods_ Fa.T Fa.C
  have DIsTwo := dIsTwo (P := P) (w := w) (base := base) Fa.isTwo_ Fa.T
  have DIsRule := dIsRule (P := P) (w := w) (base := base) Fa.isRule_ Fa.T DIsTwo
  have DIsCrowd := dIsCrowd (P := P) (w := w) (base := base) Fa.isCrowd_ Fa.T Fa.C DIsFrom
  have DNeedCrowd := dNeedCrowd (P := P) (w := w) (base := base) Fa.needCrowd_ DIsCrowd
  have DCountsOf := dCountsOf (P := P) (w := w) (base := base) Fa.countsOf_ Fa.T
  have DChangeOf := dChangeOf (P := P) (w := w) (base := base) Fa.changeOf_ Fa.T DCountsOf
  have DCanUse := dCanUse (P := P) (w := w) (base := base) Fa.canUse_ Fa.T DCountsOf
  have DUsable := dUsable (P := P) (w := w) (base := base) Fa.usable_ Fa.T DCanUse
  obtain ⟨DBehind, DBehind1⟩ := dBehind (P := P) (w := w) (base := base) Fa.behind_ Fa.T DChangeOf
  have DTextOf := dTextOf (P := P) (w := w) (base := base) Fa.textOf_ Fa.T
  have DBySize := dBySize (P := P) (w := w) (base := base) Fa.bySize_ Fa.T DTextOf
  have DCrowdsOf := dCrowdsOf (P := P) (w := w) (base := base) Fa.crowdsOf_ Fa.T DCountsOf
  have DCommon := dCommon (P := P) (w := w) (base := base) Fa.common_
  have DWithoutPart := dWithoutPart (P := P) (w := w) (base := base) Fa.withoutPart_ Fa.T DCommon
  have DCleared := dCleared (P := P) (w := w) (base := base) Fa.cleared_ Fa.T DWithoutPart
  have DLedRows := dLedRows (P := P) (w := w) (base := base) Fa.ledRows_ Fa.T DWithoutPart DCleared
  have DFirstPlace := dFirstPlace (P := P) (w := w) (base := base) Fa.firstPlace_ Fa.T
  have DNothingBy := dNothingBy (P := P) (w := w) (base := base) Fa.nothingBy_ Fa.T DFirstPlace DWithoutPart DLedRows
  have DLotsOf := dLotsOf (P := P) (w := w) (base := base) Fa.lotsOf_ Fa.T
  have DBalance := dBalance (P := P) (w := w) (base := base) Fa.balance_ Fa.T DChangeOf DLotsOf DNothingBy
  have DDoesRest := dDoesRest (P := P) (w := w) (base := base) Fa.doesRest_ DBalance
  have DFew := dFew (P := P) (w := w) (base := base) Fa.few_ DCrowdsOf
  have DTimesOf := dTimesOf (P := P) (w := w) (base := base) Fa.timesOf_ Fa.T DCountsOf DChangeOf
  obtain ⟨DPlus, DPlus1⟩ := dPlus (P := P) (w := w) (base := base) Fa.plus_ Fa.T Fa.C
  have DLacks := dLacks (P := P) (w := w) (base := base) Fa.lacks_ Fa.T DCountsOf
  have DStays := dStays (P := P) (w := w) (base := base) Fa.stays_ Fa.T DLacks
  have DLeapsOf := dLeapsOf (P := P) (w := w) (base := base) Fa.leapsOf_ Fa.T Fa.C Fa.TM DUsable DTimesOf DBehind
  have DComeTo := dComeTo (P := P) (w := w) (base := base) Fa.comeTo_ Fa.T DUsable DBehind1
  have DEndsOf := dEndsOf (P := P) (w := w) (base := base) FC hMemE hUE Fa.T DComeTo DUsable DBySize
  have DPartingOf := dPartingOf (P := P) (w := w) (base := base) Fa.partingOf_ Fa.T DFew DEndsOf
  have DIsFolk := dIsFolk (P := P) (w := w) (base := base) Fa.isFolk_ Fa.T Fa.C DIsMoods DIsRule
  have DNeedFolk := dNeedFolk (P := P) (w := w) (base := base) Fa.needFolk_ DIsFolk
  have DAlwaysRests := dAlwaysRests (P := P) (w := w) (base := base) Fa.alwaysRests_ DNeedFolk DDoesRest
  have DNeedRest := dNeedRest (P := P) (w := w) (base := base) Fa.needRest_ DNeedFolk DDoesRest
  have DIsOneEnded := dIsOneEnded (P := P) (w := w) (base := base) Fa.isOneEnded_ DNeedRest DPartingOf
  have DNeedOneEnded := dNeedOneEnded (P := P) (w := w) (base := base) Fa.needOneEnded_ DNeedRest DPartingOf
  have DEnd := dEnd (P := P) (w := w) (base := base) Fa.end_ DNeedOneEnded DNeedCrowd DLeapsOf
  have DNeedRay := dNeedRay (P := P) (w := w) (base := base) Fa.needRay_ DNeedOneEnded DNeedCrowd
  have DRayOf := dRayOf (P := P) (w := w) (base := base) Fa.rayOf_ Fa.T Fa.C Fa.NR DLeapsOf DPlus1 DStays
  have DRay := dRay (P := P) (w := w) (base := base) Fa.ray_ DNeedRay DRayOf
  have DOnRay := dOnRay (P := P) (w := w) (base := base) Fa.onRay_ Fa.T Fa.C DNeedRay DIsFrom DRayOf DPlus
  have D0 := dTakenX (P := P) (w := w) (base := base) Fa.lawTaken_ Fa.T
  have DLawTaken := dTaken D0
  have DLawPick := dLawPick (P := P) (w := w) (base := base) Fa.lawPick_ Fa.T DLawTaken
  have DLawTwo := dLawTwo (P := P) (w := w) (base := base) Fa.lawTwo_ Fa.T DLawPick
  have DLawMoods := dLawMoods (P := P) (w := w) (base := base) Fa.lawMoods_ Fa.T DLawPick
  have DLawCounts := dLawCounts (P := P) (w := w) (base := base) Fa.lawCounts_ Fa.T
  have DLawCrowd := dLawCrowd (P := P) (w := w) (base := base) Fa.lawCrowd_ Fa.T DLawPick DLawTaken DLawCounts
  have DLawOneFolk := dLawOneFolk (P := P) (w := w) (base := base) Fa.lawOneFolk_ Fa.T DLawTaken DLawMoods DLawTwo
  have DLawStays := dLawStays (P := P) (w := w) (base := base) Fa.lawStays_ Fa.T DLawCounts
  have DLawAlike := dLawAlike0 (P := P) (w := w) (base := base) Fa.lawAlike_
  have DLawAlike := dLawAlikeUp Fa.lawAlike_ Fa.T DLawAlike
  have DLawAlike := dLawAlikeUp Fa.lawAlike_ Fa.T DLawAlike
  have DLawAlike := dLawAlikeUp Fa.lawAlike_ Fa.T DLawAlike
  refine fn_of XL.lk XL.cd_ scLaw (fun vs H Q E h => ?_) fun A outer s H vs Q E hr h => ?_
  · obtain ⟨F1, M1, ds, d, _, r, ⟨a, rfl, _⟩, _⟩ := h
    rw [← r.len]
    rfl
  · obtain ⟨t, ht, hq⟩ := lawBody Fa.T Fa.EA XE mE bE hTB hMemL hUL DLawTaken DLawOneFolk DAlwaysRests DIsOneEnded DLawCrowd DEnd DLawStays DRay DOnRay DLawAlike A outer s H E fL hr
    exact ⟨t, ht.nox, run_sv h hq⟩
end Mf
set_option maxRecDepth 100000
set_option maxHeartbeats 8000000
/-! How the defs bind, and facts of the top told for one def. -/
namespace Mf
open PySem PySem.Spec L2 PyProof.Rows LamX
def BndF (x : Str) (st : Stmt) (ps : List Str) : Prop := ∀ (kV doc pm : Value) (an : Option Addr) (cdv ct : Value) (us : List Value), us.length = ps.length → bindArgs (PySem.W.fnOf x x (defArgs st) (defBody st) (defScope st) .none kV doc pm an cdv ct) ⟨us, []⟩ = pure (ps.zip us)
theorem FunAt.of {K : PySem.W.Frag} {mg : Str → Option Value} {h : Heap} {x : Str} {st : Stmt} {ps : List Str} {f : Addr} {oc : Value} {od : Option Addr} {kV doc pm : Value} {an : Option Addr} {cd ct : Value} {osl : Array (Option Value)} (X : K.In h) (G : h.Ns mainGlobals mg)
    (a : PySem.W.nsIn K mainGlobals x = some (some (.ref f))) (l : K.lookup f = some ⟨oc, od, .func (PySem.W.fnOf x x (defArgs st) (defBody st) (defScope st) .none kV doc pm an cd ct), osl⟩) (c : PySem.W.codeIn K cd x = true) (k : PySem.W.keepIn K (.ref f) = true) (b : BndF x st ps) : FunAt K mg x st ps :=
  ⟨f, _, ⟨⟨oc, od, kV, doc, pm, an, cd, ct, osl, rfl, l, c⟩, k⟩, PySem.W.mg_of X G a, .all (b kV doc pm an cd ct)⟩
theorem bn_isInteger : BndF "is_integer" sIsInteger ["value"] := fun _ _ _ _ _ _ us hl => match us, hl with | [_], _ => rfl
theorem bn_isFrom : BndF "is_from" sIsFrom ["value", "low", "high"] := fun _ _ _ _ _ _ us hl => match us, hl with | [_, _, _], _ => rfl
theorem bn_isMoods : BndF "is_moods" sIsMoods ["value"] := fun _ _ _ _ _ _ us hl => match us, hl with | [_], _ => rfl
theorem bn_isTwo : BndF "is_two" sIsTwo ["moods", "value"] := fun _ _ _ _ _ _ us hl => match us, hl with | [_, _], _ => rfl
theorem bn_isRule : BndF "is_rule" sIsRule ["moods", "value"] := fun _ _ _ _ _ _ us hl => match us, hl with | [_, _], _ => rfl
theorem bn_isCrowd : BndF "is_crowd" sIsCrowd ["folk", "value"] := fun _ _ _ _ _ _ us hl => match us, hl with | [_, _], _ => rfl
theorem bn_needCrowd : BndF "need_crowd" sNeedCrowd ["folk", "value"] := fun _ _ _ _ _ _ us hl => match us, hl with | [_, _], _ => rfl
theorem bn_countsOf : BndF "counts_of" sCountsOf ["moods", "text"] := fun _ _ _ _ _ _ us hl => match us, hl with | [_, _], _ => rfl
theorem bn_changeOf : BndF "change_of" sChangeOf ["folk", "rule"] := fun _ _ _ _ _ _ us hl => match us, hl with | [_, _], _ => rfl
theorem bn_canUse : BndF "can_use" sCanUse ["folk", "crowd", "rule"] := fun _ _ _ _ _ _ us hl => match us, hl with | [_, _, _], _ => rfl
theorem bn_usable : BndF "usable" sUsable ["folk", "crowd"] := fun _ _ _ _ _ _ us hl => match us, hl with | [_, _], _ => rfl
theorem bn_textOf : BndF "text_of" sTextOf ["folk", "crowd"] := fun _ _ _ _ _ _ us hl => match us, hl with | [_, _], _ => rfl
theorem bn_bySize : BndF "by_size" sBySize ["folk", "crowd"] := fun _ _ _ _ _ _ us hl => match us, hl with | [_, _], _ => rfl
theorem bn_crowdsOf : BndF "crowds_of" sCrowdsOf ["folk", "size"] := fun _ _ _ _ _ _ us hl => match us, hl with | [_, _], _ => rfl
theorem bn_common : BndF "common" sCommon ["one", "other"] := fun _ _ _ _ _ _ us hl => match us, hl with | [_, _], _ => rfl
theorem bn_withoutPart : BndF "without_part" sWithoutPart ["row"] := fun _ _ _ _ _ _ us hl => match us, hl with | [_], _ => rfl
theorem bn_cleared : BndF "cleared" sCleared ["row", "head", "at"] := fun _ _ _ _ _ _ us hl => match us, hl with | [_, _, _], _ => rfl
theorem bn_ledRows : BndF "led_rows" sLedRows ["rows"] := fun _ _ _ _ _ _ us hl => match us, hl with | [_], _ => rfl
theorem bn_firstPlace : BndF "first_place" sFirstPlace ["row"] := fun _ _ _ _ _ _ us hl => match us, hl with | [_], _ => rfl
theorem bn_nothingBy : BndF "nothing_by" sNothingBy ["rows", "size"] := fun _ _ _ _ _ _ us hl => match us, hl with | [_, _], _ => rfl
theorem bn_lotsOf : BndF "lots_of" sLotsOf ["size", "many"] := fun _ _ _ _ _ _ us hl => match us, hl with | [_, _], _ => rfl
theorem bn_balance : BndF "balance" sBalance ["folk"] := fun _ _ _ _ _ _ us hl => match us, hl with | [_], _ => rfl
theorem bn_doesRest : BndF "does_rest" sDoesRest ["folk"] := fun _ _ _ _ _ _ us hl => match us, hl with | [_], _ => rfl
theorem bn_few : BndF "few" sFew ["folk"] := fun _ _ _ _ _ _ us hl => match us, hl with | [_], _ => rfl
theorem bn_timesOf : BndF "times_of" sTimesOf ["folk", "crowd", "rule"] := fun _ _ _ _ _ _ us hl => match us, hl with | [_, _, _], _ => rfl
theorem bn_lacks : BndF "lacks" sLacks ["folk", "crowd", "gains", "rule"] := fun _ _ _ _ _ _ us hl => match us, hl with | [_, _, _, _], _ => rfl
theorem bn_stays : BndF "stays" sStays ["folk", "crowds", "gains"] := fun _ _ _ _ _ _ us hl => match us, hl with | [_, _, _], _ => rfl
theorem bn_leapsOf : BndF "leaps_of" sLeapsOf ["folk", "crowd"] := fun _ _ _ _ _ _ us hl => match us, hl with | [_, _], _ => rfl
theorem bn_comeTo : BndF "come_to" sComeTo ["folk", "crowd"] := fun _ _ _ _ _ _ us hl => match us, hl with | [_, _], _ => rfl
theorem bn_partingOf : BndF "parting_of" sPartingOf ["folk"] := fun _ _ _ _ _ _ us hl => match us, hl with | [_], _ => rfl
theorem bn_isFolk : BndF "is_folk" sIsFolk ["value"] := fun _ _ _ _ _ _ us hl => match us, hl with | [_], _ => rfl
theorem bn_needFolk : BndF "need_folk" sNeedFolk ["value"] := fun _ _ _ _ _ _ us hl => match us, hl with | [_], _ => rfl
theorem bn_alwaysRests : BndF "always_rests" sAlwaysRests ["folk"] := fun _ _ _ _ _ _ us hl => match us, hl with | [_], _ => rfl
theorem bn_needRest : BndF "need_rest" sNeedRest ["folk"] := fun _ _ _ _ _ _ us hl => match us, hl with | [_], _ => rfl
theorem bn_isOneEnded : BndF "is_one_ended" sIsOneEnded ["folk"] := fun _ _ _ _ _ _ us hl => match us, hl with | [_], _ => rfl
theorem bn_needOneEnded : BndF "need_one_ended" sNeedOneEnded ["folk"] := fun _ _ _ _ _ _ us hl => match us, hl with | [_], _ => rfl
theorem bn_end : BndF "end" sEnd ["folk", "crowd"] := fun _ _ _ _ _ _ us hl => match us, hl with | [_, _], _ => rfl
theorem bn_needRay : BndF "need_ray" sNeedRay ["folk", "crowd", "step"] := fun _ _ _ _ _ _ us hl => match us, hl with | [_, _, _], _ => rfl
theorem bn_rayOf : BndF "ray_of" sRayOf ["folk", "crowd", "step"] := fun _ _ _ _ _ _ us hl => match us, hl with | [_, _, _], _ => rfl
theorem bn_ray : BndF "ray" sRay ["folk", "crowd", "step"] := fun _ _ _ _ _ _ us hl => match us, hl with | [_, _, _], _ => rfl
theorem bn_onRay : BndF "on_ray" sOnRay ["folk", "crowd", "step", "k"] := fun _ _ _ _ _ _ us hl => match us, hl with | [_, _, _, _], _ => rfl
theorem bn_lawTaken : BndF "_law_taken" sLawTaken ["_law_row", "_law_many"] := fun _ _ _ _ _ _ us hl => match us, hl with | [_, _], _ => rfl
theorem bn_lawPick : BndF "_law_pick" sLawPick ["_law_row", "_law_things"] := fun _ _ _ _ _ _ us hl => match us, hl with | [_, _], _ => rfl
theorem bn_lawTwo : BndF "_law_two" sLawTwo ["_law_row", "_law_moods_here"] := fun _ _ _ _ _ _ us hl => match us, hl with | [_, _], _ => rfl
theorem bn_lawMoods : BndF "_law_moods" sLawMoods ["_law_row"] := fun _ _ _ _ _ _ us hl => match us, hl with | [_], _ => rfl
theorem bn_lawCounts : BndF "_law_counts" sLawCounts ["_law_moods_here", "_law_text"] := fun _ _ _ _ _ _ us hl => match us, hl with | [_, _], _ => rfl
theorem bn_lawCrowd : BndF "_law_crowd" sLawCrowd ["_law_row", "_law_folk", "_law_most"] := fun _ _ _ _ _ _ us hl => match us, hl with | [_, _, _], _ => rfl
theorem bn_lawOneFolk : BndF "_law_one_folk" sLawOneFolk ["_law_row", "_law_most"] := fun _ _ _ _ _ _ us hl => match us, hl with | [_, _], _ => rfl
theorem bn_lawStays : BndF "_law_stays" sLawStays ["_law_folk", "_law_crowds", "_law_gains"] := fun _ _ _ _ _ _ us hl => match us, hl with | [_, _, _], _ => rfl
theorem bn_lawAlike : BndF "_law_alike" sLawAlike ["_law_found", "_law_due"] := fun _ _ _ _ _ _ us hl => match us, hl with | [_, _], _ => rfl
theorem bn_lawError : BndF "_law_error" sLawError ["_law_call"] := fun _ _ _ _ _ _ us hl => match us, hl with | [_], _ => rfl
theorem bn_endsOf : BndF "ends_of" sEndsOf ["folk", "crowd"] := fun _ _ _ _ _ _ us hl => match us, hl with | [_, _], _ => rfl
theorem bn_law : BndF "law" sLaw ["_law_script"] := fun _ _ _ _ _ _ us hl => match us, hl with | [_], _ => rfl
end Mf
set_option maxRecDepth 100000
set_option maxHeartbeats 8000000
/-! Facts of the top, told for one def. -/
namespace Mf
open PySem PySem.Spec L2 PyProof.Rows LamX
def BndD (x : Str) (st : Stmt) (ps : List Str) (n j : Nat) : Prop := ∀ (T : Addr) (kV doc pm : Value) (an : Option Addr) (cdv ct : Value) (us its : List Value), us.length = n → its.length = 1 →
  ∃ k, bindArgs (PySem.W.fnOf x x (defArgs st) (defBody st) (defScope st) (.ref T) kV doc pm an cdv ct) ⟨us, []⟩ = seqItems? (.ref T) >>= k ∧ k (some its.toArray) = pure (ps.zip (us ++ its.drop j))
theorem FunAtD.of {K : PySem.W.Frag} {mg : Str → Option Value} {h : Heap} {x : Str} {st : Stmt} {ps : List Str} {f T : Addr} {oc oT : Value} {od dT : Option Addr} {kV doc pm : Value} {an : Option Addr} {cd ct : Value} {osl slT : Array (Option Value)} {n : Nat} {tk : Tok} {mm : Nat} (X : K.In h) (G : h.Ns mainGlobals mg)
    (a : PySem.W.nsIn K mainGlobals x = some (some (.ref f))) (l : K.lookup f = some ⟨oc, od, .func (PySem.W.fnOf x x (defArgs st) (defBody st) (defScope st) (.ref T) kV doc pm an cd ct), osl⟩) (c : PySem.W.codeIn K cd x = true) (k : PySem.W.keepIn K (.ref f) = true)
    (lT : K.lookup T = some ⟨oT, dT, .seq #[.int 1 tk] mm, slT⟩) (hn : n + 1 = ps.length) (b0 : BndD x st ps (n + 1) 1) (b1 : BndD x st ps n 0) : FunAtD K mg x st ps [.int 1] := by
  have F : FunD K x x (defArgs st) (defBody st) (defScope st) [.int 1] [] f (PySem.W.fnOf x x (defArgs st) (defBody st) (defScope st) (.ref T) kV doc pm an cd ct) :=
    ⟨⟨oc, od, .ref T, kV, doc, pm, an, cd, ct, osl, rfl, l, c, .inr ⟨by simp, T, _, [.int 1 tk], mm, rfl, lT, rfl, .cons ⟨tk, rfl⟩ .nil⟩, .inl rfl⟩, k⟩
  obtain ⟨d0, v0, B0⟩ := F.binds1 (ps := ps) (n + 1) 1 (by simp) (by show n + 1 + 0 = _; omega) fun T kV doc pm an cdv ct us its h1 h2 => b0 T kV doc pm an cdv ct us its h1 h2
  obtain ⟨d1, v1, B1⟩ := F.binds1 (ps := ps) n 0 (by simp) (by show n + 1 = _; omega) fun T kV doc pm an cdv ct us its h1 h2 => b1 T kV doc pm an cdv ct us its h1 h2
  cases v0
  exact ⟨f, _, F, PySem.W.mg_of X G a, B0, d1, v1, B1⟩
theorem bn_behind4 : BndD "behind" sBehind ["folk", "crowd", "rule", "times"] 4 1 := fun _ _ _ _ _ _ _ us its hl h2 => match us, its, hl, h2 with | [_, _, _, _], [_], _, _ => ⟨_, rfl, rfl⟩
theorem bn_behind3 : BndD "behind" sBehind ["folk", "crowd", "rule", "times"] 3 0 := fun _ _ _ _ _ _ _ us its hl h2 => match us, its, hl, h2 with | [_, _, _], [_], _, _ => ⟨_, rfl, rfl⟩
theorem bn_plus3 : BndD "plus" sPlus ["one", "other", "times"] 3 1 := fun _ _ _ _ _ _ _ us its hl h2 => match us, its, hl, h2 with | [_, _, _], [_], _, _ => ⟨_, rfl, rfl⟩
theorem bn_plus2 : BndD "plus" sPlus ["one", "other", "times"] 2 0 := fun _ _ _ _ _ _ _ us its hl h2 => match us, its, hl, h2 with | [_, _], [_], _, _ => ⟨_, rfl, rfl⟩
/-- an own def with a table: all but what is said of the base -/
structure FnT (K : PySem.W.Frag) (mg : Str → Option Value) (x : Str) (st : Stmt) (c Pt : Addr) (f : Addr) (oc : Value) (od : Option Addr) (kV doc pm : Value) (an : Option Addr) (ct : Value) (osl : Array (Option Value)) : Prop where
  X : FnX K x st f oc od .none kV doc pm an (.ref c) ct osl
  m : mg x = some (.ref f)
  hd : PySem.W.codeHdIn K c Pt = true
  no : K.lookup Pt = none
theorem FnT.of {K : PySem.W.Frag} {mg : Str → Option Value} {h : Heap} {x : Str} {st : Stmt} {c Pt f : Addr} {oc : Value} {od : Option Addr} {kV doc pm : Value} {an : Option Addr} {ct : Value} {osl : Array (Option Value)} (X : K.In h) (G : h.Ns mainGlobals mg)
    (a : PySem.W.nsIn K mainGlobals x = some (some (.ref f))) (l : K.lookup f = some ⟨oc, od, .func (PySem.W.fnOf x x (defArgs st) (defBody st) (defScope st) .none kV doc pm an (.ref c) ct), osl⟩) (cc : PySem.W.codeIn K (.ref c) x = true) (k : PySem.W.keepIn K (.ref f) = true) (hd : PySem.W.codeHdIn K c Pt = true) (no : K.lookup Pt = none) :
    FnT K mg x st c Pt f oc od kV doc pm an ct osl := ⟨⟨l, cc, k⟩, PySem.W.mg_of X G a, hd, no⟩
theorem FnT.c {K : PySem.W.Frag} {mg : Str → Option Value} {base : Heap} {x : Str} {st : Stmt} {ps : List Str} {c Pt f : Addr} {oc : Value} {od : Option Addr} {kV doc pm : Value} {an : Option Addr} {ct : Value} {osl : Array (Option Value)} (F : FnT K mg x st c Pt f oc od kV doc pm an ct osl) (b : BndF x st ps) (tb : TabB base mg c Pt) : FunAtC K mg base x st ps c Pt :=
  ⟨f, oc, od, kV, doc, pm, an, ct, osl, F.X.lk, F.X.cd_, F.X.kp, F.m, .all (b kV doc pm an (.ref c) ct), tb⟩
/-- the law's end, of the facts that the top leaves -/
theorem law_at {w : World} {K : PySem.W.Frag} {mg : Str → Option Value} {h : Heap} {CN CT CF cE pE cL pL gE fE fL : Addr} {ocG : Value} {odG : Option Addr} {kVG docG pmG : Value} {anG : Option Addr} {cdG ctG : Value} {oslG : Array (Option Value)}
    {ocL : Value} {odL : Option Addr} {kVL docL pmL : Value} {anL : Option Addr} {ctL : Value} {oslL : Array (Option Value)} {ocE : Value} {odE : Option Addr} {kVE docE pmE : Value} {anE : Option Addr} {ctE : Value} {oslE : Array (Option Value)} (X : K.In h)
    (Fa : letI : Tt := ⟨[(pL, ("law.<locals>." : Str) ++ ("<lambda>" : Str)), (pE, ("ends_of.<locals>.<lambda>" : Str))]⟩; letI : Xw := ⟨fun _ _ _ => False⟩; Facts (PySem.Challenge.rw_meetfolk_k07_whole_rays).prog K mg CN CT CF)
    (XG : letI : Tt := ⟨[(pL, ("law.<locals>." : Str) ++ ("<lambda>" : Str)), (pE, ("ends_of.<locals>.<lambda>" : Str))]⟩; letI : Xw := ⟨fun _ _ _ => False⟩; FnX K "_law_error" sLawError gE ocG odG .none kVG docG pmG anG cdG ctG oslG) (mG : mg "_law_error" = some (.ref gE))
    (FE : FnT K mg "ends_of" sEndsOf cE pE fE ocE odE kVE docE pmE anE ctE oslE) (FL : FnT K mg "law" sLaw cL pL fL ocL odL kVL docL pmL anL ctL oslL) (hne : pL ≠ pE)
    (tL : h.get? pL = some { cls := .none, data := .fields #[] }) (tE : h.get? pE = some { cls := .none, data := .fields #[] }) :
    LawAtS PySem.Challenge.rw_meetfolk_k07_whole_rays w K CX0 14 63 "_law_script" mg fL h := by
  letI : Tt := ⟨[(pL, ("law.<locals>." : Str) ++ ("<lambda>" : Str)), (pE, ("ends_of.<locals>.<lambda>" : Str))]⟩
  letI : Xw := ⟨fun _ _ _ => False⟩
  refine ⟨_, [(cL, pL), (cE, pE)], spF (fLaw K), ?_, ?_, ?_, fun s u => .of_eq (bn_law kVL docL pmL anL (.ref cL) ctL [u] rfl), fun H a ns hl hz hT hS => ?_, fun base hK hG hB => ?_⟩
  · intro p hp
    rcases List.mem_cons.mp hp with rfl | hp
    · exact tL
    · rw [List.mem_singleton.mp hp]
      exact tE
  · intro p hp
    rcases List.mem_cons.mp hp with rfl | hp
    · exact FL.no
    · rw [List.mem_singleton.mp hp]
      exact FE.no
  · intro p hp
    rcases List.mem_cons.mp hp with rfl | hp
    · exact PySem.W.codeHd_of_K X FL.hd
    · rw [List.mem_singleton.mp hp]
      exact PySem.W.codeHd_of_K X FE.hd
  · have h1 := hT (cL, pL) List.mem_cons_self
    have h2 := hT (cE, pE) (List.mem_cons_of_mem _ List.mem_cons_self)
    have tabs : LamX.Tabs Tt.T H := fun p hp => by
      have hp : p ∈ [(pL, ("law.<locals>." : Str) ++ ("<lambda>" : Str)), (pE, ("ends_of.<locals>.<lambda>" : Str))] := hp
      rcases List.mem_cons.mp hp with rfl | hp
      · exact LamX.TabS.nil h1
      · rw [List.mem_singleton.mp hp]
        exact LamX.TabS.nil h2
    have pick : ∃ F0 : Hp, Same F0 H ∧ (∀ b ps, F0 b ≠ some (.tbl ps)) ∧ SqL K F0 a (ns.map V.int) := by
      have one : ∀ o : HO, H a = some o → (∀ ps, o ≠ .tbl ps) → Same (fun b => if b = a then some o else none) H ∧ ∀ b ps, (if b = a then some o else none) ≠ some (HO.tbl ps) := fun o ho hn => by
        refine ⟨fun b u e => ?_, fun b ps e => ?_⟩
        · by_cases hb : b = a
          · have e : some o = some u := (if_pos hb).symm.trans e
            rw [hb, ho, e]
          · have e : none = some u := (if_neg hb).symm.trans e
            cases e
        · by_cases hb : b = a
          · have e : some o = some (HO.tbl ps) := (if_pos hb).symm.trans e
            exact hn ps (Option.some.inj e)
          · have e : none = some (HO.tbl ps) := (if_neg hb).symm.trans e
            cases e
      rcases hS with (z | ⟨o, z⟩) | z
      · exact ⟨_, (one _ z fun ps q => by cases q).1, (one _ z fun ps q => by cases q).2, .inl (.inl (if_pos rfl))⟩
      · exact ⟨_, (one _ z fun ps q => by cases q).1, (one _ z fun ps q => by cases q).2, .inl (.inr ⟨o, if_pos rfl⟩)⟩
      · exact ⟨fun _ => none, (fun b u e => nomatch e), (fun b ps e => nomatch e), .inr z⟩
    obtain ⟨F0, hF0, hF1, hF2⟩ := pick
    refine ⟨F0, fun _ => none, [scrA K a], .bl true, ⟨hF0, (fun b o e => nomatch e), fun b => .inr rfl, tabs, hF1, (fun b o e => nomatch e)⟩, .cons (.own fun F' e => ⟨ns, sq_mono hF2 e⟩) .nil, ⟨a, rfl, rfl⟩, fun v F2 H2 e2 w2 r2 => ?_⟩
    cases r2
    rfl
  · have B1 := hB (cL, pL) List.mem_cons_self
    have B2 := hB (cE, pE) (List.mem_cons_of_mem _ List.mem_cons_self)
    refine law_fn (gE := gE) (cL := cL) (pL := pL) (cE := cE) (pE := pE) Fa (FE.c bn_endsOf B2) (List.mem_cons_of_mem _ List.mem_cons_self) (fun p hp hq => ?_) XG mG (.all (bn_lawError _ _ _ _ _ _)) FL.X B1 List.mem_cons_self (fun p hp hq => ?_)
    · have hp : p ∈ [(pL, ("law.<locals>." : Str) ++ ("<lambda>" : Str)), (pE, ("ends_of.<locals>.<lambda>" : Str))] := hp
      rcases List.mem_cons.mp hp with rfl | hp
      · exact absurd hq hne
      · rw [List.mem_singleton.mp hp]
    · have hp : p ∈ [(pL, ("law.<locals>." : Str) ++ ("<lambda>" : Str)), (pE, ("ends_of.<locals>.<lambda>" : Str))] := hp
      rcases List.mem_cons.mp hp with rfl | hp
      · rfl
      · rw [List.mem_singleton.mp hp] at hq
        exact absurd hq.symm hne
end Mf
set_option maxRecDepth 100000
set_option maxHeartbeats 8000000
/-! Facts of the top: names, constants, classes. -/
namespace Mf
open PySem PySem.Spec L2 PyProof.Rows LamX
section
variable {K : PySem.W.Frag} {mg : Str → Option Value} {h : Heap}
theorem Bts.of (X : K.In h) (G : h.Ns mainGlobals mg) (h1 : PySem.W.nsIn K mainGlobals "isinstance" = some none) (h2 : PySem.W.nsIn K mainGlobals "int" = some none) (h3 : PySem.W.nsIn K mainGlobals "bool" = some none) (h4 : PySem.W.nsIn K mainGlobals "str" = some none) (h5 : PySem.W.nsIn K mainGlobals "tuple" = some none) (h6 : PySem.W.nsIn K mainGlobals "list" = some none) (h7 : PySem.W.nsIn K mainGlobals "dict" = some none)
    (h8 : PySem.W.nsIn K mainGlobals "len" = some none) (h9 : PySem.W.nsIn K mainGlobals "all" = some none) (h10 : PySem.W.nsIn K mainGlobals "any" = some none) (h11 : PySem.W.nsIn K mainGlobals "zip" = some none) (h12 : PySem.W.nsIn K mainGlobals "set" = some none) (h13 : PySem.W.nsIn K mainGlobals "sum" = some none) (h14 : PySem.W.nsIn K mainGlobals "range" = some none)
    (h15 : PySem.W.nsIn K mainGlobals "abs" = some none) (h16 : PySem.W.nsIn K mainGlobals "enumerate" = some none) (h17 : PySem.W.nsIn K mainGlobals "min" = some none) (h18 : PySem.W.nsIn K mainGlobals "max" = some none) (h19 : PySem.W.nsIn K mainGlobals "sorted" = some none) (h20 : PySem.W.nsIn K mainGlobals "ValueError" = some none) : Bts mg :=
  have f : ∀ {x : Str}, PySem.W.nsIn K mainGlobals x = some none → mg x = none := fun e => PySem.W.mg_none_of X G e
  ⟨f h1, f h2, f h3, f h4, f h5, f h6, f h7, f h8, f h9, f h10, f h11, f h12, f h13, f h14, f h15, f h16, f h17, f h18, f h19, f h20⟩
theorem Cst.of {t1 t2 t3 t4 t5 t6 t7 : Tok} (X : K.In h) (G : h.Ns mainGlobals mg) (h1 : PySem.W.nsIn K mainGlobals "SMALL" = some (some (.str "abcdefghijklmnopqrstuvwxyz" t1))) (h2 : PySem.W.nsIn K mainGlobals "MOST_MOODS" = some (some (.int 6 t2))) (h3 : PySem.W.nsIn K mainGlobals "MOST_RULES" = some (some (.int 12 t3)))
    (h4 : PySem.W.nsIn K mainGlobals "MOST_FOLK" = some (some (.int (10 ^ 40) t4))) (h5 : PySem.W.nsIn K mainGlobals "MOST_LEAPS" = some (some (.int 5000 t5))) (h6 : PySem.W.nsIn K mainGlobals "MOST_STEPS" = some (some (.int 40 t6))) (h7 : PySem.W.nsIn K mainGlobals "MOST_TOLD" = some (some (.int (10 ^ 30) t7))) : Cst mg :=
  ⟨⟨_, PySem.W.mg_of X G h1⟩, ⟨_, PySem.W.mg_of X G h2⟩, ⟨_, PySem.W.mg_of X G h3⟩, ⟨_, PySem.W.mg_of X G h4⟩, ⟨_, PySem.W.mg_of X G h5⟩, ⟨_, PySem.W.mg_of X G h6⟩, ⟨_, PySem.W.mg_of X G h7⟩⟩
theorem NrAt.of {C : Addr} (X : K.In h) (G : h.Ns mainGlobals mg) (a : PySem.W.nsIn K mainGlobals "NoRay" = some (some (.ref C))) (q : PySem.W.excIn K C veMro "ValueError.__new__" = true) (k : PySem.W.keepIn K (.ref C) = true) (e : PySem.W.subIn K (.ref C) (.type "BaseException") = some true) (t : PySem.W.typeIn K (.ref C) = some (.type "type")) : NrAt K mg C :=
  ⟨q, PySem.W.mg_of X G a, k, e, t⟩
theorem ErrAt.of {CN CT CF : Addr} (X : K.In h) (G : h.Ns mainGlobals mg) (a1 : PySem.W.nsIn K mainGlobals "NoRay" = some (some (.ref CN))) (a2 : PySem.W.nsIn K mainGlobals "TooMany" = some (some (.ref CT))) (a3 : PySem.W.nsIn K mainGlobals "FolkError" = some (some (.ref CF)))
    (nn : PySem.W.exmOne K (.ref CN) (.ref CN) = some true) (tn : PySem.W.exmOne K (.ref CT) (.ref CN) = some false) (tt : PySem.W.exmOne K (.ref CT) (.ref CT) = some true)
    (x1 : PySem.W.findIn K (.ref CT) "__getattribute__" = some (some (.builtin "BaseException.__getattribute__"))) (x2 : PySem.W.findIn K (.ref CT) "__getattr__" = some none) (x3 : PySem.W.subIn K (.ref CT) (.type "BaseException") = some true) (x4 : PySem.W.hasDictIn K CT = true)
    (fld : PySem.W.findIn K (.ref CT) "most" = some none) (cl : (PySem.W.clsIn K CT).isSome = true) (dc : PySem.W.findIn K (.ref CT) "__class__" = some (some (.builtin "object.__class__"))) (sp : PySem.W.specialIn K (.builtin "object.__class__") "__get__" = some (some (.builtin "getset_descriptor.__get__")))
    (tk : PySem.W.takesIn K (.builtin "object.__class__") = some true) (mro : PySem.W.mroIn K CT (.type "object") = some true) (ve : PySem.W.kitOne K (.ref CT) (.type "ValueError") = some true) : ErrAt K mg CN CT CF :=
  ⟨PySem.W.mg_of X G a1, PySem.W.mg_of X G a2, PySem.W.mg_of X G a3, nn, tn, tt, ⟨x1, x2, x3, x4⟩, fld, ⟨cl, x1, x2, x3, dc, sp, tk, mro⟩, ve⟩
abbrev Plaw : Program := (PySem.Challenge.rw_meetfolk_k07_whole_rays).prog
theorem TmAt.of {C fI cc cda N : Addr} {oc cl ccl : Value} {od cld cdd : Option Addr} {kV doc pm ct : Value} {an : Option Addr} {osl csl ccs : Array (Option Value)} {vs : Array Value} {tf : Tok} {file : Str}
    {nm q : Str} {bs bm sub : List Value} {sn : List Str} {ab : Bool} {col : Option Bool} {dd : Option Addr} {k0 k1 k2 k3 k5 : Option Value} (X : K.In h) (G : h.Ns mainGlobals mg)
    (a : PySem.W.nsIn K mainGlobals "TooMany" = some (some (.ref C))) (su : PySem.W.nsIn K mainGlobals "super" = some none) (lC : K.lookup C = some (PySem.excClassObj nm q C N bs bm true sn sub ab col dd k0 k1 k2 k3 k5 "ValueError.__new__")) (rv : PySem.HandSPX.refsVE bm = true)
    (sa : PySem.W.findIn K (.ref C) "__setattr__" = some (some (.builtin "object.__setattr__"))) (exC : PySem.W.subIn K (.ref C) (.type "BaseException") = some true) (tyC : PySem.W.typeIn K (.ref C) = some (.type "type")) (kC : PySem.W.keepIn K (.ref C) = true)
    (f1 : PySem.W.findIn K (.ref C) "__init__" = some (some (.ref fI))) (f2 : PySem.W.typeIn K (.ref fI) = some (.type "function")) (f3 : K.lookup fI = some ⟨oc, od, .func (PySem.W.ksFn "__init__" "TooMany.__init__" (defArgs sTmInit) (defBody sTmInit) (defScope sTmInit) .none kV doc pm an (.ref cda) ct cc), osl⟩) (f4 : PySem.W.codeIn K (.ref cda) "TooMany.__init__" = true)
    (f5 : K.lookup cc = some ⟨cl, cld, .cell (some (.ref C)), csl⟩) (f6 : K.lookup cda = some ⟨ccl, cdd, .fields vs, ccs⟩) (f7 : vs[2]? = some (.str file tf)) (f8 : ((Plaw.main.file : Str) == file) = true)
    (m1 : PySem.W.mroIn K C (.ref C) = some true) (m2 : PySem.W.ks_superIn K C C "__init__" = some (some (.builtin "ValueError.__init__"))) (m3 : PySem.W.subIn K (.ref C) (.type "ValueError") = some true) (m4 : PySem.W.nsIn K cStatics "thirdparty.any" = some none) (m5 : PySem.W.findIn K (.ref C) "most" = some none) : TmAt Plaw K mg C where
  T := { T := ⟨⟨_, _, _, _, _, _, _, _, _, _, _, _, _, _, _, lC, rv⟩, sa, exC, tyC, kC⟩, ex := ⟨fI, cc, cda, oc, od, kV, doc, pm, ct, an, osl, cl, cld, csl, ccl, cdd, vs, ccs, file, tf, f1, f2, f3, f4, f5, f6, f7, f8⟩, mro := m1, sup := m2, sub := m3, stat := m4, most := m5,
         top := by decide +kernel, boot := by first | rfl | decide +kernel, k := rfl, co := rfl, gen := rfl, cell := by decide +kernel, nS := rfl, nC := rfl, n0 := rfl, n1 := rfl }
  m := PySem.W.mg_of X G a
  sup := PySem.W.mg_none_of X G su
end
end Mf
set_option maxRecDepth 100000
set_option maxHeartbeats 8000000
/-! The end: the head, the facts, the law. -/
namespace Mf
open PySem PySem.Spec L2 PyProof.Rows LamX
theorem FnX.of {K : PySem.W.Frag} {mg : Str → Option Value} {h : Heap} {x : Str} {st : Stmt} {f : Addr} {oc : Value} {od : Option Addr} {kV doc pm : Value} {an : Option Addr} {cd ct : Value} {osl : Array (Option Value)} (X : K.In h) (G : h.Ns mainGlobals mg)
    (a : PySem.W.nsIn K mainGlobals x = some (some (.ref f))) (l : K.lookup f = some ⟨oc, od, .func (PySem.W.fnOf x x (defArgs st) (defBody st) (defScope st) .none kV doc pm an cd ct), osl⟩) (c : PySem.W.codeIn K cd x = true) (k : PySem.W.keepIn K (.ref f) = true) :
    FnX K x st f oc od .none kV doc pm an cd ct osl ∧ mg x = some (.ref f) := ⟨⟨l, c, k⟩, PySem.W.mg_of X G a⟩
end Mf
open PySem PySem.W PyProof.Rows
theorem PySem.Challenge.cw_meetfolk_k07_whole_rays_holds : PySem.Challenge.rw_meetfolk_k07_whole_rays.Holds := by
  w_on; o_law
  k_head
  (case hw => w_witness2)
  k_fill
  refine LamX.walk_ofTs (l := PySem.Challenge.rw_meetfolk_k07_whole_rays) (n := 63) (k := 14) (x := "_law_script") (CX := fun _ => L2.CX0) rfl (by decide) rfl ⟨rfl, by decide, by decide⟩ (fun w h Y => PySem.W.km_in_of Y) ?F (fun _ _ _ _ _ z => z)
  case F =>
    intro w mg fa h Y X G hmg0
    have tt := PySem.W.km_tabs_of Y
    have tL := tt 454 (by decide)
    have tE := tt 300 (by decide)
    have hmg : mg ("law" : PySem.Str) = some (.ref fa) := hmg0
    have f_isInteger := Mf.FunAt.of (x := "is_integer") (st := Mf.sIsInteger) (ps := ["value"]) X G (by k_is) (by k_is) (by k_is) (by k_is) Mf.bn_isInteger
    have f_isFrom := Mf.FunAt.of (x := "is_from") (st := Mf.sIsFrom) (ps := ["value", "low", "high"]) X G (by k_is) (by k_is) (by k_is) (by k_is) Mf.bn_isFrom
    have f_isMoods := Mf.FunAt.of (x := "is_moods") (st := Mf.sIsMoods) (ps := ["value"]) X G (by k_is) (by k_is) (by k_is) (by k_is) Mf.bn_isMoods
    have f_isTwo := Mf.FunAt.of (x := "is_two") (st := Mf.sIsTwo) (ps := ["moods", "value"]) X G (by k_is) (by k_is) (by k_is) (by k_is) Mf.bn_isTwo
    have f_isRule := Mf.FunAt.of (x := "is_rule") (st := Mf.sIsRule) (ps := ["moods", "value"]) X G (by k_is) (by k_is) (by k_is) (by k_is) Mf.bn_isRule
    have f_isCrowd := Mf.FunAt.of (x := "is_crowd") (st := Mf.sIsCrowd) (ps := ["folk", "value"]) X G (by k_is) (by k_is) (by k_is) (by k_is) Mf.bn_isCrowd
    have f_needCrowd := Mf.FunAt.of (x := "need_crowd") (st := Mf.sNeedCrowd) (ps := ["folk", "value"]) X G (by k_is) (by k_is) (by k_is) (by k_is) Mf.bn_needCrowd
    have f_countsOf := Mf.FunAt.of (x := "counts_of") (st := Mf.sCountsOf) (ps := ["moods", "text"]) X G (by k_is) (by k_is) (by k_is) (by k_is) Mf.bn_countsOf
    have f_changeOf := Mf.FunAt.of (x := "change_of") (st := Mf.sChangeOf) (ps := ["folk", "rule"]) X G (by k_is) (by k_is) (by k_is) (by k_is) Mf.bn_changeOf
    have f_canUse := Mf.FunAt.of (x := "can_use") (st := Mf.sCanUse) (ps := ["folk", "crowd", "rule"]) X G (by k_is) (by k_is) (by k_is) (by k_is) Mf.bn_canUse
    have f_usable := Mf.FunAt.of (x := "usable") (st := Mf.sUsable) (ps := ["folk", "crowd"]) X G (by k_is) (by k_is) (by k_is) (by k_is) Mf.bn_usable
    have f_behind := Mf.FunAtD.of (x := "behind") (st := Mf.sBehind) (ps := ["folk", "crowd", "rule", "times"]) (n := 3) X G (by k_is) (by k_is) (by k_is) (by k_is) (by k_is) rfl Mf.bn_behind4 Mf.bn_behind3
    have f_textOf := Mf.FunAt.of (x := "text_of") (st := Mf.sTextOf) (ps := ["folk", "crowd"]) X G (by k_is) (by k_is) (by k_is) (by k_is) Mf.bn_textOf
    have f_bySize := Mf.FunAt.of (x := "by_size") (st := Mf.sBySize) (ps := ["folk", "crowd"]) X G (by k_is) (by k_is) (by k_is) (by k_is) Mf.bn_bySize
    have f_crowdsOf := Mf.FunAt.of (x := "crowds_of") (st := Mf.sCrowdsOf) (ps := ["folk", "size"]) X G (by k_is) (by k_is) (by k_is) (by k_is) Mf.bn_crowdsOf
    have f_common := Mf.FunAt.of (x := "common") (st := Mf.sCommon) (ps := ["one", "other"]) X G (by k_is) (by k_is) (by k_is) (by k_is) Mf.bn_common
    have f_withoutPart := Mf.FunAt.of (x := "without_part") (st := Mf.sWithoutPart) (ps := ["row"]) X G (by k_is) (by k_is) (by k_is) (by k_is) Mf.bn_withoutPart
    have f_cleared := Mf.FunAt.of (x := "cleared") (st := Mf.sCleared) (ps := ["row", "head", "at"]) X G (by k_is) (by k_is) (by k_is) (by k_is) Mf.bn_cleared
    have f_ledRows := Mf.FunAt.of (x := "led_rows") (st := Mf.sLedRows) (ps := ["rows"]) X G (by k_is) (by k_is) (by k_is) (by k_is) Mf.bn_ledRows
    have f_firstPlace := Mf.FunAt.of (x := "first_place") (st := Mf.sFirstPlace) (ps := ["row"]) X G (by k_is) (by k_is) (by k_is) (by k_is) Mf.bn_firstPlace
    have f_nothingBy := Mf.FunAt.of (x := "nothing_by") (st := Mf.sNothingBy) (ps := ["rows", "size"]) X G (by k_is) (by k_is) (by k_is) (by k_is) Mf.bn_nothingBy
    have f_lotsOf := Mf.FunAt.of (x := "lots_of") (st := Mf.sLotsOf) (ps := ["size", "many"]) X G (by k_is) (by k_is) (by k_is) (by k_is) Mf.bn_lotsOf
    have f_balance := Mf.FunAt.of (x := "balance") (st := Mf.sBalance) (ps := ["folk"]) X G (by k_is) (by k_is) (by k_is) (by k_is) Mf.bn_balance
    have f_doesRest := Mf.FunAt.of (x := "does_rest") (st := Mf.sDoesRest) (ps := ["folk"]) X G (by k_is) (by k_is) (by k_is) (by k_is) Mf.bn_doesRest
    have f_few := Mf.FunAt.of (x := "few") (st := Mf.sFew) (ps := ["folk"]) X G (by k_is) (by k_is) (by k_is) (by k_is) Mf.bn_few
    have f_timesOf := Mf.FunAt.of (x := "times_of") (st := Mf.sTimesOf) (ps := ["folk", "crowd", "rule"]) X G (by k_is) (by k_is) (by k_is) (by k_is) Mf.bn_timesOf
    have f_plus := Mf.FunAtD.of (x := "plus") (st := Mf.sPlus) (ps := ["one", "other", "times"]) (n := 2) X G (by k_is) (by k_is) (by k_is) (by k_is) (by k_is) rfl Mf.bn_plus3 Mf.bn_plus2
    have f_lacks := Mf.FunAt.of (x := "lacks") (st := Mf.sLacks) (ps := ["folk", "crowd", "gains", "rule"]) X G (by k_is) (by k_is) (by k_is) (by k_is) Mf.bn_lacks
    have f_stays := Mf.FunAt.of (x := "stays") (st := Mf.sStays) (ps := ["folk", "crowds", "gains"]) X G (by k_is) (by k_is) (by k_is) (by k_is) Mf.bn_stays
    have f_leapsOf := Mf.FunAt.of (x := "leaps_of") (st := Mf.sLeapsOf) (ps := ["folk", "crowd"]) X G (by k_is) (by k_is) (by k_is) (by k_is) Mf.bn_leapsOf
    have f_comeTo := Mf.FunAt.of (x := "come_to") (st := Mf.sComeTo) (ps := ["folk", "crowd"]) X G (by k_is) (by k_is) (by k_is) (by k_is) Mf.bn_comeTo
    have f_partingOf := Mf.FunAt.of (x := "parting_of") (st := Mf.sPartingOf) (ps := ["folk"]) X G (by k_is) (by k_is) (by k_is) (by k_is) Mf.bn_partingOf
    have f_isFolk := Mf.FunAt.of (x := "is_folk") (st := Mf.sIsFolk) (ps := ["value"]) X G (by k_is) (by k_is) (by k_is) (by k_is) Mf.bn_isFolk
    have f_needFolk := Mf.FunAt.of (x := "need_folk") (st := Mf.sNeedFolk) (ps := ["value"]) X G (by k_is) (by k_is) (by k_is) (by k_is) Mf.bn_needFolk
    have f_alwaysRests := Mf.FunAt.of (x := "always_rests") (st := Mf.sAlwaysRests) (ps := ["folk"]) X G (by k_is) (by k_is) (by k_is) (by k_is) Mf.bn_alwaysRests
    have f_needRest := Mf.FunAt.of (x := "need_rest") (st := Mf.sNeedRest) (ps := ["folk"]) X G (by k_is) (by k_is) (by k_is) (by k_is) Mf.bn_needRest
    have f_isOneEnded := Mf.FunAt.of (x := "is_one_ended") (st := Mf.sIsOneEnded) (ps := ["folk"]) X G (by k_is) (by k_is) (by k_is) (by k_is) Mf.bn_isOneEnded
    have f_needOneEnded := Mf.FunAt.of (x := "need_one_ended") (st := Mf.sNeedOneEnded) (ps := ["folk"]) X G (by k_is) (by k_is) (by k_is) (by k_is) Mf.bn_needOneEnded
    have f_end := Mf.FunAt.of (x := "end") (st := Mf.sEnd) (ps := ["folk", "crowd"]) X G (by k_is) (by k_is) (by k_is) (by k_is) Mf.bn_end
    have f_needRay := Mf.FunAt.of (x := "need_ray") (st := Mf.sNeedRay) (ps := ["folk", "crowd", "step"]) X G (by k_is) (by k_is) (by k_is) (by k_is) Mf.bn_needRay
    have f_rayOf := Mf.FunAt.of (x := "ray_of") (st := Mf.sRayOf) (ps := ["folk", "crowd", "step"]) X G (by k_is) (by k_is) (by k_is) (by k_is) Mf.bn_rayOf
    have f_ray := Mf.FunAt.of (x := "ray") (st := Mf.sRay) (ps := ["folk", "crowd", "step"]) X G (by k_is) (by k_is) (by k_is) (by k_is) Mf.bn_ray
    have f_onRay := Mf.FunAt.of (x := "on_ray") (st := Mf.sOnRay) (ps := ["folk", "crowd", "step", "k"]) X G (by k_is) (by k_is) (by k_is) (by k_is) Mf.bn_onRay
    have f_lawTaken := Mf.FunAt.of (x := "_law_taken") (st := Mf.sLawTaken) (ps := ["_law_row", "_law_many"]) X G (by k_is) (by k_is) (by k_is) (by k_is) Mf.bn_lawTaken
    have f_lawPick := Mf.FunAt.of (x := "_law_pick") (st := Mf.sLawPick) (ps := ["_law_row", "_law_things"]) X G (by k_is) (by k_is) (by k_is) (by k_is) Mf.bn_lawPick
    have f_lawTwo := Mf.FunAt.of (x := "_law_two") (st := Mf.sLawTwo) (ps := ["_law_row", "_law_moods_here"]) X G (by k_is) (by k_is) (by k_is) (by k_is) Mf.bn_lawTwo
    have f_lawMoods := Mf.FunAt.of (x := "_law_moods") (st := Mf.sLawMoods) (ps := ["_law_row"]) X G (by k_is) (by k_is) (by k_is) (by k_is) Mf.bn_lawMoods
    have f_lawCounts := Mf.FunAt.of (x := "_law_counts") (st := Mf.sLawCounts) (ps := ["_law_moods_here", "_law_text"]) X G (by k_is) (by k_is) (by k_is) (by k_is) Mf.bn_lawCounts
    have f_lawCrowd := Mf.FunAt.of (x := "_law_crowd") (st := Mf.sLawCrowd) (ps := ["_law_row", "_law_folk", "_law_most"]) X G (by k_is) (by k_is) (by k_is) (by k_is) Mf.bn_lawCrowd
    have f_lawOneFolk := Mf.FunAt.of (x := "_law_one_folk") (st := Mf.sLawOneFolk) (ps := ["_law_row", "_law_most"]) X G (by k_is) (by k_is) (by k_is) (by k_is) Mf.bn_lawOneFolk
    have f_lawStays := Mf.FunAt.of (x := "_law_stays") (st := Mf.sLawStays) (ps := ["_law_folk", "_law_crowds", "_law_gains"]) X G (by k_is) (by k_is) (by k_is) (by k_is) Mf.bn_lawStays
    have f_lawAlike := Mf.FunAt.of (x := "_law_alike") (st := Mf.sLawAlike) (ps := ["_law_found", "_law_due"]) X G (by k_is) (by k_is) (by k_is) (by k_is) Mf.bn_lawAlike
    have fT := Mf.Bts.of X G (by k_is) (by k_is) (by k_is) (by k_is) (by k_is) (by k_is) (by k_is) (by k_is) (by k_is) (by k_is) (by k_is) (by k_is) (by k_is) (by k_is) (by k_is) (by k_is) (by k_is) (by k_is) (by k_is) (by k_is)
    have fC := Mf.Cst.of X G (by k_is) (by k_is) (by k_is) (by k_is) (by k_is) (by k_is) (by k_is)
    have fTM := Mf.TmAt.of X G (by k_is) (by k_is) (by k_is) (by decide +kernel) (by k_is) (by k_is) (by k_is) (by k_is) (by k_is) (by k_is) (by k_is) (by k_is) (by k_is) (by k_is) rfl (by decide +kernel) (by k_is) (by ks_is) (by k_is) (by k_is) (by k_is)
    have fNR := Mf.NrAt.of X G (by k_is) (by k_exc) (by k_is) (by k_is) (by k_is)
    have fEA := Mf.ErrAt.of X G (by k_is) (by k_is) (by k_is) (by kts_exm) (by kts_exm) (by kts_exm) (by k_is) (by k_is) (by k_is) (by k_is) (by k_is) (by kernel_rfl) (by k_is) (by k_is) (by k_is) (by k_is) (by kit_is)
    have fAll := Mf.Facts.mk f_isInteger f_isFrom f_isMoods f_isTwo f_isRule f_isCrowd f_needCrowd f_countsOf f_changeOf f_canUse f_usable f_behind f_textOf f_bySize f_crowdsOf f_common f_withoutPart f_cleared f_ledRows f_firstPlace f_nothingBy f_lotsOf f_balance f_doesRest f_few f_timesOf f_plus f_lacks f_stays f_leapsOf f_comeTo f_partingOf f_isFolk f_needFolk f_alwaysRests f_needRest f_isOneEnded f_needOneEnded f_end f_needRay f_rayOf f_ray f_onRay f_lawTaken f_lawPick f_lawTwo f_lawMoods f_lawCounts f_lawCrowd f_lawOneFolk f_lawStays f_lawAlike fT fC fTM fNR fEA
    have xG := Mf.FnX.of (x := "_law_error") (st := Mf.sLawError) X G (by k_is) (by k_is) (by k_is) (by k_is)
    have xE := Mf.FnT.of (x := "ends_of") (st := Mf.sEndsOf) (Pt := 300) X G (by k_is) (by k_is) (by k_is) (by k_is) (by kernel_rfl) (by kernel_rfl)
    have xL := Mf.FnT.of (x := "law") (st := Mf.sLaw) (Pt := 454) X G (by k_is) (by k_is) (by k_is) (by k_is) (by kernel_rfl) (by kernel_rfl)
    have e := hmg.symm.trans xL.m
    cases e
    exact Mf.law_at X fAll xG.1 xG.2 xE xL (by decide) tL tE
