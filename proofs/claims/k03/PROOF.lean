import PyProof.Rows.All
import Wide.All
import OpenK.AllK
import Wide.FinOn
import HandS.Base
import HandS.Call
import HandS.List
import HandS.Comp
import HandS.Ends
import HandS.Exc
import HandS.ExcOwn
import HandS.Words
import HandS.WordsList
import HandS.WordsExc
import HandS.IsInst
import HandS.Wide
import HandS.Flow
import HandS.Defaults
import HandS.ExcValue
import HandS.ExcIs
import HandS.TryOnly
import HandS.Dict
import HandS.Head0
import HandS.Head1
import HandS.Head2
import HandS.HeadEnd
import HandS.HeadHook1
import HandS.HeadHook2
import HandS.Deep
import HandS.Style
import PySem.Challenge.RW_fitwhatever_k03_whole_numbers_of_any_siz
import KE.KStateDown
import Lean
set_option Elab.async false
set_option linter.all false
set_option maxRecDepth 100000
set_option maxHeartbeats 1000000
namespace TL
open PySem PySem.Spec L2

/-! ## kinds of values, of owned things -/
structure Ty where
  p : V → Hp → Prop
  mono : ∀ {v : V} {F F' : Hp}, Same F F' → p v F → p v F'
structure OTy where
  p : HO → Hp → Prop
  mono : ∀ {o : HO} {F F' : Hp}, Same F F' → p o F → p o F'
abbrev Sto := List (Option Ty)
abbrev Own := List (Addr × OTy)

theorem same_new {H : Hp} {p : Addr} {o : HO} (h : H p = none) : Same H (upd H p o) := fun b u e => by
  rw [upd_ne (ne_of_none e h)]
  exact e

/-- F, the frozen part, and what is owned, in H -/
structure HS (D : Own) (H F : Hp) : Prop where
  sub : Same F H
  own : ∀ a O, (a, O) ∈ D → F a = none ∧ ∃ o, H a = some o ∧ O.p o F
  nd : (D.map (·.1)).Nodup

theorem HS.free {D : Own} {H F : Hp} (h : HS D H F) {p : Addr} (e : H p = none) : F p = none := h.sub.free e
theorem HS.notin {D : Own} {H F : Hp} (h : HS D H F) {p : Addr} (e : H p = none) : ∀ O, (p, O) ∉ D := fun O m => by
  obtain ⟨_, o, q, _⟩ := h.own p O m
  rw [e] at q; cases q
theorem HS.new {D : Own} {H F : Hp} (h : HS D H F) {p : Addr} {o : HO} {O : OTy} (e : H p = none) (q : O.p o F) : HS ((p, O) :: D) (upd H p o) F where
  sub := h.sub.trans (same_new e)
  own := fun a O' m => by
    rcases List.mem_cons.mp m with z | z
    · cases z
      exact ⟨h.free e, o, upd_same, q⟩
    · obtain ⟨n, u, hu, hp⟩ := h.own a O' z
      exact ⟨n, u, (same_new e) a u hu, hp⟩
  nd := by
    rw [List.map_cons, List.nodup_cons]
    refine ⟨fun m => ?_, h.nd⟩
    obtain ⟨⟨a, O'⟩, m1, m2⟩ := List.mem_map.mp m
    cases m2
    exact h.notin e O' m1
theorem HS.frz {D : Own} {H F : Hp} (h : HS D H F) {p : Addr} {o : HO} (e : H p = none) : HS D (upd H p o) (upd F p o) where
  sub := fun b u q => by
    by_cases z : b = p
    · subst z
      rw [upd_same] at q ⊢
      exact q
    · rw [upd_ne z] at q ⊢
      exact h.sub b u q
  own := fun a O' m => by
    obtain ⟨n, u, hu, hp⟩ := h.own a O' m
    have z : a ≠ p := ne_of_none hu e
    refine ⟨by rw [upd_ne z]; exact n, u, by rw [upd_ne z]; exact hu, O'.mono (same_new (h.free e)) hp⟩
  nd := h.nd
theorem HS.at {D : Own} {H F : Hp} (h : HS D H F) {k : Nat} {a : Addr} {O : OTy} (e : D[k]? = some (a, O)) : ∃ o, H a = some o ∧ O.p o F := (h.own a O (List.mem_of_getElem? e)).2
theorem own_uniq {D : Own} (nd : (D.map (·.1)).Nodup) {k j : Nat} {a : Addr} {O O' : OTy} (e : D[k]? = some (a, O)) (e' : D[j]? = some (a, O')) : k = j :=
  nd_ix nd (x := a) (by rw [List.getElem?_map, e]; rfl) (by rw [List.getElem?_map, e']; rfl)
theorem HS.put {D : Own} {H F : Hp} (h : HS D H F) {k : Nat} {a : Addr} {O O' : OTy} {o : HO} (e : D[k]? = some (a, O)) (q : O'.p o F) : HS (D.set k (a, O')) (upd H a o) F where
  sub := fun b u z => by
    have n := (h.own a O (List.mem_of_getElem? e)).1
    have z2 : b ≠ a := ne_of_none z n
    rw [upd_ne z2]
    exact h.sub b u z
  own := fun b O2 m => by
    obtain ⟨j, hj⟩ := List.getElem?_of_mem m
    by_cases z : j = k
    · subst z
      have lt : j < D.length := (List.getElem?_eq_some_iff.mp e).1
      rw [List.getElem?_set_self lt] at hj
      cases hj
      exact ⟨(h.own _ O (List.mem_of_getElem? e)).1, o, upd_same, q⟩
    · rw [List.getElem?_set_ne (Ne.symm z)] at hj
      obtain ⟨n, u, hu, hp⟩ := h.own b O2 (List.mem_of_getElem? hj)
      have nz : b ≠ a := fun q => by
        subst q
        exact z (own_uniq h.nd hj e)
      exact ⟨n, u, by rw [upd_ne nz]; exact hu, hp⟩
  nd := by
    have : (D.set k (a, O')).map (·.1) = D.map (·.1) := by
      rw [List.map_set]
      refine List.ext_getElem? fun i => ?_
      by_cases z : i = k
      · subst z
        have lt : i < (D.map (·.1)).length := by rw [List.length_map]; exact (List.getElem?_eq_some_iff.mp e).1
        rw [List.getElem?_set_self lt, List.getElem?_map, e]
        rfl
      · rw [List.getElem?_set_ne (Ne.symm z)]
    rw [this]
    exact h.nd
theorem HS.drop {D D' : Own} {H F : Hp} (h : HS D H F) (s : D'.Sublist D) : HS D' H F where
  sub := h.sub
  own := fun a O m => h.own a O (s.subset m)
  nd := (s.map _).nodup h.nd
/-- an owned thing is frozen -/
theorem HS.freeze {D : Own} {H F : Hp} (h : HS D H F) {k : Nat} {a : Addr} {O : OTy} (e : D[k]? = some (a, O)) : ∃ o, O.p o F ∧ HS (D.eraseIdx k) H (upd F a o) ∧ Same F (upd F a o) := by
  obtain ⟨n, o, ho, hp⟩ := h.own a O (List.mem_of_getElem? e)
  refine ⟨o, hp, ?_, same_new n⟩
  have sl : (D.eraseIdx k).Sublist D := List.eraseIdx_sublist _ _
  refine ⟨fun b u q => ?_, fun b O2 m => ?_, (sl.map _).nodup h.nd⟩
  · by_cases z : b = a
    · subst z
      rw [upd_same] at q
      rw [← q]; exact ho
    · rw [upd_ne z] at q
      exact h.sub b u q
  · obtain ⟨n2, u, hu, hp2⟩ := h.own b O2 (sl.subset m)
    have nz : b ≠ a := fun q => by
      subst q
      obtain ⟨j, hj⟩ := List.getElem?_of_mem m
      rw [List.getElem?_eraseIdx] at hj
      split at hj
      · rename_i lt
        have := own_uniq h.nd hj e
        omega
      · rename_i lt
        have := own_uniq h.nd hj e
        omega
    exact ⟨by rw [upd_ne nz]; exact n2, u, hu, O2.mono (same_new n) hp2⟩

/-- the slots -/
inductive SS (F : Hp) : Sto → St → Prop
  | nil : SS F [] []
  | non {G : Sto} {σ : St} {x : Option V} : SS F G σ → SS F (none :: G) (x :: σ)
  | som {G : Sto} {σ : St} {R : Ty} {v : V} : R.p v F → SS F G σ → SS F (some R :: G) (some v :: σ)
theorem SS.mono {F F' : Hp} {G : Sto} {σ : St} (h : SS F G σ) (s : Same F F') : SS F' G σ := by
  induction h with
  | nil => exact .nil
  | non _ ih => exact .non ih
  | som r _ ih => exact .som (Ty.mono _ s r) ih
theorem SS.get {F : Hp} {G : Sto} {σ : St} (h : SS F G σ) : ∀ {i : Nat} {R : Ty}, G[i]? = some (some R) → ∃ v, σ[i]? = some (some v) ∧ R.p v F := by
  induction h with
  | nil => intro i R e; simp at e
  | non _ ih =>
    intro i R e
    cases i with
    | zero => simp at e
    | succ i => simpa using ih (by simpa using e)
  | som r _ ih =>
    intro i R e
    cases i with
    | zero =>
      simp at e
      subst e
      exact ⟨_, by simp, r⟩
    | succ i => simpa using ih (by simpa using e)
theorem SS.set {F : Hp} {G : Sto} {σ : St} {R : Ty} {v : V} (h : SS F G σ) (r : R.p v F) : ∀ (i : Nat), SS F (G.set i (some R)) (σ.set i (some v)) := by
  induction h with
  | nil => intro i; exact .nil
  | non h ih =>
    intro i
    cases i with
    | zero => exact .som r h
    | succ i => exact .non (ih i)
  | som q h ih =>
    intro i
    cases i with
    | zero => exact .som r h
    | succ i => exact .som q (ih i)
theorem SS.unset {F : Hp} {G : Sto} {σ : St} {x : Option V} (h : SS F G σ) : ∀ (i : Nat), SS F (G.set i none) (σ.set i x) := by
  induction h with
  | nil => intro i; exact .nil
  | non h ih =>
    intro i
    cases i with
    | zero => exact .non h
    | succ i => exact .non (ih i)
  | som q h ih =>
    intro i
    cases i with
    | zero => exact .non h
    | succ i => exact .som q (ih i)
/-- G' says less than G -/
inductive SLe : Sto → Sto → Prop
  | nil : SLe [] []
  | drop {G G' : Sto} {x : Option Ty} : SLe G G' → SLe (x :: G) (none :: G')
  | imp {G G' : Sto} {R R' : Ty} : (∀ v F, R.p v F → R'.p v F) → SLe G G' → SLe (some R :: G) (some R' :: G')
theorem SLe.refl : ∀ (G : Sto), SLe G G
  | [] => .nil
  | none :: G => .drop (SLe.refl G)
  | some R :: G => .imp (fun _ _ h => h) (SLe.refl G)
theorem SS.weak {F : Hp} {G G' : Sto} (l : SLe G G') : ∀ {σ : St}, SS F G σ → SS F G' σ := by
  induction l with
  | nil => intro σ h; exact h
  | drop _ ih =>
    intro σ h
    cases h with
    | non h => exact .non (ih h)
    | som r h => exact .non (ih h)
  | imp f _ ih =>
    intro σ h
    cases h with
    | som r h => exact .som (f _ _ r) (ih h)
theorem SS.len {F : Hp} {G : Sto} {σ : St} (h : SS F G σ) : σ.length = G.length := by
  induction h with
  | nil => rfl
  | non _ ih => simp [ih]
  | som _ _ ih => simp [ih]

inductive AllP (F : Hp) : List Ty → List V → Prop
  | nil : AllP F [] []
  | cons {R : Ty} {Rs : List Ty} {v : V} {vs : List V} : R.p v F → AllP F Rs vs → AllP F (R :: Rs) (v :: vs)
theorem AllP.mono {F F' : Hp} {Rs : List Ty} {vs : List V} (h : AllP F Rs vs) (s : Same F F') : AllP F' Rs vs := by
  induction h with
  | nil => exact .nil
  | cons r _ ih => exact .cons (Ty.mono _ s r) ih
theorem AllP.len {F : Hp} {Rs : List Ty} {vs : List V} (h : AllP F Rs vs) : vs.length = Rs.length := by
  induction h with
  | nil => rfl
  | cons _ _ ih => simp [ih]
theorem AllP.get {F : Hp} {Rs : List Ty} {vs : List V} (h : AllP F Rs vs) : ∀ {i : Nat} {R : Ty}, Rs[i]? = some R → ∃ v, vs[i]? = some v ∧ R.p v F := by
  induction h with
  | nil => intro i R e; simp at e
  | cons r _ ih =>
    intro i R e
    cases i with
    | zero => simp at e; subst e; exact ⟨_, by simp, r⟩
    | succ i => simpa using ih (by simpa using e)
theorem AllP.append {F : Hp} {Rs Rs' : List Ty} {vs vs' : List V} (h : AllP F Rs vs) (h' : AllP F Rs' vs') : AllP F (Rs ++ Rs') (vs ++ vs') := by
  induction h with
  | nil => exact h'
  | cons r _ ih => exact .cons r ih
theorem SS.start {F : Hp} {Rs : List Ty} {vs : List V} {N : List Str} (h : AllP F Rs vs) : SS F (Rs.map some ++ List.replicate (N.length - vs.length) none) (L2.start N vs) := by
  unfold L2.start
  generalize N.length - vs.length = m
  induction h with
  | nil =>
    induction m with
    | zero => exact .nil
    | succ m ih => exact .non ih
  | cons r _ ih => exact .som r ih

/-! ## judgements -/
def Ev (te : TE) (G : Sto) (D : Own) (R : Ty) (D' : Own) : Prop :=
  ∀ (σ : St) (H F : Hp), HS D H F → SS F G σ → ∀ Q : VK, (∀ v H' F', Same F F' → HS D' H' F' → R.p v F' → Q v H') → te σ H Q
def EvT (tt : TT) (G : Sto) (D : Own) (b : Bool) (D' : Own) : Prop :=
  ∀ (σ : St) (H F : Hp), HS D H F → SS F G σ → ∀ Q : Bool → Hp → Prop, (∀ H' F', Same F F' → HS D' H' F' → Q b H') → tt σ H Q
def EvA (ta : TA) (G : Sto) (D : Own) (Rs : List Ty) (D' : Own) : Prop :=
  ∀ (σ : St) (H F : Hp), HS D H F → SS F G σ → ∀ Q : List V → Hp → Prop, (∀ vs H' F', Same F F' → HS D' H' F' → AllP F' Rs vs → Q vs H') → ta σ H Q
/-- a new owned thing at p -/
def EvN (te : TE) (G : Sto) (D : Own) (O : OTy) (D' : Own) : Prop :=
  ∀ (σ : St) (H F : Hp), HS D H F → SS F G σ → ∀ Q : VK, (∀ p H' F', Same F F' → HS ((p, O) :: D') H' F' → Q (.ref p) H') → te σ H Q

def StP (F0 : Hp) (G : Sto) (D : Own) : St → Hp → Prop := fun σ H => ∃ F, Same F0 F ∧ HS D H F ∧ SS F G σ
/-- from G, D: P -/
def Go (P : St → Hp → Prop) (F0 : Hp) (G : Sto) (D : Own) : Prop := ∀ σ H F, Same F0 F → HS D H F → SS F G σ → P σ H
def GoV (P : VK) (F0 : Hp) (R : Ty) (D : Own) : Prop := ∀ v H F, Same F0 F → HS D H F → R.p v F → P v H
/-- an exception of the class c leaves -/
def GoX (P : XK) (F0 : Hp) (c : Value) (D : Own) : Prop := ∀ H F, Same F0 F → HS D H F → P c none H
theorem Go.of_sp {F0 : Hp} {G : Sto} {D : Own} : Go (StP F0 G D) F0 G D := fun σ H F s h ss => ⟨F, s, h, ss⟩
theorem Go.weak {P : St → Hp → Prop} {F0 : Hp} {G G' : Sto} {D D' : Own} (h : Go P F0 G' D') (l : SLe G G') (d : D'.Sublist D) : Go P F0 G D :=
  fun σ H F s hs ss => h σ H F s (hs.drop d) (ss.weak l)
theorem Go.mono {P P' : St → Hp → Prop} {F0 : Hp} {G : Sto} {D : Own} (h : Go P F0 G D) (f : ∀ σ H, P σ H → P' σ H) : Go P' F0 G D := fun σ H F s hs ss => f _ _ (h σ H F s hs ss)

/-! ## data -/
mutual
theorem dp_mono {K : PySem.W.Frag} {F F' : Hp} (s : Same F F') : ∀ (d : PyData) (v : V), Dp K F v d → Dp K F' v d
  | .none, _, h => by cases h; exact .non
  | .bool b, _, h => by cases h; exact .bl b
  | .int i, _, h => by cases h; exact .int i
  | .str x, _, h => by cases h; exact .str x
  | .list ds, _, h => by
    cases h with
    | lst h1 h2 => exact .lst (s.seq h1) (dpAll_mono s ds _ h2)
  | .tuple ds, _, h => by
    cases h with
    | tup h1 h2 =>
      refine .tup ?_ (dpAll_mono s ds _ h2)
      rcases h1 with (h1 | ⟨o, h1⟩) | h1
      · exact .inl (.inl (s _ _ h1))
      · exact .inl (.inr ⟨o, s _ _ h1⟩)
      · exact .inr h1
  | .dict _, _, h => by cases h
theorem dpAll_mono {K : PySem.W.Frag} {F F' : Hp} (s : Same F F') : ∀ (ds : List PyData) (vs : List V), DpAll K F vs ds → DpAll K F' vs ds
  | [], _, h => by cases h; exact .nil
  | d :: ds, _, h => by
    cases h with
    | cons h1 h2 => exact .cons (dp_mono s d _ h1) (dpAll_mono s ds _ h2)
end
/-- v is the data d -/
def D (K : PySem.W.Frag) (d : PyData) : Ty := ⟨fun v F => Dp K F v d, fun s h => dp_mono s d _ h⟩
abbrev DI (K : PySem.W.Frag) (i : Int) : Ty := D K (.int i)
abbrev DB (K : PySem.W.Frag) (b : Bool) : Ty := D K (.bool b)
abbrev DS (K : PySem.W.Frag) (x : Str) : Ty := D K (.str x)
abbrev DN (K : PySem.W.Frag) : Ty := D K .none
/-- any value -/
def Any : Ty := ⟨fun _ _ => True, fun _ _ => trivial⟩
/-- just this value -/
def Is (v : V) : Ty := ⟨fun w _ => w = v, fun _ h => h⟩
/-- an owned list of data -/
def OL (K : PySem.W.Frag) (ds : List PyData) : OTy := ⟨fun o F => ∃ xs, o = .lst xs ∧ DpAll K F xs ds, fun s ⟨xs, e, h⟩ => ⟨xs, e, dpAll_mono s ds xs h⟩⟩
section
variable {K : PySem.W.Frag} {F : Hp} {v : V}
theorem dp_int {i : Int} (h : (DI K i).p v F) : v = .int i := by cases h; rfl
theorem dp_bl {b : Bool} (h : (DB K b).p v F) : v = .bl b := by cases h; rfl
theorem dp_str {x : Str} (h : (DS K x).p v F) : v = .str x := by cases h; rfl
theorem dp_non (h : (DN K).p v F) : v = .non := by cases h; rfl
theorem dp_tup {ds : List PyData} (h : (D K (.tuple ds)).p v F) : ∃ a xs, v = .ref a ∧ SqT K F a xs ∧ DpAll K F xs ds := by
  cases h with
  | tup h1 h2 => exact ⟨_, _, rfl, h1, h2⟩
theorem dp_lst {ds : List PyData} (h : (D K (.list ds)).p v F) : ∃ a xs, v = .ref a ∧ SqL K F a xs ∧ DpAll K F xs ds := by
  cases h with
  | lst h1 h2 => exact ⟨_, _, rfl, h1, h2⟩
theorem same_sqT {F F' : Hp} {a : Addr} {xs : List V} (s : Same F F') (h : SqT K F a xs) : SqT K F' a xs := by
  rcases h with (h1 | ⟨o, h1⟩) | h1
  · exact .inl (.inl (s _ _ h1))
  · exact .inl (.inr ⟨o, s _ _ h1⟩)
  · exact .inr h1
theorem dpAll_get : ∀ {ds : List PyData} {vs : List V}, DpAll K F vs ds → ∀ {i : Nat} {d : PyData}, ds[i]? = some d → ∃ v, vs[i]? = some v ∧ Dp K F v d
  | [], _, h, i, d, e => by simp at e
  | a :: ds, _, h, i, d, e => by
    cases h with
    | cons h1 h2 =>
      cases i with
      | zero => simp at e; subst e; exact ⟨_, by simp, h1⟩
      | succ i =>
        obtain ⟨v, h3, h4⟩ := dpAll_get h2 (i := i) (d := d) (by simpa using e)
        exact ⟨v, by simpa using h3, h4⟩
theorem dpAll_len : ∀ {ds : List PyData} {vs : List V}, DpAll K F vs ds → vs.length = ds.length
  | [], _, h => by cases h; rfl
  | a :: ds, _, h => by
    cases h with
    | cons h1 h2 => simp [dpAll_len h2]
theorem dpAll_append : ∀ {ds : List PyData} {vs : List V} {es : List PyData} {ws : List V}, DpAll K F vs ds → DpAll K F ws es → DpAll K F (vs ++ ws) (ds ++ es)
  | [], _, _, _, h, h' => by cases h; exact h'
  | a :: ds, _, _, _, h, h' => by
    cases h with
    | cons h1 h2 => exact .cons h1 (dpAll_append h2 h')
theorem dpAll_set {d : PyData} {v : V} (hv : Dp K F v d) : ∀ {ds : List PyData} {vs : List V}, DpAll K F vs ds → ∀ (i : Nat), DpAll K F (vs.set i v) (ds.set i d)
  | [], _, h, i => by cases h; exact .nil
  | a :: ds, _, h, i => by
    cases h with
    | cons h1 h2 =>
      cases i with
      | zero => exact .cons hv h2
      | succ i => exact .cons h1 (dpAll_set hv h2 i)
theorem allP_dp : ∀ {ds : List PyData} {vs : List V}, AllP F (ds.map (D K)) vs → DpAll K F vs ds
  | [], _, h => by cases h; exact .nil
  | a :: ds, _, h => by
    cases h with
    | cons h1 h2 => exact .cons h1 (allP_dp h2)
end
end TL

set_option Elab.async false
set_option linter.all false
set_option maxRecDepth 100000
set_option maxHeartbeats 1000000
namespace TL
open PySem PySem.Spec L2
section
variable {K : PySem.W.Frag} {G : Sto} {D0 D1 D2 D3 : Own} {te ta tb tc : TE} {tt tu : TT} {R Ra Rb : Ty}

/-! ## expressions -/
theorem ev_var {i : Nat} (h : G[i]? = some (some R)) : Ev (tVar i) G D0 R D0 := fun σ H F hs ss Q q => by
  obtain ⟨v, e, r⟩ := ss.get h
  exact ⟨v, e, q v H F (Same.refl _) hs r⟩
theorem ev_c {v : V} (h : ∀ F, R.p v F) : Ev (tC v) G D0 R D0 := fun σ H F hs ss Q q => q v H F (Same.refl _) hs (h F)
theorem ev_int {i : Int} : Ev (tC (.int i)) G D0 (DI K i) D0 := ev_c fun _ => .int i
theorem ev_bl {b : Bool} : Ev (tC (.bl b)) G D0 (DB K b) D0 := ev_c fun _ => .bl b
theorem ev_str {x : Str} : Ev (tC (.str x)) G D0 (DS K x) D0 := ev_c fun _ => .str x
theorem ev_non : Ev (tC .non) G D0 (DN K) D0 := ev_c fun _ => .non
theorem ev_imp (h : Ev te G D0 R D1) (f : ∀ v F, R.p v F → Ra.p v F) : Ev te G D0 Ra D1 := fun σ H F hs ss Q q =>
  h σ H F hs ss Q fun v H' F' s hs' r => q v H' F' s hs' (f v F' r)
theorem ev_eq (h : Ev te G D0 R D1) (e : R = Ra) : Ev te G D0 Ra D1 := e ▸ h
theorem ev_d {d e : PyData} (h : Ev te G D0 (D K d) D1) (q : d = e) : Ev te G D0 (D K e) D1 := q ▸ h
theorem evT_b {b c : Bool} (h : EvT tt G D0 b D1) (q : b = c) : EvT tt G D0 c D1 := q ▸ h
/-- two in a row -/
theorem ev2 {r : R2} (ha : Ev ta G D0 Ra D1) (hb : Ev tb G D1 Rb D2) (hr : ∀ x y H F, HS D2 H F → Ra.p x F → Rb.p y F → ∀ Q : VK, (∀ v H' F', Same F F' → HS D3 H' F' → R.p v F' → Q v H') → r x y H Q) : Ev (tOp r ta tb) G D0 R D3 := fun σ H F hs ss Q q =>
  ha σ H F hs ss _ fun x H1 F1 s1 hs1 r1 => hb σ H1 F1 hs1 (ss.mono s1) _ fun y H2 F2 s2 hs2 r2 =>
    hr x y H2 F2 hs2 (Ra.mono s2 r1) r2 Q fun v H3 F3 s3 => q v H3 F3 ((s1.trans s2).trans s3)
theorem ev1 {r : V → Hp → VK → Prop} (ha : Ev ta G D0 Ra D1) (hr : ∀ x H F, HS D1 H F → Ra.p x F → ∀ Q : VK, (∀ v H' F', Same F F' → HS D3 H' F' → R.p v F' → Q v H') → r x H Q) : Ev (tUn r ta) G D0 R D3 := fun σ H F hs ss Q q =>
  ha σ H F hs ss _ fun x H1 F1 s1 hs1 r1 => hr x H1 F1 hs1 r1 Q fun v H3 F3 s3 => q v H3 F3 (s1.trans s3)
theorem ev_opI0 {g : Int → Int → Int} {i j : Int} (ha : Ev ta G D0 (DI K i) D1) (hb : Ev tb G D1 (DI K j) D2) : Ev (tOp (rI0 fun i j => .int (g i j)) ta tb) G D0 (DI K (g i j)) D2 :=
  ev2 ha hb fun x y H F hs rx ry Q q => by
    rw [dp_int rx, dp_int ry]
    exact ⟨i, j, rfl, rfl, q _ H F (Same.refl _) hs (.int _)⟩
theorem ev_opI {C : Int → Int → Prop} {g : Int → Int → Int} {i j : Int} (ha : Ev ta G D0 (DI K i) D1) (hb : Ev tb G D1 (DI K j) D2) (c : C i j) : Ev (tOp (rI C fun i j => .int (g i j)) ta tb) G D0 (DI K (g i j)) D2 :=
  ev2 ha hb fun x y H F hs rx ry Q q => by
    rw [dp_int rx, dp_int ry]
    exact ⟨i, j, rfl, rfl, c, q _ H F (Same.refl _) hs (.int _)⟩
theorem ev_opB0 {g : Int → Int → Bool} {i j : Int} (ha : Ev ta G D0 (DI K i) D1) (hb : Ev tb G D1 (DI K j) D2) : Ev (tOp (rI0 fun i j => .bl (g i j)) ta tb) G D0 (DB K (g i j)) D2 :=
  ev2 ha hb fun x y H F hs rx ry Q q => by
    rw [dp_int rx, dp_int ry]
    exact ⟨i, j, rfl, rfl, q _ H F (Same.refl _) hs (.bl _)⟩
theorem ev_unI {g : Int → Int} {i : Int} (ha : Ev ta G D0 (DI K i) D1) : Ev (tUn (rU fun i => .int (g i)) ta) G D0 (DI K (g i)) D1 :=
  ev1 ha fun x H F hs rx Q q => by
    rw [dp_int rx]
    exact ⟨i, rfl, q _ H F (Same.refl _) hs (.int _)⟩
/-! == of plain things -/
theorem ev_eqI {i j : Int} (ha : Ev ta G D0 (DI K i) D1) (hb : Ev tb G D1 (DI K j) D2) : Ev (tOp rEq ta tb) G D0 (DB K (decide (i = j))) D2 :=
  ev2 ha hb fun x y H F hs rx ry Q q => by
    rw [dp_int rx, dp_int ry]
    refine ⟨rfl, ?_⟩
    rw [dec_int, Bool.beq_eq_decide_eq]
    exact q _ H F (Same.refl _) hs (.bl _)
theorem ev_neI {i j : Int} (ha : Ev ta G D0 (DI K i) D1) (hb : Ev tb G D1 (DI K j) D2) : Ev (tOp rNe ta tb) G D0 (DB K (!decide (i = j))) D2 :=
  ev2 ha hb fun x y H F hs rx ry Q q => by
    rw [dp_int rx, dp_int ry]
    refine ⟨rfl, ?_⟩
    rw [dec_int, Bool.beq_eq_decide_eq]
    exact q _ H F (Same.refl _) hs (.bl _)
theorem ev_eqS {i j : Str} (ha : Ev ta G D0 (DS K i) D1) (hb : Ev tb G D1 (DS K j) D2) : Ev (tOp rEq ta tb) G D0 (DB K (decide (i = j))) D2 :=
  ev2 ha hb fun x y H F hs rx ry Q q => by
    rw [dp_str rx, dp_str ry]
    refine ⟨rfl, ?_⟩
    have e : decide (V.str i = V.str j) = decide (i = j) := by simp
    rw [e]
    exact q _ H F (Same.refl _) hs (.bl _)
theorem ev_neS {i j : Str} (ha : Ev ta G D0 (DS K i) D1) (hb : Ev tb G D1 (DS K j) D2) : Ev (tOp rNe ta tb) G D0 (DB K (!decide (i = j))) D2 :=
  ev2 ha hb fun x y H F hs rx ry Q q => by
    rw [dp_str rx, dp_str ry]
    refine ⟨rfl, ?_⟩
    have e : decide (V.str i = V.str j) = decide (i = j) := by simp
    rw [e]
    exact q _ H F (Same.refl _) hs (.bl _)
theorem ev_eqB {i j : Bool} (ha : Ev ta G D0 (DB K i) D1) (hb : Ev tb G D1 (DB K j) D2) : Ev (tOp rEq ta tb) G D0 (DB K (i == j)) D2 :=
  ev2 ha hb fun x y H F hs rx ry Q q => by
    rw [dp_bl rx, dp_bl ry]
    refine ⟨rfl, ?_⟩
    rw [dec_bl]
    exact q _ H F (Same.refl _) hs (.bl _)
theorem ev_neB {i j : Bool} (ha : Ev ta G D0 (DB K i) D1) (hb : Ev tb G D1 (DB K j) D2) : Ev (tOp rNe ta tb) G D0 (DB K (!(i == j))) D2 :=
  ev2 ha hb fun x y H F hs rx ry Q q => by
    rw [dp_bl rx, dp_bl ry]
    refine ⟨rfl, ?_⟩
    rw [dec_bl]
    exact q _ H F (Same.refl _) hs (.bl _)
/-! == of data -/
theorem dp_up {H F : Hp} {D : Own} (hs : HS D H F) {d : PyData} {v : V} (h : Dp K F v d) : Dp K H v d := dp_mono hs.sub d v h
theorem ev_eqD {d e : PyData} (ha : Ev ta G D0 (D K d) D1) (hb : Ev tb G D1 (D K e) D2) (sd : SeqAt.shaped d = true) (se : SeqAt.shaped e = true) : Ev (tOp (rEqD K) ta tb) G D0 (DB K (PyData.eqv d e)) D2 :=
  ev2 ha hb fun x y H F hs rx ry Q q => ⟨d, e, dp_up hs rx, dp_up hs ry, sd, se, q _ H F (Same.refl _) hs (.bl _)⟩
theorem ev_neD {d e : PyData} (ha : Ev ta G D0 (D K d) D1) (hb : Ev tb G D1 (D K e) D2) (sd : SeqAt.shaped d = true) (se : SeqAt.shaped e = true) : Ev (tOp (rNeD K) ta tb) G D0 (DB K (!PyData.eqv d e)) D2 :=
  ev2 ha hb fun x y H F hs rx ry Q q => ⟨d, e, dp_up hs rx, dp_up hs ry, sd, se, q _ H F (Same.refl _) hs (.bl _)⟩
/-! truth values -/
theorem ev_andV {a b : Bool} (ha : Ev ta G D0 (DB K a) D1) (hb : a = true → Ev tb G D1 (DB K b) D1) : Ev (tAndV ta tb) G D0 (DB K (a && b)) D1 := fun σ H F hs ss Q q =>
  ha σ H F hs ss _ fun x H1 F1 s1 hs1 r1 => by
    refine ⟨a, dp_bl r1, ?_⟩
    cases a with
    | true => exact hb rfl σ H1 F1 hs1 (ss.mono s1) Q fun v H2 F2 s2 h2 r2 => q v H2 F2 (s1.trans s2) h2 r2
    | false => exact q _ H1 F1 s1 hs1 (.bl _)
theorem ev_orV {a b : Bool} (ha : Ev ta G D0 (DB K a) D1) (hb : a = false → Ev tb G D1 (DB K b) D1) : Ev (tOrV ta tb) G D0 (DB K (a || b)) D1 := fun σ H F hs ss Q q =>
  ha σ H F hs ss _ fun x H1 F1 s1 hs1 r1 => by
    refine ⟨a, dp_bl r1, ?_⟩
    cases a with
    | false => exact hb rfl σ H1 F1 hs1 (ss.mono s1) Q fun v H2 F2 s2 h2 r2 => q v H2 F2 (s1.trans s2) h2 r2
    | true => exact q _ H1 F1 s1 hs1 (.bl _)
theorem ev_notV {a : Bool} (ha : Ev ta G D0 (DB K a) D1) : Ev (tNotV ta) G D0 (DB K (!a)) D1 := fun σ H F hs ss Q q =>
  ha σ H F hs ss _ fun x H1 F1 s1 hs1 r1 => ⟨a, dp_bl r1, q _ H1 F1 s1 hs1 (.bl _)⟩
theorem evT_test {b : Bool} (h : Ev te G D0 (DB K b) D1) : EvT (tTest te) G D0 b D1 := fun σ H F hs ss Q q =>
  h σ H F hs ss _ fun v H' F' s hs' r => ⟨b, dp_bl r, q H' F' s hs'⟩
theorem evT_B {b : Bool} (h : Ev te G D0 (DB K b) D1) : EvT (tB te) G D0 b D1 := fun σ H F hs ss Q q =>
  h σ H F hs ss _ fun v H' F' s hs' r => ⟨b, dp_bl r, q H' F' s hs'⟩
theorem evT_and {a b : Bool} (ha : EvT tt G D0 a D1) (hb : a = true → EvT tu G D1 b D1) : EvT (tAnd tt tu) G D0 (a && b) D1 := fun σ H F hs ss Q q =>
  ha σ H F hs ss _ fun H1 F1 s1 hs1 => by
    cases a with
    | true => exact hb rfl σ H1 F1 hs1 (ss.mono s1) Q fun H2 F2 s2 h2 => q H2 F2 (s1.trans s2) h2
    | false => exact q H1 F1 s1 hs1
theorem evT_or {a b : Bool} (ha : EvT tt G D0 a D1) (hb : a = false → EvT tu G D1 b D1) : EvT (tOr tt tu) G D0 (a || b) D1 := fun σ H F hs ss Q q =>
  ha σ H F hs ss _ fun H1 F1 s1 hs1 => by
    cases a with
    | false => exact hb rfl σ H1 F1 hs1 (ss.mono s1) Q fun H2 F2 s2 h2 => q H2 F2 (s1.trans s2) h2
    | true => exact q H1 F1 s1 hs1
theorem evT_not {a : Bool} (ha : EvT tt G D0 a D1) : EvT (tNot tt) G D0 (!a) D1 := fun σ H F hs ss Q q =>
  ha σ H F hs ss _ fun H1 F1 s1 hs1 => q H1 F1 s1 hs1
theorem ev_if {b : Bool} (hc : EvT tt G D0 b D1) (h1 : b = true → Ev ta G D1 R D2) (h2 : b = false → Ev tb G D1 R D2) : Ev (tIf tt ta tb) G D0 R D2 := fun σ H F hs ss Q q =>
  hc σ H F hs ss _ fun H1 F1 s1 hs1 => by
    cases b with
    | true => exact h1 rfl σ H1 F1 hs1 (ss.mono s1) Q fun v H2 F2 s2 h2 r2 => q v H2 F2 (s1.trans s2) h2 r2
    | false => exact h2 rfl σ H1 F1 hs1 (ss.mono s1) Q fun v H2 F2 s2 h2 r2 => q v H2 F2 (s1.trans s2) h2 r2
theorem ev_isN (h : Ev te G D0 (DN K) D1) : Ev (tIsN te) G D0 (DB K true) D1 := fun σ H F hs ss Q q =>
  h σ H F hs ss _ fun v H' F' s hs' r => by
    rw [dp_non r]
    exact q _ H' F' s hs' (.bl true)
theorem ev_isNot (h : Ev te G D0 R D1) (n : ∀ F, ¬ R.p .non F) : Ev (tIsN te) G D0 (DB K false) D1 := fun σ H F hs ss Q q =>
  h σ H F hs ss _ fun v H' F' s hs' r => by
    have e : decide (v = V.non) = false := decide_eq_false fun z => n F' (z ▸ r)
    show Q (.bl (decide (v = V.non))) H'
    rw [e]
    exact q _ H' F' s hs' (.bl false)
theorem ev_notN0 (h : Ev te G D0 (DN K) D1) : Ev (tNotN te) G D0 (DB K false) D1 := fun σ H F hs ss Q q =>
  h σ H F hs ss _ fun v H' F' s hs' r => by
    rw [dp_non r]
    exact q _ H' F' s hs' (.bl false)
theorem ev_notN (h : Ev te G D0 R D1) (n : ∀ F, ¬ R.p .non F) : Ev (tNotN te) G D0 (DB K true) D1 := fun σ H F hs ss Q q =>
  h σ H F hs ss _ fun v H' F' s hs' r => by
    have e : decide (v = V.non) = false := decide_eq_false fun z => n F' (z ▸ r)
    show Q (.bl (!decide (v = V.non))) H'
    rw [e]
    exact q _ H' F' s hs' (.bl true)

/-! ## arguments, displays -/
theorem evA_nil : EvA tNil G D0 [] D0 := fun σ H F hs ss Q q => q [] H F (Same.refl _) hs .nil
theorem evA_cons {tr : TA} {Rs : List Ty} (h : Ev te G D0 R D1) (hr : EvA tr G D1 Rs D2) : EvA (tCons te tr) G D0 (R :: Rs) D2 := fun σ H F hs ss Q q =>
  h σ H F hs ss _ fun v H1 F1 s1 hs1 r1 => hr σ H1 F1 hs1 (ss.mono s1) _ fun vs H2 F2 s2 hs2 r2 => q _ H2 F2 (s1.trans s2) hs2 (.cons (R.mono s2 r1) r2)
/-- data in arguments -/
def EvDs (K : PySem.W.Frag) (ta : TA) (G : Sto) (D0 : Own) (ds : List PyData) (D1 : Own) : Prop := EvA ta G D0 (ds.map (D K)) D1
theorem evD_nil : EvDs K tNil G D0 [] D0 := evA_nil
theorem evD_cons {tr : TA} {d : PyData} {ds : List PyData} (h : Ev te G D0 (D K d) D1) (hr : EvDs K tr G D1 ds D2) : EvDs K (tCons te tr) G D0 (d :: ds) D2 := evA_cons h hr
theorem sizeLine_big : 100000 ≤ sizeLine := by decide
theorem ev_tup {t : TA} {ds : List PyData} (h : EvDs K t G D0 ds D1) (hl : ds.length ≤ 100000) : Ev (tTup t) G D0 (D K (.tuple ds)) D1 := fun σ H F hs ss Q q =>
  h σ H F hs ss _ fun vs H1 F1 s1 hs1 r1 => by
    have r2 := allP_dp r1
    refine ⟨by rw [dpAll_len r2]; exact Nat.le_trans hl sizeLine_big, fun p hp => ?_⟩
    have s2 : Same F1 (upd F1 p (.tup vs)) := same_new (hs1.free hp)
    exact q _ _ _ (s1.trans s2) (hs1.frz hp) (.tup (SqT.of upd_same) (dpAll_mono s2 ds vs r2))
/-- a list that nobody changes -/
theorem ev_lst {t : TA} {ds : List PyData} (h : EvDs K t G D0 ds D1) (hl : ds.length ≤ 100000) : Ev (tLst t) G D0 (D K (.list ds)) D1 := fun σ H F hs ss Q q =>
  h σ H F hs ss _ fun vs H1 F1 s1 hs1 r1 => by
    have r2 := allP_dp r1
    refine ⟨by rw [dpAll_len r2]; exact Nat.le_trans hl sizeLine_big, fun p hp => ?_⟩
    have s2 : Same F1 (upd F1 p (.lst vs)) := same_new (hs1.free hp)
    exact q _ _ _ (s1.trans s2) (hs1.frz hp) (.lst (SqL.of upd_same) (dpAll_mono s2 ds vs r2))
/-- a list of one's own -/
theorem evN_lst {t : TA} {ds : List PyData} (h : EvDs K t G D0 ds D1) (hl : ds.length ≤ 100000) : EvN (tLst t) G D0 (OL K ds) D1 := fun σ H F hs ss Q q =>
  h σ H F hs ss _ fun vs H1 F1 s1 hs1 r1 => by
    have r2 := allP_dp r1
    refine ⟨by rw [dpAll_len r2]; exact Nat.le_trans hl sizeLine_big, fun p hp => ?_⟩
    exact q _ _ _ s1 (hs1.new hp ⟨vs, rfl, r2⟩)
/-- a new thing of one's own is frozen -/
theorem ev_of_N {ds : List PyData} (h : EvN te G D0 (OL K ds) D1) : Ev te G D0 (D K (.list ds)) D1 := fun σ H F hs ss Q q =>
  h σ H F hs ss _ fun p H1 F1 s1 hs1 => by
    obtain ⟨o, ⟨xs, e, hx⟩, hs2, s2⟩ := hs1.freeze (k := 0) rfl
    subst e
    exact q _ _ _ (s1.trans s2) hs2 (.lst (SqL.of upd_same) (dpAll_mono s2 ds xs hx))

/-! ## items -/
theorem sqT_up {H F : Hp} {D : Own} (hs : HS D H F) {a : Addr} {xs : List V} (h : SqT K F a xs) : SqT K H a xs := same_sqT hs.sub h
theorem sqL_up {H F : Hp} {D : Own} (hs : HS D H F) {a : Addr} {xs : List V} (h : SqL K F a xs) : SqL K H a xs := hs.sub.seq h
theorem atI_map {ds : List PyData} {vs : List V} {F : Hp} (h : DpAll K F vs ds) {i : Int} {d : PyData} (e : atI ds i = some d) : ∃ v, atI vs i = some v ∧ Dp K F v d := by
  unfold atI at e ⊢
  rw [dpAll_len h]
  cases q : ixN ds.length i with
  | none => rw [q] at e; cases e
  | some j =>
    rw [q] at e
    exact dpAll_get h e
theorem ev_ixT {ds : List PyData} {i : Int} {d : PyData} (ha : Ev ta G D0 (D K (.tuple ds)) D1) (hb : Ev tb G D1 (DI K i) D2) (e : atI ds i = some d) : Ev (tOp (rIxT K) ta tb) G D0 (D K d) D2 :=
  ev2 ha hb fun x y H F hs rx ry Q q => by
    obtain ⟨a, xs, rfl, h1, h2⟩ := dp_tup rx
    rw [dp_int ry]
    obtain ⟨v, e1, e2⟩ := atI_map h2 e
    exact ⟨a, xs, i, v, rfl, rfl, sqT_up hs h1, e1, q _ H F (Same.refl _) hs e2⟩
theorem ev_ixL {ds : List PyData} {i : Int} {d : PyData} (ha : Ev ta G D0 (D K (.list ds)) D1) (hb : Ev tb G D1 (DI K i) D2) (e : atI ds i = some d) : Ev (tOp (rIxL K) ta tb) G D0 (D K d) D2 :=
  ev2 ha hb fun x y H F hs rx ry Q q => by
    obtain ⟨a, xs, rfl, h1, h2⟩ := dp_lst rx
    rw [dp_int ry]
    obtain ⟨v, e1, e2⟩ := atI_map h2 e
    exact ⟨a, xs, i, v, rfl, rfl, sqL_up hs h1, e1, q _ H F (Same.refl _) hs e2⟩
/-- of an owned list, at k -/
theorem ev_ixO {ds : List PyData} {i : Int} {d : PyData} {k : Nat} {a : Addr} (ha : Ev ta G D0 (Is (.ref a)) D1) (hb : Ev tb G D1 (DI K i) D2) (hk : D2[k]? = some (a, OL K ds)) (e : atI ds i = some d) : Ev (tOp (rIxL K) ta tb) G D0 (D K d) D2 :=
  ev2 ha hb fun x y H F hs rx ry Q q => by
    have ex : x = .ref a := rx
    subst ex
    rw [dp_int ry]
    obtain ⟨o, ho, xs, rfl, h2⟩ := hs.at hk
    obtain ⟨v, e1, e2⟩ := atI_map h2 e
    exact ⟨a, xs, i, v, rfl, rfl, SqL.of ho, e1, q _ H F (Same.refl _) hs e2⟩
theorem atI_nil {α : Type} {i : Int} : atI ([] : List α) i = none := by
  unfold atI
  cases ixN ([] : List α).length i <;> simp

/-! ## built-ins -/
theorem evCB {r : List V → Hp → VK → Prop} {t : TA} {Rs : List Ty} (h : EvA t G D0 Rs D1) (hr : ∀ vs H F, HS D1 H F → AllP F Rs vs → ∀ Q : VK, (∀ v H' F', Same F F' → HS D2 H' F' → R.p v F' → Q v H') → r vs H Q) : Ev (tCB r t) G D0 R D2 := fun σ H F hs ss Q q =>
  h σ H F hs ss _ fun vs H1 F1 s1 hs1 r1 => hr vs H1 F1 hs1 r1 Q fun v H2 F2 s2 => q v H2 F2 (s1.trans s2)
theorem allP1 {F : Hp} {vs : List V} (h : AllP F [R] vs) : ∃ v, vs = [v] ∧ R.p v F := by
  cases h with
  | cons h1 h2 => cases h2; exact ⟨_, rfl, h1⟩
theorem allP2 {F : Hp} {vs : List V} (h : AllP F [Ra, Rb] vs) : ∃ v w, vs = [v, w] ∧ Ra.p v F ∧ Rb.p w F := by
  cases h with
  | cons h1 h2 =>
    obtain ⟨w, rfl, h3⟩ := allP1 h2
    exact ⟨_, _, rfl, h1, h3⟩
abbrev cAbs : List V → Hp → VK → Prop := fun xs H Q => ∃ i, xs = [.int i] ∧ Q (.int (if i < 0 then -i else i)) H
abbrev cMax2 : List V → Hp → VK → Prop := fun xs H Q => ∃ i j, xs = [.int i, .int j] ∧ Q (.int (if j > i then j else i)) H
abbrev cMin2 : List V → Hp → VK → Prop := fun xs H Q => ∃ i j, xs = [.int i, .int j] ∧ Q (.int (if j < i then j else i)) H
abbrev cInt1 : List V → Hp → VK → Prop := fun xs H Q => (∃ i, xs = [.int i] ∧ Q (.int i) H) ∨ ∃ k, xs = [.bl k] ∧ Q (.int (if k then 1 else 0)) H
abbrev cLen (K : PySem.W.Frag) : List V → Hp → VK → Prop := fun xs H Q => ∃ x n, xs = [x] ∧ LenV K x H n ∧ Q (.int n) H
theorem ev_abs {i : Int} (h : Ev te G D0 (DI K i) D1) : Ev (tCB cAbs (tCons te tNil)) G D0 (DI K (if i < 0 then -i else i)) D1 :=
  evCB (evA_cons h evA_nil) fun vs H F hs r Q q => by
    obtain ⟨v, rfl, h1⟩ := allP1 r
    rw [dp_int h1]
    exact ⟨i, rfl, q _ H F (Same.refl _) hs (.int _)⟩
theorem ev_max2 {i j : Int} (ha : Ev ta G D0 (DI K i) D1) (hb : Ev tb G D1 (DI K j) D2) : Ev (tCB cMax2 (tCons ta (tCons tb tNil))) G D0 (DI K (if j > i then j else i)) D2 :=
  evCB (evA_cons ha (evA_cons hb evA_nil)) fun vs H F hs r Q q => by
    obtain ⟨v, w, rfl, h1, h2⟩ := allP2 r
    rw [dp_int h1, dp_int h2]
    exact ⟨i, j, rfl, q _ H F (Same.refl _) hs (.int _)⟩
theorem ev_min2 {i j : Int} (ha : Ev ta G D0 (DI K i) D1) (hb : Ev tb G D1 (DI K j) D2) : Ev (tCB cMin2 (tCons ta (tCons tb tNil))) G D0 (DI K (if j < i then j else i)) D2 :=
  evCB (evA_cons ha (evA_cons hb evA_nil)) fun vs H F hs r Q q => by
    obtain ⟨v, w, rfl, h1, h2⟩ := allP2 r
    rw [dp_int h1, dp_int h2]
    exact ⟨i, j, rfl, q _ H F (Same.refl _) hs (.int _)⟩
theorem ev_intB {b : Bool} (h : Ev te G D0 (DB K b) D1) : Ev (tCB cInt1 (tCons te tNil)) G D0 (DI K (if b then 1 else 0)) D1 :=
  evCB (evA_cons h evA_nil) fun vs H F hs r Q q => by
    obtain ⟨v, rfl, h1⟩ := allP1 r
    rw [dp_bl h1]
    exact .inr ⟨b, rfl, q _ H F (Same.refl _) hs (.int _)⟩
theorem ev_lenT {ds : List PyData} (h : Ev te G D0 (D K (.tuple ds)) D1) : Ev (tCB (cLen K) (tCons te tNil)) G D0 (DI K ds.length) D1 :=
  evCB (evA_cons h evA_nil) fun vs H F hs r Q q => by
    obtain ⟨v, rfl, h1⟩ := allP1 r
    obtain ⟨a, xs, rfl, h2, h3⟩ := dp_tup h1
    exact ⟨_, ds.length, rfl, .inr ⟨xs, sqT_up hs h2, (dpAll_len h3).symm⟩, q _ H F (Same.refl _) hs (.int _)⟩
theorem ev_lenL {ds : List PyData} (h : Ev te G D0 (D K (.list ds)) D1) : Ev (tCB (cLen K) (tCons te tNil)) G D0 (DI K ds.length) D1 :=
  evCB (evA_cons h evA_nil) fun vs H F hs r Q q => by
    obtain ⟨v, rfl, h1⟩ := allP1 r
    obtain ⟨a, xs, rfl, h2, h3⟩ := dp_lst h1
    exact ⟨_, ds.length, rfl, .inl ⟨xs, sqL_up hs h2, (dpAll_len h3).symm⟩, q _ H F (Same.refl _) hs (.int _)⟩
end
end TL

set_option Elab.async false
set_option linter.all false
set_option maxRecDepth 100000
set_option maxHeartbeats 1000000
namespace TL
open PySem PySem.Spec L2
section
variable {K : PySem.W.Frag} {G G1 G2 : Sto} {D0 D1 D2 D3 : Own} {te ta tb tc : TE} {tt tu : TT} {R Ra Rb : Ty} {E En : Ends} {F0 F1 : Hp} {t u : TS}

theorem Go.up {P : St → Hp → Prop} (h : Go P F0 G D0) (s : Same F0 F1) : Go P F1 G D0 := fun σ H F s1 => h σ H F (s.trans s1)
theorem GoV.up {P : VK} (h : GoV P F0 R D0) (s : Same F0 F1) : GoV P F1 R D0 := fun v H F s1 => h v H F (s.trans s1)
theorem GoX.up {P : XK} {c : Value} (h : GoX P F0 c D0) (s : Same F0 F1) : GoX P F1 c D0 := fun H F s1 => h H F (s.trans s1)
theorem GoV.imp {P : VK} (h : GoV P F0 R D0) (f : ∀ v F, Ra.p v F → R.p v F) : GoV P F0 Ra D0 := fun v H F s hs r => h v H F s hs (f v F r)
theorem GoV.drop {P : VK} (h : GoV P F0 R D1) (s : D1.Sublist D0) : GoV P F0 R D0 := fun v H F s1 hs r => h v H F s1 (hs.drop s) r
theorem Ev.drop (h : Ev te G D0 R D1) (s : D2.Sublist D1) : Ev te G D0 R D2 := fun σ H F hs ss Q q => h σ H F hs ss Q fun v H' F' s1 hs' r => q v H' F' s1 (hs'.drop s) r

/-! ## statements -/
theorem go_seq (h : Go (t { E with nx := u E }) F0 G D0) : Go (tSeq t u E) F0 G D0 := h
theorem go_next (h : Go E.nx F0 G D0) : Go (tNext E) F0 G D0 := h
theorem go_brk (h : Go E.bk F0 G D0) : Go (tBreak E) F0 G D0 := h
theorem go_cont (h : Go E.ct F0 G D0) : Go (tCont E) F0 G D0 := h
theorem go_if {b : Bool} (hc : EvT tt G D0 b D1) (h1 : b = true → Go (t E) F0 G D1) (h2 : b = false → Go (u E) F0 G D1) : Go (tIfS tt t u E) F0 G D0 := fun σ H F s hs ss =>
  hc σ H F hs ss _ fun H1 F2 s1 hs1 => by
    cases b with
    | true => exact h1 rfl σ H1 F2 (s.trans s1) hs1 (ss.mono s1)
    | false => exact h2 rfl σ H1 F2 (s.trans s1) hs1 (ss.mono s1)
theorem go_ret (h : Ev te G D0 R D1) (k : GoV E.rt F0 R D1) : Go (tRet te E) F0 G D0 := fun σ H F s hs ss =>
  h σ H F hs ss _ fun v H1 F1 s1 hs1 r1 => k v H1 F1 (s.trans s1) hs1 r1
theorem go_retN (k : GoV E.rt F0 (DN K) D0) : Go (tRetN E) F0 G D0 := fun σ H F s hs ss => k _ H F s hs .non
theorem go_drop (h : Ev te G D0 R D1) (k : Go E.nx F0 G D1) : Go (tDrop te E) F0 G D0 := fun σ H F s hs ss =>
  h σ H F hs ss _ fun v H1 F1 s1 hs1 r1 => k σ H1 F1 (s.trans s1) hs1 (ss.mono s1)
/-- what a target does with a value of a kind -/
def EvG (g : TG) (G : Sto) (R : Ty) (G1 : Sto) : Prop := ∀ (v : V) (σ : St) (H F : Hp) (D : Own), HS D H F → SS F G σ → R.p v F → ∀ Q : St → Hp → Prop, (∀ σ', SS F G1 σ' → Q σ' H) → g v σ H Q
def EvGs (K : PySem.W.Frag) (g : TGs) (G : Sto) (ds : List PyData) (G1 : Sto) : Prop := ∀ (vs : List V) (σ : St) (H F : Hp) (D : Own), HS D H F → SS F G σ → DpAll K F vs ds → ∀ Q : St → Hp → Prop, (∀ σ', SS F G1 σ' → Q σ' H) → g vs σ H Q
theorem evG_name {i : Nat} : EvG (gName i) G R (G.set i (some R)) := fun v σ H F D hs ss r Q q => q _ (ss.set r i)
theorem evGs_nil : EvGs K gNil G [] G := fun vs σ H F D hs ss r Q q => by
  cases r
  exact ⟨rfl, q _ ss⟩
theorem evGs_cons {g : TG} {gs : TGs} {d : PyData} {ds : List PyData} (h1 : EvG g G (TL.D K d) G1) (h2 : EvGs K gs G1 ds G2) : EvGs K (gCons g gs) G (d :: ds) G2 := fun vs σ H F D hs ss r Q q => by
  cases r with
  | cons r1 r2 => exact ⟨_, _, rfl, h1 _ σ H F D hs ss r1 _ fun σ' ss' => h2 _ σ' H F D hs ss' r2 Q q⟩
theorem evG_tup {gs : TGs} {ds : List PyData} {n : Nat} (h : EvGs K gs G ds G1) (hn : ds.length = n) : EvG (gTup K n gs) G (TL.D K (.tuple ds)) G1 := fun v σ H F D hs ss r Q q => by
  obtain ⟨a, xs, rfl, h1, h2⟩ := dp_tup r
  exact ⟨a, xs, rfl, sqT_up hs h1, (dpAll_len h2).trans hn, h xs σ H F D hs ss h2 Q q⟩
theorem go_asg {g : TG} (h : Ev te G D0 R D1) (hg : EvG g G R G1) (k : Go E.nx F0 G1 D1) : Go (tAsg te g E) F0 G D0 := fun σ H F s hs ss =>
  h σ H F hs ss _ fun v H1 F1 s1 hs1 r1 => hg v σ H1 F1 D1 hs1 (ss.mono s1) r1 _ fun σ' ss' => k σ' H1 F1 (s.trans s1) hs1 ss'
theorem go_set {i : Nat} (h : Ev te G D0 R D1) (k : Go E.nx F0 (G.set i (some R)) D1) : Go (tAsg te (gName i) E) F0 G D0 := go_asg h evG_name k
/-- a new owned thing at a name -/
theorem go_setN {i : Nat} {O : OTy} (h : EvN te G D0 O D1) (k : ∀ p, Go E.nx F0 (G.set i (some (Is (.ref p)))) ((p, O) :: D1)) : Go (tAsg te (gName i) E) F0 G D0 := fun σ H F s hs ss =>
  h σ H F hs ss _ fun p H1 F1 s1 hs1 => k p _ H1 F1 (s.trans s1) hs1 ((ss.mono s1).set (R := Is (.ref p)) rfl i)
theorem go_par {i j : Nat} {t : TA} (h : EvA t G D0 [Ra, Rb] D1) (k : Go E.nx F0 ((G.set i (some Ra)).set j (some Rb)) D1) : Go (tPar i j t E) F0 G D0 := fun σ H F s hs ss =>
  h σ H F hs ss _ fun vs H1 F1 s1 hs1 r1 => by
    obtain ⟨v, w, rfl, r2, r3⟩ := allP2 r1
    exact ⟨v, w, rfl, k _ H1 F1 (s.trans s1) hs1 (((ss.mono s1).set r2 i).set r3 j)⟩
/-- xs[i] = e, xs owned -/
theorem go_setO {ds : List PyData} {i : Int} {j k : Nat} {a : Addr} {d : PyData} (h : Ev te G D0 (TL.D K d) D1) (ho : Ev ta G D1 (Is (.ref a)) D2) (hi : Ev tb G D2 (DI K i) D3) (hk : D3[k]? = some (a, OL K ds)) (hj : ixN ds.length i = some j)
    (q : Go E.nx F0 G (D3.set k (a, OL K (ds.set j d)))) : Go (tAsg te (gSub ta tb rSetL) E) F0 G D0 := fun σ H F s hs ss =>
  h σ H F hs ss _ fun v H1 F1 s1 hs1 r1 => ho σ H1 F1 hs1 (ss.mono s1) _ fun x H2 F2 s2 hs2 r2 => hi σ H2 F2 hs2 ((ss.mono s1).mono s2) _ fun y H3 F3 s3 hs3 r3 => by
    have ex : x = .ref a := r2
    subst ex
    rw [dp_int r3]
    obtain ⟨o, ho, xs, rfl, h2⟩ := hs3.at hk
    refine ⟨a, xs, i, j, rfl, rfl, ho, by rw [dpAll_len h2]; exact hj, ?_⟩
    exact q σ _ F3 (((s.trans s1).trans s2).trans s3) (hs3.put hk ⟨_, rfl, dpAll_set (dp_mono (s2.trans s3) d v r1) h2 j⟩) (((ss.mono s1).mono s2).mono s3)
/-- xs.append(e), xs owned -/
theorem go_app {ds : List PyData} {k : Nat} {a : Addr} {d : PyData} (ho : Ev ta G D0 (Is (.ref a)) D1) (h : Ev te G D1 (TL.D K d) D2) (hk1 : ∃ (k1 : Nat) (ds1 : List PyData), D1[k1]? = some (a, OL K ds1)) (hk : D2[k]? = some (a, OL K ds)) (hz : ds.length < 100000)
    (q : Go E.nx F0 G (D2.set k (a, OL K (ds ++ [d])))) : Go (tDrop (tBM K "list" rAppend ta (tCons te tNil)) E) F0 G D0 := fun σ H F s hs ss =>
  ho σ H F hs ss _ fun x H1 F1 s1 hs1 r1 => by
    have ex : x = .ref a := r1
    subst ex
    obtain ⟨k1, ds1, hk1⟩ := hk1
    obtain ⟨o1, ho1, xs1, rfl, h21⟩ := hs1.at hk1
    refine ⟨.inl ⟨rfl, xs1, SqL.of ho1⟩, h σ H1 F1 hs1 (ss.mono s1) _ fun v H2 F2 s2 hs2 r2 => ?_⟩
    obtain ⟨o, ho, xs, rfl, h2⟩ := hs2.at hk
    refine ⟨a, xs, v, rfl, rfl, ho, by rw [dpAll_len h2]; exact Nat.lt_of_lt_of_le hz sizeLine_big, ?_⟩
    exact q σ _ F2 ((s.trans s1).trans s2) (hs2.put hk ⟨_, rfl, dpAll_append h2 (.cons r2 .nil)⟩) ((ss.mono s1).mono s2)

/-! ## loops -/
def ItOk (K : PySem.W.Frag) (J : It) (ds : List PyData) (F0 : Hp) : Prop := ∀ (D : Own) (H F : Hp), Same F0 F → HS D H F → ∀ i : Nat,
  (∀ d, ds[i]? = some d → J.go i H ∧ ∀ x H', J.yld i H x H' → ∃ F2, Same F F2 ∧ HS D H' F2 ∧ Dp K F2 x d) ∧ (ds.length ≤ i → J.stop i H)
def EvIt (K : PySem.W.Frag) (wi : TI) (G : Sto) (D0 : Own) (ds : List PyData) (D1 : Own) : Prop := ∀ (σ : St) (H F : Hp), HS D0 H F → SS F G σ → ∀ R : It → Hp → Prop,
  (∀ J H' F', Same F F' → HS D1 H' F' → ItOk K J ds F' → R J H') → wi σ H R
theorem go_for {S : Type} {wi : TI} {g : TG} {tb : TS} {ds : List PyData} (hi : EvIt K wi G D0 ds D1) (I : Nat → S → Prop) (Gs : S → Sto) (Ds : S → Own) (s0 : S) (h0 : I 0 s0) (w0 : SLe G (Gs s0)) (d0 : (Ds s0).Sublist D1)
    (step : ∀ F1, Same F0 F1 → ∀ k s d, ds[k]? = some d → I k s → ∃ G', EvG g (Gs s) (TL.D K d) G' ∧ ∀ Nx : St → Hp → Prop, (∀ s', I (k + 1) s' → Go Nx F1 (Gs s') (Ds s')) → Go (tb { E with nx := Nx, ct := Nx, bk := E.nx }) F1 G' (Ds s))
    (done : ∀ s, I ds.length s → Go E.nx F0 (Gs s) (Ds s)) : Go (tFor wi g tb E) F0 G D0 := fun σ H F s hs ss =>
  hi σ H F hs ss _ fun J H1 F1 s1 hs1 ok => by
    refine ⟨fun i m σ H => m = ds.length - i ∧ i ≤ ds.length ∧ ∃ x, I i x ∧ StP F1 (Gs x) (Ds x) σ H, ⟨ds.length, by simp, Nat.zero_le _, s0, h0, F1, Same.refl _, hs1.drop d0, (ss.mono s1).weak w0⟩, ?_⟩
    rintro i m σ2 H2 ⟨rfl, hle, x, hx, F2, s2, hs2, ss2⟩
    by_cases hlt : i < ds.length
    · have hd : ds[i]? = some ds[i] := by simp [hlt]
      obtain ⟨go, yl⟩ := (ok (Ds x) H2 F2 s2 hs2 i).1 _ hd
      refine .inr ⟨go, fun σ' H' => ∃ x', I (i + 1) x' ∧ StP F1 (Gs x') (Ds x') σ' H', fun σ' H' p => ⟨ds.length - (i + 1), by omega, rfl, hlt, p⟩, fun v H3 hy => ?_⟩
      obtain ⟨F3, s3, hs3, r3⟩ := yl v H3 hy
      obtain ⟨G', hg, hb⟩ := step F1 (s.trans s1) i x _ hd hx
      exact hg v σ2 H3 F3 (Ds x) hs3 (ss2.mono s3) r3 _ fun σ4 ss4 => hb _ (fun x' hx' σ5 H5 F5 s5 hs5 ss5 => ⟨x', hx', F5, s5, hs5, ss5⟩) σ4 H3 F3 (s2.trans s3) hs3 ss4
    · have e : i = ds.length := by omega
      subst e
      exact .inl ⟨(ok (Ds x) H2 F2 s2 hs2 _).2 (Nat.le_refl _), done x hx σ2 H2 F2 ((s.trans s1).trans s2) hs2 ss2⟩
theorem evIt_list {tl : TE} {ds : List PyData} (h : Ev tl G D0 (TL.D K (.list ds)) D1) : EvIt K (iList K tl) G D0 ds D1 := fun σ H F hs ss R q =>
  h σ H F hs ss _ fun v H1 F1 s1 hs1 r1 => by
    obtain ⟨a, xs, rfl, h1, h2⟩ := dp_lst r1
    refine ⟨a, rfl, ⟨xs, sqL_up hs1 h1⟩, q _ H1 F1 s1 hs1 fun D H2 F2 s2 hs2 i => ⟨fun d hd => ?_, fun hl => ?_⟩⟩
    · obtain ⟨v, e1, e2⟩ := dpAll_get h2 hd
      have sq : SqL K H2 a xs := sqL_up hs2 (s2.seq h1)
      refine ⟨⟨xs, v, sq, e1⟩, fun x H' hy => ?_⟩
      obtain ⟨e3, e4⟩ := hy
      subst e3
      have e5 := e4 xs sq
      rw [e1] at e5
      cases e5
      exact ⟨F2, Same.refl _, hs2, dp_mono s2 d v e2⟩
    · exact ⟨xs, sqL_up hs2 (s2.seq h1), by rw [dpAll_len h2]; exact hl⟩
theorem evIt_tup {tl : TE} {ds : List PyData} (h : Ev tl G D0 (TL.D K (.tuple ds)) D1) : EvIt K (iTup K tl) G D0 ds D1 := fun σ H F hs ss R q =>
  h σ H F hs ss _ fun v H1 F1 s1 hs1 r1 => by
    obtain ⟨a, xs, rfl, h1, h2⟩ := dp_tup r1
    refine ⟨a, rfl, ⟨xs, sqT_up hs1 h1⟩, q _ H1 F1 s1 hs1 fun D H2 F2 s2 hs2 i => ⟨fun d hd => ?_, fun hl => ?_⟩⟩
    · obtain ⟨v, e1, e2⟩ := dpAll_get h2 hd
      have sq : SqT K H2 a xs := sqT_up hs2 (same_sqT s2 h1)
      refine ⟨⟨xs, v, sq, e1⟩, fun x H' hy => ?_⟩
      obtain ⟨e3, e4⟩ := hy
      subst e3
      have e5 := e4 xs sq
      rw [e1] at e5
      cases e5
      exact ⟨F2, Same.refl _, hs2, dp_mono s2 d v e2⟩
    · exact ⟨xs, sqT_up hs2 (same_sqT s2 h1), by rw [dpAll_len h2]; exact hl⟩
def rangeD (lo : Int) (n : Nat) : List PyData := (List.range n).map fun i : Nat => PyData.int (lo + (i : Int))
theorem rangeD_len {lo : Int} {n : Nat} : (rangeD lo n).length = n := by simp [rangeD]
theorem rangeD_get {lo : Int} {n i : Nat} {d : PyData} (h : (rangeD lo n)[i]? = some d) : i < n ∧ d = .int (lo + (i : Int)) := by
  unfold rangeD at h
  rw [List.getElem?_map] at h
  by_cases hi : i < n
  · rw [List.getElem?_range hi] at h
    cases h
    exact ⟨hi, rfl⟩
  · rw [List.getElem?_eq_none (by simpa using hi)] at h
    cases h
theorem itr_ok {lo : Int} {n : Nat} {F : Hp} : ItOk K (Itr lo n) (rangeD lo n) F := fun D H2 F2 s2 hs2 i => ⟨fun d hd => by
    obtain ⟨h1, rfl⟩ := rangeD_get hd
    refine ⟨h1, fun x H' hy => ?_⟩
    obtain ⟨e1, e2⟩ := hy
    subst e1 e2
    exact ⟨F2, Same.refl _, hs2, .int _⟩, fun hl => by rw [rangeD_len] at hl; exact hl⟩
theorem evIt_rng1 {n : Int} (h : Ev te G D0 (DI K n) D1) (hn : -(2 ^ 62) ≤ n ∧ n < 2 ^ 62) : EvIt K (iRng1 (tCons te tNil)) G D0 (rangeD 0 n.toNat) D1 := fun σ H F hs ss R q =>
  h σ H F hs ss _ fun v H1 F1 s1 hs1 r1 => ⟨n, by rw [dp_int r1], hn.1, hn.2, q _ H1 F1 s1 hs1 itr_ok⟩
theorem evIt_rng2 {lo n : Int} (ha : Ev ta G D0 (DI K lo) D1) (h : Ev te G D1 (DI K n) D2) (hn : -(2 ^ 62) ≤ lo ∧ lo < 2 ^ 62 ∧ -(2 ^ 62) ≤ n ∧ n < 2 ^ 62) : EvIt K (iRng2 (tCons ta (tCons te tNil))) G D0 (rangeD lo (n - lo).toNat) D2 := fun σ H F hs ss R q =>
  ha σ H F hs ss _ fun v H1 F1 s1 hs1 r1 => h σ H1 F1 hs1 (ss.mono s1) _ fun w H2 F2 s2 hs2 r2 => ⟨lo, n, by rw [dp_int r1, dp_int r2], hn, q _ H2 F2 (s1.trans s2) hs2 itr_ok⟩
theorem go_while {S : Type} {tb : TS} (I : S → Prop) (Gs : S → Sto) (Ds : S → Own) (μ : S → Nat) (bv : S → Bool) (s0 : S) (h0 : I s0) (w0 : SLe G (Gs s0)) (d0 : (Ds s0).Sublist D0)
    (hc : ∀ s, I s → EvT tt (Gs s) (Ds s) (bv s) (Ds s))
    (step : ∀ s, I s → bv s = true → ∀ Nx : St → Hp → Prop, (∀ s', I s' → μ s' < μ s → Go Nx F0 (Gs s') (Ds s')) → Go (tb { E with nx := Nx, ct := Nx, bk := E.nx }) F0 (Gs s) (Ds s))
    (done : ∀ s, I s → bv s = false → Go E.nx F0 (Gs s) (Ds s)) : Go (tWhile tt tb E) F0 G D0 := fun σ H F s hs ss => by
  refine ⟨fun m σ H => ∃ x, m = μ x ∧ I x ∧ StP F0 (Gs x) (Ds x) σ H, ⟨_, s0, rfl, h0, F, s, hs.drop d0, ss.weak w0⟩, ?_⟩
  rintro m σ2 H2 ⟨x, rfl, hx, F2, s2, hs2, ss2⟩
  refine hc x hx σ2 H2 F2 hs2 ss2 _ fun H3 F3 s3 hs3 => ?_
  cases e : bv x with
  | true =>
    refine ⟨fun σ' H' => ∃ x', I x' ∧ μ x' < μ x ∧ StP F0 (Gs x') (Ds x') σ' H', fun σ' H' ⟨x', h1, h2, h3⟩ => ⟨μ x', h2, x', rfl, h1, h3⟩, ?_⟩
    exact step x hx e _ (fun x' h1 h2 σ5 H5 F5 s5 hs5 ss5 => ⟨x', h1, h2, F5, s5, hs5, ss5⟩) σ2 H3 F3 (s2.trans s3) hs3 (ss2.mono s3)
  | false => exact done x hx e σ2 H3 F3 (s2.trans s3) hs3 (ss2.mono s3)

/-! ## calls -/
inductive Out where
  | ok (R : Ty)
  | err (c : Value)
  | new (O : OTy)
/-- a new owned thing is handed back -/
def GoN (P : VK) (F0 : Hp) (O : OTy) (D : Own) : Prop := ∀ p H F, Same F0 F → HS ((p, O) :: D) H F → P (.ref p) H
def Post (o : Out) (rt : VK) (X : XK) (F : Hp) (D : Own) : Prop := match o with
  | .ok R => GoV rt F R D
  | .err c => GoX X F c D
  | .new O => GoN rt F O D
theorem GoN.up {P : VK} {O : OTy} (h : GoN P F0 O D0) (s : Same F0 F1) : GoN P F1 O D0 := fun p H F s1 => h p H F (s.trans s1)
theorem go_retO {O : OTy} (h : EvN te G D0 O D1) (k : GoN E.rt F0 O D1) : Go (tRet te E) F0 G D0 := fun σ H F s hs ss =>
  h σ H F hs ss _ fun p H1 F1 s1 hs1 => k p H1 F1 (s.trans s1) hs1
theorem Post.up {o : Out} {rt : VK} {X : XK} (h : Post o rt X F0 D0) (s : Same F0 F1) : Post o rt X F1 D0 := by
  cases o with
  | ok R => exact GoV.up h s
  | err c => exact GoX.up h s
  | new O => exact GoN.up h s
theorem Post.new {rt : VK} {X : XK} {o : Out} {O : OTy} (h : Post o rt X F0 D0) (e : o = .new O) : GoN rt F0 O D0 := by subst e; exact h
theorem Post.ok {rt : VK} {X : XK} {o : Out} (h : Post o rt X F0 D0) (e : o = .ok R) : GoV rt F0 R D0 := by subst e; exact h
theorem Post.err {rt : VK} {X : XK} {o : Out} {c : Value} (h : Post o rt X F0 D0) (e : o = .err c) : GoX X F0 c D0 := by subst e; exact h
/-- a def that leaves all that is owned as it is -/
def fsp {T : Type} (args : T → List Ty) (pre : T → Prop) (out : T → Out) : Sp := fun vs H Q X => ∃ (x : T) (F : Hp) (D : Own), HS D H F ∧ AllP F (args x) vs ∧ pre x ∧ Post (out x) Q X F D
/-- a def whose first argument is owned, and changes from O to O1 -/
def fspM {T : Type} (O O1 : T → OTy) (args : T → List Ty) (pre : T → Prop) (out : T → Out) : Sp := fun vs H Q X => ∃ (x : T) (F : Hp) (D : Own) (k : Nat) (a : Addr), HS D H F ∧ D[k]? = some (a, O x) ∧ AllP F (Is (.ref a) :: args x) vs ∧ pre x ∧
  Post (out x) Q X F (D.set k (a, O1 x))
theorem ev_call {T : Type} {args : T → List Ty} {pre : T → Prop} {out : T → Out} {dvs : List V} {X : XK} {t : TA} {Rs Rd : List Ty} (x : T) (h : EvA t G D0 Rs D1) (hd : ∀ F, AllP F Rd dvs) (ea : args x = Rs ++ Rd) (hp : pre x) (ho : out x = .ok R) :
    Ev (tCall (fsp args pre out) dvs X t) G D0 R D1 := fun σ H F hs ss Q q =>
  h σ H F hs ss _ fun vs H1 F1 s1 hs1 r1 => ⟨x, F1, D1, hs1, by rw [ea]; exact r1.append (hd F1), hp, by rw [ho]; exact fun v H2 F2 s2 hs2 r2 => q v H2 F2 (s1.trans s2) hs2 r2⟩
theorem ev_call0 {T : Type} {args : T → List Ty} {pre : T → Prop} {out : T → Out} {X : XK} {t : TA} (x : T) (h : EvA t G D0 (args x) D1) (hp : pre x) (ho : out x = .ok R) : Ev (tCall (fsp args pre out) [] X t) G D0 R D1 :=
  ev_call x h (Rd := []) (fun _ => .nil) (by simp) hp ho
theorem ev_callM {T : Type} {O O1 : T → OTy} {args : T → List Ty} {pre : T → Prop} {out : T → Out} {X : XK} {t : TA} {k : Nat} {a : Addr} (x : T) (h : EvA t G D0 (Is (.ref a) :: args x) D1) (hk : D1[k]? = some (a, O x)) (hp : pre x) (ho : out x = .ok R) :
    Ev (tCall (fspM O O1 args pre out) [] X t) G D0 R (D1.set k (a, O1 x)) := fun σ H F hs ss Q q =>
  h σ H F hs ss _ fun vs H1 F1 s1 hs1 r1 => ⟨x, F1, D1, k, a, hs1, hk, by rw [List.append_nil]; exact r1, hp, by rw [ho]; exact fun v H2 F2 s2 hs2 r2 => q v H2 F2 (s1.trans s2) hs2 r2⟩
theorem evN_call0 {T : Type} {args : T → List Ty} {pre : T → Prop} {out : T → Out} {X : XK} {t : TA} {O : OTy} (x : T) (h : EvA t G D0 (args x) D1) (hp : pre x) (ho : out x = .new O) : EvN (tCall (fsp args pre out) [] X t) G D0 O D1 := fun σ H F hs ss Q q =>
  h σ H F hs ss _ fun vs H1 F1 s1 hs1 r1 => ⟨x, F1, D1, hs1, by rw [List.append_nil]; exact r1, hp, by rw [ho]; exact fun p H2 F2 s2 hs2 => q p H2 F2 (s1.trans s2) hs2⟩
/-- the owned argument is made in the call -/
theorem ev_callMN {T : Type} {O O1 : T → OTy} {args : T → List Ty} {pre : T → Prop} {out : T → Out} {X : XK} {t : TA} (x : T) (h : EvN te G D0 (O x) D1) (hr : ∀ p, EvA t G ((p, O x) :: D1) (args x) ((p, O x) :: D1)) (hp : pre x) (ho : out x = .ok R) :
    Ev (tCall (fspM O O1 args pre out) [] X (tCons te t)) G D0 R D1 := fun σ H F hs ss Q q =>
  h σ H F hs ss _ fun p H1 F1 s1 hs1 => hr p σ H1 F1 hs1 (ss.mono s1) _ fun vs H2 F2 s2 hs2 r2 => ⟨x, F2, (p, O x) :: D1, 0, p, hs2, rfl, by rw [List.append_nil]; exact .cons rfl r2, hp, by
    rw [ho]
    exact fun v H3 F3 s3 hs3 r3 => q v H3 F3 ((s1.trans s2).trans s3) (hs3.drop (List.sublist_cons_self _ _)) r3⟩
/-- a def's reading from its walk -/
theorem pure_of {T : Type} {args : T → List Ty} {pre : T → Prop} {out : T → Out} {N : List Str} {tf : TS} {vs : List V} {H : Hp} {Q : VK} {X : XK}
    (walk : ∀ (x : T) (F : Hp) (D : Own) (E : Ends), E.rt = Q → (∀ (K : PySem.W.Frag) G D1, GoV Q F (DN K) D1 → Go E.nx F G D1) → pre x → Post (out x) Q X F D → Go (tf E) F ((args x).map some ++ List.replicate (N.length - (args x).length) none) D)
    (h : fsp args pre out vs H Q X) : tf { nx := fun _ H' => Q .non H', rt := Q } (L2.start N vs) H := by
  obtain ⟨x, F, D, hs, ha, hp, po⟩ := h
  have z := SS.start (N := N) ha
  rw [ha.len] at z
  exact walk x F D { nx := fun _ H' => Q .non H', rt := Q } rfl (fun K G D1 k σ H F1 s hs ss => k _ H F1 s hs .non) hp po _ H F (Same.refl _) hs z
theorem pure_ofM {T : Type} {O O1 : T → OTy} {args : T → List Ty} {pre : T → Prop} {out : T → Out} {N : List Str} {tf : TS} {vs : List V} {H : Hp} {Q : VK} {X : XK}
    (walk : ∀ (x : T) (F : Hp) (D : Own) (k : Nat) (a : Addr) (E : Ends), D[k]? = some (a, O x) → E.rt = Q → (∀ (K : PySem.W.Frag) G D1, GoV Q F (DN K) D1 → Go E.nx F G D1) → pre x → Post (out x) Q X F (D.set k (a, O1 x)) →
      Go (tf E) F (some (Is (.ref a)) :: ((args x).map some ++ List.replicate (N.length - ((args x).length + 1)) none)) D)
    (h : fspM O O1 args pre out vs H Q X) : tf { nx := fun _ H' => Q .non H', rt := Q } (L2.start N vs) H := by
  obtain ⟨x, F, D, k, a, hs, hk, ha, hp, po⟩ := h
  have z := SS.start (N := N) ha
  rw [ha.len] at z
  exact walk x F D k a { nx := fun _ H' => Q .non H', rt := Q } hk rfl (fun K G D1 k σ H F1 s hs ss => k _ H F1 s hs .non) hp po _ H F (Same.refl _) hs z
theorem fsp_len {T : Type} {args : T → List Ty} {pre : T → Prop} {out : T → Out} {n : Nat} (e : ∀ x, (args x).length = n) : ∀ vs H Q E, fsp args pre out vs H Q E → vs.length = n := fun vs H Q E ⟨x, F, D, _, ha, _⟩ => by rw [ha.len, e]
theorem fspM_len {T : Type} {O O1 : T → OTy} {args : T → List Ty} {pre : T → Prop} {out : T → Out} {n : Nat} (e : ∀ x, (args x).length + 1 = n) : ∀ vs H Q E, fspM O O1 args pre out vs H Q E → vs.length = n := fun vs H Q E ⟨x, F, D, k, a, _, _, ha, _⟩ => by rw [ha.len, ← e x]; rfl
end
end TL

set_option Elab.async false
set_option linter.all false
set_option maxRecDepth 100000
set_option maxHeartbeats 1000000
namespace TL
open PySem PySem.Spec L2
open PyProof.Rows (AllBare)

/-! ## an exception that stands as a value: of the class cls, at a -/
def ExT (cls : Value) (a : Addr) : HO := .ext fun h => ∃ (oe : Obj) (vs : Array Value), h.get? a = some oe ∧ Zc cls none oe ∧ oe.data = .fields vs
theorem exT_ok {P : Program} {w : World} {H : Hp} {h : Heap} {a : Addr} {cls : Value} {oe : Obj} {vs : Array Value} (e : h.get? a = some oe) (z : Zc cls none oe) (d : oe.data = .fields vs) : ObjOk P w H h a (ExT cls a) :=
  ⟨⟨oe, vs, e, z, d⟩, ⟨oe, e⟩, fun h1 h2 ⟨o1, v1, a1, a2, a3⟩ k => ⟨o1, v1, k o1 a1, a2, a3⟩⟩
/-- as Inv.landed, the exception's object is tracked too -/
theorem landedT {X : Cx} {pins : List (Addr × Obj)} {σ : St} {H : Hp} {sI s' : Shared} {B : Heap} {a : Addr} {o : HO} (I : Inv X pins σ H sI) (nb : ∀ b o, sI.heap.get? b = some o → b ∉ frs X.stack → B.get? b = some o) (st : B.StaysIn s'.heap) (up : sI.heap.UpToSlots s'.heap) (os : s'.os = sI.os) (ag : AllBare s'.gens)
    (na : H a = none) (ga : sI.heap.get? a = none) (new : ObjOk X.prog X.w (upd H a o) s'.heap a o) : Inv X pins σ (upd H a o) s' := by
  have nf : ∀ b ∈ frs X.stack, ∀ o, sI.heap.get? b = some o → ∃ sl, s'.heap.get? b = some { o with slots := sl } := fun b hb o e =>
    let ⟨_, o2, e2, hd⟩ := I.stack.mem hb
    up b o e (by
      have z : o = o2 := Option.some.inj (e.symm.trans e2)
      rw [z]
      exact hd)
  have ne : ∀ b u, sI.heap.get? b = some u → b ≠ a := fun b u e z => by rw [z, ga] at e; cases e
  have ne2 : ∀ b u, H b = some u → b ≠ a := fun b u e z => by rw [z, na] at e; cases e
  have J := I.call (ch := []) (h' := s'.heap) (g' := s'.gens) (t' := s'.toks) (d' := s'.drawn) (H' := upd H a o)
    ⟨fun b o e _ hb _ => st b o (nb b o e hb), fun b o e _ hb _ => nf b hb o e, fun b u e n _ => (upd_ne (ne b u e)).trans n, fun b o e _ => by
      by_cases hb : b ∈ frs X.stack
      · obtain ⟨sl, q⟩ := nf b hb o e
        exact ⟨_, q⟩
      · exact ⟨o, st b o (nb b o e hb)⟩, fun b xs e => (upd_ne (ne2 b _ e)).trans e, fun b _ _ e => (upd_ne (ne2 b _ e)).trans e, fun b ps e => ⟨#[], by rw [upd_ne (ne2 b _ e), e]; simp⟩⟩
    ((I.inGround nb).laidN st na new) ag (fun _ z => nomatch z)
  obtain ⟨a1, a2, a3, a4, a5⟩ := s'
  have e5 : a5 = sI.os := os
  subst e5
  exact J
theorem suiteT {X : Cx} {pins : List (Addr × Obj)} {σ : St} {H : Hp} {s : Shared} {a : Addr} (I : Inv X pins σ H s) : Inv (X.suite a (X.pn ++ pins)) [] σ H s :=
  ⟨I.ok.suite _ _, I.os, I.bare, I.base, I.loc, I.cell, I.free, I.freeC, fun p hp => I.pin p (by rw [List.append_nil] at hp; exact hp), I.hok, I.len⟩
theorem unsuiteT {X : Cx} {pins pn' : List (Addr × Obj)} {σ : St} {H : Hp} {s : Shared} {a : Addr} (I : Inv (X.suite a (X.pn ++ pins)) pn' σ H s) (ok : X.Ok) : Inv X pins σ H s :=
  ⟨ok, I.os, I.bare, I.base, I.loc, I.cell, I.free, I.freeC, fun p hp => I.pin p (List.mem_append_left _ hp), I.hok, I.len⟩
/-- what the clause 'except x as n' wishes, the exception tracked -/
def wAsT (K : PySem.W.Frag) (c : Value) (i : Nat) (ts : TS) (Wout : WX) (D : Ends) : WX := fun cls d σ H =>
  ∃ b, PySem.W.exmOne K cls c = some b ∧ (b = true → d = none ∧ ∀ a, H a = none → ts { nx := fun σ' H' => D.nx (σ'.set i none) H', rt := D.rt, bk := fun σ' H' => D.bk (σ'.set i none) H', ct := fun σ' H' => D.ct (σ'.set i none) H' } (σ.set i (some (.ref a))) (upd H a (ExT cls a))) ∧
    (b = false → Wout cls d σ H)
section
variable {X : Cx} {x n : Str} {c : Value} {i : Nat} {body suite : List Stmt} {b0 : Stmt} {np pos pos' : Pos} {tb : WX → TS} {ts : TS} {Wout : WX}
/-- an exception's record is none of the frames -/
theorem off_frames {B h : Heap} {l : List Env} {a : Addr} {o : Obj} {vs : Array Value} (ff : h.FunFrames B l) (e : h.get? a = some o) (q : o.data = .fields vs) : a ∉ frs l := fun m => by
  obtain ⟨_, o2, e2, no⟩ := ff.mem m
  rw [e] at e2
  cases e2
  exact no _ q
/-- the class that the clause names, read in the suite's surroundings -/
theorem clause_names {pins : List (Addr × Obj)} {σ : St} {H : Hp} {s : Shared} {a : Addr} (I : Inv (X.suite a (X.pn ++ pins)) [] σ H s) (hc : Names X x c) {Q : Value → Shared → Prop} {E : Value → Shared → Prop} (q : Q c s) :
    wpAny (model X.prog X.w) (X.A.mark (some (.ref a))) (eval (.Name x np) X.env) Q E s := by
  obtain ⟨g, nd, m | ⟨m, bt, nn⟩⟩ := hc
  · exact ld_glob (X := X.suite a (X.pn ++ pins)) I g m q nd
  · exact ld_blt (X := X.suite a (X.pn ++ pins)) I g m bt q nn nd
/-- no clause takes it: on it goes -/
theorem goes_on {pins pins' : List (Addr × Obj)} {σ : St} {H : Hp} {sI s1 : Shared} {B : Heap} {a : Addr} {cls : Value} {d : Option Addr} {D : Ends} (hs : X.stack = X.env :: X.outer) (hf : X.env.frame = some X.env.locals) (tk : Takes X Wout)
    (J : Inv X pins' σ H sI) (nb : ∀ b o, sI.heap.get? b = some o → b ∉ frs X.stack → B.get? b = some o) (fl : HandSPX.FlyingZ B (X.env :: X.outer) a (Zc cls d) s1.heap) (up : sI.heap.UpToSlots s1.heap) (na : H a = none) (os : s1.os = sI.os) (ag : AllBare s1.gens) (w : Wout cls d σ H) :
    wpAny (model X.prog X.w) X.A (handleBy (.ref a) X.env []) (L2.SP X pins D) X.xe s1 := by
  refine wpAny_handleBy_nil ?_
  obtain ⟨_, _, _, oe, vs, t, ot, us, he, hz, hd, h1, _⟩ := id fl
  unfold PySem.passOn
  have last : wpAny (model X.prog X.w) X.A (setFlight (.ref a) X.env.frame) (fun _ z => wpAny (model X.prog X.w) X.A (throw (.ref a) : Sem Flow) (L2.SP X pins D) X.xe z) X.xe s1 := by
    rw [hf]
    exact HandSPX.setFlight_upZ fl fun h2 fl2 up2 => wpAny_throw (tk _ _ ⟨a, B, sI, pins', σ, H, cls, d, rfl, J, nb, up.trans up2, .inr (.inr (by rw [hs]; exact fl2)), na, os, ag, w⟩)
  refine wpAny_bind (wpAny_field he hd h1 ?_)
  have nn : ¬ ((Value.ref t == Value.none) = true) := by simp
  rw [if_neg nn]
  first
    | exact wpAny_bind last
    | exact wpAny_bind (wpAny_pure (wpAny_bind last))
theorem ps_try_asT (hs : X.stack = X.env :: X.outer) (hf : X.env.frame = some X.env.locals) (hN : X.N.Nodup) (hi : X.N[i]? = some n) (hln : X.env.kindOf n = some .local) (hc : Names X x c) (tk : Takes X Wout)
    (hb : ∀ (W : WX) (pn : List (Addr × Obj)) (xe : Value → Shared → Prop), Takes (X.tr pn xe) W → PassesOwn (model X.prog X.w) X.A X.env xe → PSs (X.tr pn xe) body (tb W))
    (hsu : ∀ (a : Addr) (pn : List (Addr × Obj)), PSs (X.suite a pn) (b0 :: suite) ts) :
    PS X (.Try body [.ExceptHandler (some (.Name x np)) (some n) (b0 :: suite) pos'] [] [] pos) (fun D σ H => tb (wAsT X.K c i ts Wout D) D σ H) := by
  refine ⟨fun pins s σ H D I h => wpAny_Try_except ?_⟩
  have ok := I.ok
  have frames : X.A.frames = some (X.env :: X.outer) := by rw [ok.frames, hs]
  let after : Value → Shared → Prop := fun e s1 => wpAny (model X.prog X.w) X.A (noteFrame e X.env) (fun _ s2 => wpAny (model X.prog X.w) X.A (setFlight e none) (fun _ s3 =>
    wpAny (model X.prog X.w) X.A (handleBy e X.env [.ExceptHandler (some (.Name x np)) (some n) (b0 :: suite) pos']) (L2.SP X pins D) X.xe s3) X.xe s2) X.xe s1
  have takes : Takes (X.tr (X.pn ++ pins) after) (wAsT X.K c i ts Wout D) := by
    rintro u s1 ⟨a, B, sI, pins2, σ2, H2, cls, d, rfl, J0, nb, up, sky, na, os, ag, k, hk, yes, no⟩
    have J : Inv X pins σ2 H2 sI := J0.ofTry ok
    rw [show (X.tr (X.pn ++ pins) after).stack = X.env :: X.outer from hs] at sky
    refine Sky.land Zc.steady frames hf sky fun h3 fl3 up3 => ?_
    have J3 : Inv X pins σ2 H2 { s1 with heap := h3 } := J.landed nb fl3.1 (up.trans up3) os ag
    obtain ⟨o3, v3, e3, z3, d3⟩ := fl3.there
    have off := off_frames fl3.2.2.1 e3 d3
    have away : sI.heap.get? a = none := by
      cases q : sI.heap.get? a with
      | none => rfl
      | some u =>
        have z := nb a u q (by rw [show (X.tr (X.pn ++ pins) after).stack = X.env :: X.outer from hs]; exact off)
        rw [fl3.2.1] at z
        cases z
    have cl : PySem.W.Looks (model X.prog X.w) h3 (typeOf (.ref a)) cls := fun A Q E s kp q => wpAny_typeOf_ref (kp _ _ e3) (by rw [z3.1]; exact q)
    refine wpAny_handleBy_cons (codeAny_handlers_test (clause_names (suiteT (a := a) J3) hc ((PySem.W.exm_one (M := model X.prog X.w) J3.kIn cl hk).here ?_))) (by intro q; cases q)
    cases k with
    | false => exact goes_on hs hf tk J nb fl3 (up.trans up3) na os ag (no rfl)
    | true =>
      obtain ⟨rfl, yes2⟩ := yes rfl
      refine codeAny_handlers_suite_as (HandSPX.lands_againZ fl3 fun h4 fl4 up4 => ?_)
      obtain ⟨o4, v4, e4, z4, d4⟩ := fl4.there
      have J4 : Inv X pins σ2 (upd H2 a (ExT cls a)) { s1 with heap := h4 } := landedT J nb fl4.1 ((up.trans up3).trans up4) os ag na away (exT_ok e4 z4 d4)
      refine store_ok (X := X.suite a (X.pn ++ pins)) (v := .ref a) (suiteT (a := a) J4) hN hi (.inl hln) rfl (fun s5 S5 => ?_) (.inr hln)
      refine wpAny_mono ((hsu a (X.pn ++ pins)).run [] s5 _ _ _ S5 (yes2 a na)) (fun f s6 out => ?_) (fun _ _ z => False.elim z)
      have fin : ∀ {σ6 : St} {H6 : Hp} {Q : Shared → Prop}, Inv (X.suite a (X.pn ++ pins)) [] σ6 H6 s6 → (∀ s7, Inv X pins (σ6.set i none) H6 s7 → Q s7) →
          wpAny (model X.prog X.w) X.A (do bindName X.env n .none; unbindBehindTheSuite X.env n pos') (fun _ s7 => Q s7) X.xe s6 := fun S6 hq => gone_ok (unsuiteT S6 ok) hN hi hln hq
      match f, out with
      | .next, ⟨σ6, H6, S6, q6⟩ => exact fin S6 fun s7 J7 => ⟨_, H6, J7, q6⟩
      | .brk, ⟨σ6, H6, S6, q6⟩ => exact fin S6 fun s7 J7 => ⟨_, H6, J7, q6⟩
      | .cont, ⟨σ6, H6, S6, q6⟩ => exact fin S6 fun s7 J7 => ⟨_, H6, J7, q6⟩
      | .ret u, ⟨v6, σ6, H6, S6, r6, q6⟩ => exact fin S6 fun s7 J7 => ⟨v6, _, H6, J7, r6, q6⟩
  refine wpAny_mono ((hb _ (X.pn ++ pins) after takes PassesOwn.looking).run [] s σ H D (I.toTry _) h) (fun f s1 out => ?_) (fun e s1 he => he)
  match f, out with
  | .next, ⟨σ2, H2, J, q⟩ => exact wpAny_execs_nil ⟨σ2, H2, J.ofTry ok, q⟩
  | .brk, ⟨σ2, H2, J, q⟩ => exact ⟨σ2, H2, J.ofTry ok, q⟩
  | .cont, ⟨σ2, H2, J, q⟩ => exact ⟨σ2, H2, J.ofTry ok, q⟩
  | .ret u, ⟨v, σ2, H2, J, r, q⟩ => exact ⟨v, σ2, H2, J.ofTry ok, r, q⟩
end

/-! ## isinstance -/
theorem exT_inst {X : Cx} {pins : List (Addr × Obj)} {σ : St} {H : Hp} {s : Shared} {a C : Addr} (I : Inv X pins σ H s) (h : H a = some (ExT (.ref C) a)) : ∃ oe, PySem.W.InstAt s.heap a oe C none := by
  obtain ⟨⟨oe, vs, hget, hz, hv⟩, _, _⟩ := I.hok a _ h
  obtain ⟨oc, od, oda, osl⟩ := oe
  obtain ⟨h1, h2⟩ := hz
  dsimp only at h1 h2 hv
  subst h1 h2 hv
  exact ⟨_, hget, rfl, rfl, trivial⟩
def rIsX (K : PySem.W.Frag) : List V → Hp → VK → Prop := fun xs H Q => ∃ (a C : Addr) (c : V) (u : Value) (b : Bool), xs = [.ref a, c] ∧ H a = some (ExT (.ref C) a) ∧ ExcC K C ∧ ClsV c u ∧ PySem.W.kitOne K (.ref C) u = some b ∧ Q (.bl b) H
def rIsXT (K : PySem.W.Frag) : List V → Hp → VK → Prop := fun xs H Q => ∃ (a C tp : Addr) (cs : List V) (us : List Value) (b : Bool), xs = [.ref a, .ref tp] ∧ H a = some (ExT (.ref C) a) ∧ ExcC K C ∧ SqT K H tp cs ∧ Paired ClsV cs us ∧ PySem.W.kitAny K (.ref C) us = some b ∧ Q (.bl b) H
section
variable {X : Cx}
theorem call_isX : CallR X (.builtin "isinstance") (rIsX X.K) := by
  intro pins s σ H xs us Q I r h
  obtain ⟨a, C, c, u, b, rfl, ha, hC, k, e, q⟩ := h
  obtain ⟨u1, u2, rfl, r1, r2⟩ := vals2 r
  have e2 := k.eq r2
  subst e2
  cases (show u1 = Value.ref a from r1)
  obtain ⟨oe, J⟩ := exT_inst I ha
  exact PySem.W.kia_one (PySem.W.handS_kitx_exc hC.hg hC.hk hC.hs hC.hd hC.ha hC.hn hC.ht hC.hm) I.kIn J e (fun z => nomatch z) fun tk => ⟨.bl b, H, I.tok tk, rfl, q⟩
theorem call_isXT : CallR X (.builtin "isinstance") (rIsXT X.K) := by
  intro pins s σ H xs us Q I r h
  obtain ⟨a, C, tp, cs, ws, b, rfl, ha, hC, hT, k, e, q⟩ := h
  obtain ⟨u1, u2, rfl, r1, r2⟩ := vals2 r
  cases (show u2 = Value.ref tp from r2)
  cases (show u1 = Value.ref a from r1)
  obtain ⟨oe, J⟩ := exT_inst I ha
  obtain ⟨its, rv, ⟨o, h1, h2, n, h3⟩, _⟩ := I.tuple hT
  have e3 := ClsV.all k rv
  subst e3
  obtain ⟨oc, od, dt, sl⟩ := o
  simp only at h2 h3
  subst h2 h3
  exact PySem.W.kia_tup (PySem.W.handS_kitx_exc hC.hg hC.hk hC.hs hC.hd hC.ha hC.hn hC.ht hC.hm) I.kIn J h1 e (fun z => nomatch z) fun tk => ⟨.bl b, H, I.tok tk, rfl, q⟩
/-- a value's class, asked of data: either an exception or data -/
theorem CallR.or {f : Value} {r r' : List V → Hp → VK → Prop} (h : CallR X f r) (h' : CallR X f r') : CallR X f (fun xs H Q => r xs H Q ∨ r' xs H Q) := fun pins s σ H xs us Q I rr z => by
  rcases z with z | z
  · exact h pins s σ H xs us Q I rr z
  · exact h' pins s σ H xs us Q I rr z
def cIsi (K : PySem.W.Frag) : List V → Hp → VK → Prop := fun xs H Q => rIsi K xs H Q ∨ rIsX K xs H Q
def cIsiT (K : PySem.W.Frag) : List V → Hp → VK → Prop := fun xs H Q => rIsiT K xs H Q ∨ rIsXT K xs H Q
theorem call_isiA : CallR X (.builtin "isinstance") (cIsi X.K) := CallR.or call_isi call_isX
theorem call_isiTA : CallR X (.builtin "isinstance") (cIsiT X.K) := CallR.or call_isiT call_isXT
end
def tyN : PyData → String
  | .none => "NoneType" | .bool _ => "bool" | .int _ => "int" | .str _ => "str" | .list _ => "list" | .tuple _ => "tuple" | .dict _ => "dict"
theorem tyX_of {K : PySem.W.Frag} {H : Hp} {v : V} {d : PyData} (h : Dp K H v d) : TyX K H v (.type (tyN d)) := by
  cases h with
  | non => exact .base .non
  | bl b => exact .base (.bl b)
  | int i => exact .base (.int i)
  | str x => exact .base (.str x)
  | lst h1 h2 =>
    rcases h1 with (h1 | ⟨o, h1⟩) | ⟨_, _, _, h1, h2, _⟩
    · exact .base (.lst h1)
    · exact .base (.frz h1)
    · exact .kList h1 h2
  | tup h1 h2 =>
    rcases h1 with (h1 | ⟨o, h1⟩) | ⟨_, _, _, h1, h2, _⟩
    · exact .base (.tup h1)
    · exact .fTuple h1
    · exact .kTuple h1 h2
/-- an exception as a value -/
def IsEx (C : Addr) : Ty := ⟨fun v F => ∃ a, v = .ref a ∧ F a = some (ExT (.ref C) a), fun s ⟨a, e, h⟩ => ⟨a, e, s _ _ h⟩⟩
/-- a tuple of values -/
def TupT (K : PySem.W.Frag) (Rs : List Ty) : Ty := ⟨fun v F => ∃ a xs, v = .ref a ∧ SqT K F a xs ∧ AllP F Rs xs, fun s ⟨a, xs, e, h1, h2⟩ => ⟨a, xs, e, same_sqT s h1, h2.mono s⟩⟩
section
variable {K : PySem.W.Frag} {G G1 G2 : Sto} {D0 D1 D2 D3 : Own} {te ta tb tc : TE} {tt tu : TT} {R Ra Rb : Ty} {E En : Ends} {F0 F1 : Hp} {t u : TS}
theorem ev_tupT {t : TA} {Rs : List Ty} (h : EvA t G D0 Rs D1) (hl : Rs.length ≤ 100000) : Ev (tTup t) G D0 (TupT K Rs) D1 := fun σ H F hs ss Q q =>
  h σ H F hs ss _ fun vs H1 F1 s1 hs1 r1 => by
    refine ⟨by rw [r1.len]; exact Nat.le_trans hl sizeLine_big, fun p hp => ?_⟩
    have s2 : Same F1 (upd F1 p (.tup vs)) := same_new (hs1.free hp)
    exact q _ _ _ (s1.trans s2) (hs1.frz hp) ⟨p, vs, rfl, SqT.of upd_same, r1.mono s2⟩
theorem ev_isi {d : PyData} {n : String} {b : Bool} (h : Ev te G D0 (D K d) D1) (k : kitB (tyN d) n = some b) : Ev (tCB (cIsi K) (tCons te (tCons (tC (.ty n)) tNil))) G D0 (DB K b) D1 :=
  evCB (evA_cons h (evA_cons (ev_c (R := Is (.ty n)) fun _ => rfl) evA_nil)) fun vs H F hs r Q q => by
    obtain ⟨v, w, rfl, h1, h2⟩ := allP2 r
    have e : w = .ty n := h2
    subst e
    exact .inl ⟨v, .ty n, _, _, b, rfl, .ty n, tyX_of (dp_up hs h1), kit_ty k, q _ H F (Same.refl _) hs (.bl _)⟩
/-- data against an own class -/
theorem ev_isiC {d : PyData} {C : Addr} {b : Bool} (h : Ev te G D0 (D K d) D1) (k : PySem.W.kitOne K (.type (tyN d)) (.ref C) = some b) : Ev (tCB (cIsi K) (tCons te (tCons (tC (.ref C)) tNil))) G D0 (DB K b) D1 :=
  evCB (evA_cons h (evA_cons (ev_c (R := Is (.ref C)) fun _ => rfl) evA_nil)) fun vs H F hs r Q q => by
    obtain ⟨v, w, rfl, h1, h2⟩ := allP2 r
    have e : w = .ref C := h2
    subst e
    exact .inl ⟨v, .ref C, _, _, b, rfl, .own C, tyX_of (dp_up hs h1), k, q _ H F (Same.refl _) hs (.bl _)⟩
theorem ev_isX {C : Addr} {c : V} {u : Value} {b : Bool} (h : Ev te G D0 (IsEx C) D1) (hC : ExcC K C) (hc : ClsV c u) (k : PySem.W.kitOne K (.ref C) u = some b) : Ev (tCB (cIsi K) (tCons te (tCons (tC c) tNil))) G D0 (DB K b) D1 :=
  evCB (evA_cons h (evA_cons (ev_c (R := Is c) fun _ => rfl) evA_nil)) fun vs H F hs r Q q => by
    obtain ⟨v, w, rfl, ⟨a, e1, h1⟩, h2⟩ := allP2 r
    have e : w = c := h2
    subst e e1
    exact .inr ⟨a, C, w, u, b, rfl, hs.sub _ _ h1, hC, hc, k, q _ H F (Same.refl _) hs (.bl _)⟩
/-- a written tuple of own classes -/
def tCls : List Addr → TA
  | [] => tNil
  | C :: r => tCons (tC (.ref C)) (tCls r)
theorem evA_cls : ∀ {Cs : List Addr}, EvA (tCls Cs) G D0 (Cs.map fun C => Is (.ref C)) D0
  | [] => evA_nil
  | C :: r => evA_cons (ev_c (R := Is (.ref C)) fun _ => rfl) evA_cls
theorem cls_pair {F : Hp} : ∀ {Cs : List Addr} {cs : List V}, AllP F (Cs.map fun C => Is (.ref C)) cs → Paired ClsV cs (Cs.map Value.ref)
  | [], _, h => by cases h; exact .nil
  | C :: r, _, h => by
    cases h with
    | cons h1 h2 =>
      cases h1
      exact .cons (.own C) (cls_pair h2)
theorem ev_isXT {C : Addr} {Cs : List Addr} {b : Bool} (h : Ev te G D0 (IsEx C) D1) (hC : ExcC K C) (hl : Cs.length ≤ 100000) (k : PySem.W.kitAny K (.ref C) (Cs.map Value.ref) = some b) : Ev (tCB (cIsiT K) (tCons te (tCons (tTup (tCls Cs)) tNil))) G D0 (DB K b) D1 :=
  evCB (evA_cons h (evA_cons (ev_tupT (K := K) evA_cls (by simpa using hl)) evA_nil)) fun vs H F hs r Q q => by
    obtain ⟨v, w, rfl, ⟨a, e1, h1⟩, ⟨tp, cs, e2, h2, h3⟩⟩ := allP2 r
    subst e1 e2
    exact .inr ⟨a, C, tp, cs, Cs.map Value.ref, b, rfl, hs.sub _ _ h1, hC, sqT_up hs h2, cls_pair h3, k, q _ H F (Same.refl _) hs (.bl _)⟩

/-! ## raise, try -/
/-- raise X('..') -/
def tRaiseX (C : Addr) (X : XK) : TS := fun _ _ H => X (.ref C) none H
theorem go_raise {C : Addr} {X : XK} (h : GoX X F0 (.ref C) D0) : Go (tRaiseX C X E) F0 G D0 := fun σ H F s hs ss => h H F s hs
/-- in a try's body: W is what the clauses wish -/
def tRaiseW (C : Addr) (W : WX) : TS := fun _ σ H => W (.ref C) none σ H
/-- a call that gives something -/
theorem ev_callS {T : Type} {args : T → List Ty} {pre : T → Prop} {out : T → Out} {X : St → XK} {t : TA} (x : T) (h : EvA t G D0 (args x) D1) (hp : pre x) (ho : out x = .ok R) : Ev (tCallS (fsp args pre out) X t) G D0 R D1 := fun σ H F hs ss Q q =>
  h σ H F hs ss _ fun vs H1 F1 s1 hs1 r1 => ⟨x, F1, D1, hs1, r1, hp, by rw [ho]; exact fun v H2 F2 s2 hs2 r2 => q v H2 F2 (s1.trans s2) hs2 r2⟩
/-- a call that raises: the whole statement is done -/
def EvX (te : TE) (G : Sto) (D : Own) (P : St → Hp → Prop) (F0 : Hp) : Prop := ∀ σ H F, Same F0 F → HS D H F → SS F G σ → ∀ Q : VK, te σ H Q
theorem evX_callS {T : Type} {args : T → List Ty} {pre : T → Prop} {out : T → Out} {W : WX} {t : TA} {c : Value} (x : T) (h : EvA t G D0 (args x) D1) (hp : pre x) (ho : out x = .err c) (hW : Go (W c none) F0 G D1) {P : St → Hp → Prop} : EvX (tCallS (fsp args pre out) (WE W) t) G D0 P F0 := fun σ H F s hs ss Q =>
  h σ H F hs ss _ fun vs H1 F1 s1 hs1 r1 => ⟨x, F1, D1, hs1, r1, hp, by rw [ho]; exact fun H2 F2 s2 hs2 => hW σ H2 F2 ((s.trans s1).trans s2) hs2 ((ss.mono s1).mono s2)⟩
theorem go_dropX {P : St → Hp → Prop} (h : EvX te G D0 P F0) : Go (tDrop te E) F0 G D0 := fun σ H F s hs ss => h σ H F s hs ss _
theorem go_asgX {P : St → Hp → Prop} {g : TG} (h : EvX te G D0 P F0) : Go (tAsg te g E) F0 G D0 := fun σ H F s hs ss => h σ H F s hs ss _
/-- the clause takes it -/
theorem go_wAsT {C : Addr} {c : Value} {i : Nat} {ts : TS} {Wout : WX} (e : PySem.W.exmOne K (.ref C) c = some true)
    (h : Go (ts { nx := fun σ' H' => E.nx (σ'.set i none) H', rt := E.rt, bk := fun σ' H' => E.bk (σ'.set i none) H', ct := fun σ' H' => E.ct (σ'.set i none) H' }) F0 (G.set i (some (IsEx C))) D0) : Go (wAsT K c i ts Wout E (.ref C) none) F0 G D0 := fun σ H F s hs ss =>
  ⟨true, e, fun _ => ⟨rfl, fun a ha => h _ _ (upd F a (ExT (.ref C) a)) (s.trans (same_new (hs.free ha))) (hs.frz ha) ((ss.mono (same_new (hs.free ha))).set (R := IsEx C) ⟨a, rfl, upd_same⟩ i)⟩, fun z => nomatch z⟩
theorem go_unset {P : St → Hp → Prop} {i : Nat} (h : Go P F0 (G.set i none) D0) : Go (fun σ H => P (σ.set i none) H) F0 G D0 := fun σ H F s hs ss => h _ H F s hs (ss.unset i)
end
end TL

set_option Elab.async false
set_option linter.all false
set_option maxRecDepth 100000
set_option maxHeartbeats 1000000
namespace TL
open PySem PySem.Spec L2
/-! ## operators that take what comes -/
def CDivA (_ j : Int) : Prop := j ≠ 0 ∧ j.natAbs.log2 < 9000
abbrev rAddS : R2 := fun x y H Q => ∃ i j, x = .str i ∧ y = .str j ∧ i.length + j.length ≤ sizeLine ∧ Q (.str (i ++ j)) H
abbrev rAddI : R2 := rI0 fun i j => .int (i + j)
abbrev rSubI : R2 := rI0 fun i j => .int (i - j)
abbrev rMulI : R2 := rI CMulW fun i j => .int (i * j)
abbrev rDivI : R2 := rI CDivA fun i j => .int (i.fdiv j)
abbrev rModI : R2 := rI (fun _ j => j ≠ 0) fun i j => .int (i.fmod j)
abbrev rPowI : R2 := rI CPow fun i j => .int (i ^ j.toNat)
abbrev rLtI : R2 := rI0 fun i j => .bl (decide (i < j))
abbrev rLeI : R2 := rI0 fun i j => .bl (decide (i ≤ j))
abbrev rGtI : R2 := rI0 fun i j => .bl (decide (j < i))
abbrev rGeI : R2 := rI0 fun i j => .bl (decide (j ≤ i))
def qAdd (K : PySem.W.Frag) : R2 := fun x y H Q => rAddI x y H Q ∨ rAddS x y H Q ∨ rCat x y H Q ∨ rCatT K x y H Q
def qMul (K : PySem.W.Frag) : R2 := fun x y H Q => rMulI x y H Q ∨ rRep x y H Q
def qEq (K : PySem.W.Frag) : R2 := fun x y H Q => rEq x y H Q ∨ rEqD K x y H Q
def qNe (K : PySem.W.Frag) : R2 := fun x y H Q => rNe x y H Q ∨ rNeD K x y H Q
def qNegI : V → Hp → VK → Prop := rU fun i => .int (-i)
section
variable {X : Cx}
theorem op_div : OpR X (binaryOp .FloorDiv) rDivI := opI fun i j _ _ _ _ _ hc q => PyProof.Rows.floordiv_int hc.1 q (.inl (PyProof.noPylong_of_log2 hc.2))
theorem op_addU : OpR X (binaryOp .Add) (qAdd X.K) := op_add.or (op_add_str.or (op_cat.or op_catT))
theorem op_mulU : OpR X (binaryOp .Mult) (qMul X.K) := op_mulW.or op_rep
theorem op_eqU (hu : X.A.units + 64 < cLine) : OpR X (compareOp .Eq) (qEq X.K) := op_eq.or (op_eqD hu)
theorem op_neU (hu : X.A.units + 64 < cLine) : OpR X (compareOp .NotEq) (qNe X.K) := op_ne.or (op_neD hu)
theorem un_negU : UnR X (unaryOp .USub) qNegI := un_neg
end
section
variable {K : PySem.W.Frag} {G G1 G2 : Sto} {D0 D1 D2 D3 : Own} {te ta tb tc : TE} {tt tu : TT} {R Ra Rb : Ty}
theorem ev_orL {r r' : R2} (h : Ev (tOp r ta tb) G D0 R D1) : Ev (tOp (fun x y H Q => r x y H Q ∨ r' x y H Q) ta tb) G D0 R D1 → True := fun _ => trivial
theorem ev2l {r r' : R2} (ha : Ev ta G D0 Ra D1) (hb : Ev tb G D1 Rb D2) (hr : ∀ x y H F, HS D2 H F → Ra.p x F → Rb.p y F → ∀ Q : VK, (∀ v H' F', Same F F' → HS D3 H' F' → R.p v F' → Q v H') → r x y H Q ∨ r' x y H Q) : Ev (tOp (fun x y H Q => r x y H Q ∨ r' x y H Q) ta tb) G D0 R D3 := ev2 ha hb hr
theorem ev_add {i j : Int} (ha : Ev ta G D0 (DI K i) D1) (hb : Ev tb G D1 (DI K j) D2) : Ev (tOp (qAdd K) ta tb) G D0 (DI K (i + j)) D2 :=
  ev2 ha hb fun x y H F hs rx ry Q q => by
    rw [dp_int rx, dp_int ry]
    exact .inl ⟨i, j, rfl, rfl, q _ H F (Same.refl _) hs (.int _)⟩
theorem ev_addS {i j : Str} (ha : Ev ta G D0 (DS K i) D1) (hb : Ev tb G D1 (DS K j) D2) (hl : i.length + j.length ≤ 100000) : Ev (tOp (qAdd K) ta tb) G D0 (DS K (i ++ j)) D2 :=
  ev2 ha hb fun x y H F hs rx ry Q q => by
    rw [dp_str rx, dp_str ry]
    exact .inr (.inl ⟨i, j, rfl, rfl, Nat.le_trans hl sizeLine_big, q _ H F (Same.refl _) hs (.str _)⟩)
theorem ev_sub {i j : Int} (ha : Ev ta G D0 (DI K i) D1) (hb : Ev tb G D1 (DI K j) D2) : Ev (tOp rSubI ta tb) G D0 (DI K (i - j)) D2 := ev_opI0 ha hb
theorem ev_mul {i j : Int} (ha : Ev ta G D0 (DI K i) D1) (hb : Ev tb G D1 (DI K j) D2) (c : CMulW i j) : Ev (tOp (qMul K) ta tb) G D0 (DI K (i * j)) D2 :=
  ev2 ha hb fun x y H F hs rx ry Q q => by
    rw [dp_int rx, dp_int ry]
    exact .inl ⟨i, j, rfl, rfl, c, q _ H F (Same.refl _) hs (.int _)⟩
theorem ev_div {i j : Int} (ha : Ev ta G D0 (DI K i) D1) (hb : Ev tb G D1 (DI K j) D2) (c : CDivA i j) : Ev (tOp rDivI ta tb) G D0 (DI K (i.fdiv j)) D2 := ev_opI ha hb c
theorem ev_mod {i j : Int} (ha : Ev ta G D0 (DI K i) D1) (hb : Ev tb G D1 (DI K j) D2) (c : j ≠ 0) : Ev (tOp rModI ta tb) G D0 (DI K (i.fmod j)) D2 := ev_opI (C := fun _ j => j ≠ 0) ha hb c
theorem ev_pow {i j : Int} (ha : Ev ta G D0 (DI K i) D1) (hb : Ev tb G D1 (DI K j) D2) (c : CPow i j) : Ev (tOp rPowI ta tb) G D0 (DI K (i ^ j.toNat)) D2 := ev_opI ha hb c
theorem ev_neg {i : Int} (ha : Ev ta G D0 (DI K i) D1) : Ev (tUn qNegI ta) G D0 (DI K (-i)) D1 := ev_unI ha
theorem ev_lt {i j : Int} (ha : Ev ta G D0 (DI K i) D1) (hb : Ev tb G D1 (DI K j) D2) : Ev (tOp rLtI ta tb) G D0 (DB K (decide (i < j))) D2 := ev_opB0 ha hb
theorem ev_le {i j : Int} (ha : Ev ta G D0 (DI K i) D1) (hb : Ev tb G D1 (DI K j) D2) : Ev (tOp rLeI ta tb) G D0 (DB K (decide (i ≤ j))) D2 := ev_opB0 ha hb
theorem ev_gt {i j : Int} (ha : Ev ta G D0 (DI K i) D1) (hb : Ev tb G D1 (DI K j) D2) : Ev (tOp rGtI ta tb) G D0 (DB K (decide (j < i))) D2 := ev_opB0 (g := fun i j => decide (j < i)) ha hb
theorem ev_ge {i j : Int} (ha : Ev ta G D0 (DI K i) D1) (hb : Ev tb G D1 (DI K j) D2) : Ev (tOp rGeI ta tb) G D0 (DB K (decide (j ≤ i))) D2 := ev_opB0 (g := fun i j => decide (j ≤ i)) ha hb
theorem ev_inl {r r' : R2} (h : Ev (tOp r ta tb) G D0 R D1) (m : True := trivial) : Ev (tOp (fun x y H Q => r x y H Q ∨ r' x y H Q) ta tb) G D0 R D1 → True := fun _ => trivial
theorem eq_I {i j : Int} (ha : Ev ta G D0 (DI K i) D1) (hb : Ev tb G D1 (DI K j) D2) : Ev (tOp (qEq K) ta tb) G D0 (DB K (decide (i = j))) D2 :=
  ev2 ha hb fun x y H F hs rx ry Q q => by
    rw [dp_int rx, dp_int ry]
    refine .inl ⟨rfl, ?_⟩
    rw [dec_int, Bool.beq_eq_decide_eq]
    exact q _ H F (Same.refl _) hs (.bl _)
theorem ne_I {i j : Int} (ha : Ev ta G D0 (DI K i) D1) (hb : Ev tb G D1 (DI K j) D2) : Ev (tOp (qNe K) ta tb) G D0 (DB K (!decide (i = j))) D2 :=
  ev2 ha hb fun x y H F hs rx ry Q q => by
    rw [dp_int rx, dp_int ry]
    refine .inl ⟨rfl, ?_⟩
    rw [dec_int, Bool.beq_eq_decide_eq]
    exact q _ H F (Same.refl _) hs (.bl _)
theorem eq_S {i j : Str} (ha : Ev ta G D0 (DS K i) D1) (hb : Ev tb G D1 (DS K j) D2) : Ev (tOp (qEq K) ta tb) G D0 (DB K (decide (i = j))) D2 :=
  ev2 ha hb fun x y H F hs rx ry Q q => by
    rw [dp_str rx, dp_str ry]
    refine .inl ⟨rfl, ?_⟩
    have e : decide (V.str i = V.str j) = decide (i = j) := by simp
    rw [e]
    exact q _ H F (Same.refl _) hs (.bl _)
theorem ne_S {i j : Str} (ha : Ev ta G D0 (DS K i) D1) (hb : Ev tb G D1 (DS K j) D2) : Ev (tOp (qNe K) ta tb) G D0 (DB K (!decide (i = j))) D2 :=
  ev2 ha hb fun x y H F hs rx ry Q q => by
    rw [dp_str rx, dp_str ry]
    refine .inl ⟨rfl, ?_⟩
    have e : decide (V.str i = V.str j) = decide (i = j) := by simp
    rw [e]
    exact q _ H F (Same.refl _) hs (.bl _)
theorem eq_B {i j : Bool} (ha : Ev ta G D0 (DB K i) D1) (hb : Ev tb G D1 (DB K j) D2) : Ev (tOp (qEq K) ta tb) G D0 (DB K (i == j)) D2 :=
  ev2 ha hb fun x y H F hs rx ry Q q => by
    rw [dp_bl rx, dp_bl ry]
    refine .inl ⟨rfl, ?_⟩
    rw [dec_bl]
    exact q _ H F (Same.refl _) hs (.bl _)
theorem ne_B {i j : Bool} (ha : Ev ta G D0 (DB K i) D1) (hb : Ev tb G D1 (DB K j) D2) : Ev (tOp (qNe K) ta tb) G D0 (DB K (!(i == j))) D2 :=
  ev2 ha hb fun x y H F hs rx ry Q q => by
    rw [dp_bl rx, dp_bl ry]
    refine .inl ⟨rfl, ?_⟩
    rw [dec_bl]
    exact q _ H F (Same.refl _) hs (.bl _)
theorem eq_D {d e : PyData} (ha : Ev ta G D0 (D K d) D1) (hb : Ev tb G D1 (D K e) D2) (sd : SeqAt.shaped d = true) (se : SeqAt.shaped e = true) : Ev (tOp (qEq K) ta tb) G D0 (DB K (PyData.eqv d e)) D2 :=
  ev2 ha hb fun x y H F hs rx ry Q q => .inr ⟨d, e, dp_up hs rx, dp_up hs ry, sd, se, q _ H F (Same.refl _) hs (.bl _)⟩
theorem ne_D {d e : PyData} (ha : Ev ta G D0 (D K d) D1) (hb : Ev tb G D1 (D K e) D2) (sd : SeqAt.shaped d = true) (se : SeqAt.shaped e = true) : Ev (tOp (qNe K) ta tb) G D0 (DB K (!PyData.eqv d e)) D2 :=
  ev2 ha hb fun x y H F hs rx ry Q q => .inr ⟨d, e, dp_up hs rx, dp_up hs ry, sd, se, q _ H F (Same.refl _) hs (.bl _)⟩
/-- items, by the rule for all sequences -/
theorem ix_T {ds : List PyData} {i : Int} {d : PyData} (ha : Ev ta G D0 (D K (.tuple ds)) D1) (hb : Ev tb G D1 (DI K i) D2) (e : atI ds i = some d) : Ev (tOp (rIx K) ta tb) G D0 (D K d) D2 :=
  ev2 ha hb fun x y H F hs rx ry Q q => by
    obtain ⟨a, xs, rfl, h1, h2⟩ := dp_tup rx
    rw [dp_int ry]
    obtain ⟨v, e1, e2⟩ := atI_map h2 e
    exact .inr (.inl ⟨a, xs, i, v, rfl, rfl, sqT_up hs h1, e1, q _ H F (Same.refl _) hs e2⟩)
theorem ix_L {ds : List PyData} {i : Int} {d : PyData} (ha : Ev ta G D0 (D K (.list ds)) D1) (hb : Ev tb G D1 (DI K i) D2) (e : atI ds i = some d) : Ev (tOp (rIx K) ta tb) G D0 (D K d) D2 :=
  ev2 ha hb fun x y H F hs rx ry Q q => by
    obtain ⟨a, xs, rfl, h1, h2⟩ := dp_lst rx
    rw [dp_int ry]
    obtain ⟨v, e1, e2⟩ := atI_map h2 e
    exact .inl ⟨a, xs, i, v, rfl, rfl, sqL_up hs h1, e1, q _ H F (Same.refl _) hs e2⟩
theorem ix_O {ds : List PyData} {i : Int} {d : PyData} {k : Nat} {a : Addr} (ha : Ev ta G D0 (Is (.ref a)) D1) (hb : Ev tb G D1 (DI K i) D2) (hk : D2[k]? = some (a, OL K ds)) (e : atI ds i = some d) : Ev (tOp (rIx K) ta tb) G D0 (D K d) D2 :=
  ev2 ha hb fun x y H F hs rx ry Q q => by
    have ex : x = .ref a := rx
    subst ex
    rw [dp_int ry]
    obtain ⟨o, ho, xs, rfl, h2⟩ := hs.at hk
    obtain ⟨v, e1, e2⟩ := atI_map h2 e
    exact .inl ⟨a, xs, i, v, rfl, rfl, SqL.of ho, e1, q _ H F (Same.refl _) hs e2⟩
end

/-! ## defs by name -/
structure Fo (P : Program) (w : World) (K : PySem.W.Frag) (mg : Str → Option Value) (base : Heap) (x : Str) (ps : List Str) (dvs : List V) (k : Nat) (sp : Sp) : Prop where
  ex : ∃ f fd ds, FnOk P w K mg base (L2.CX P w) k f fd ps sp ∧ mg x = some (.ref f) ∧ PySem.W.keepIn K (.ref f) = true ∧ Binds K fd ps ds ∧ Vals dvs ds
section
variable {X : Cx} {x : Str} {ps : List Str} {dvs : List V} {k : Nat} {sp : Sp} {t : TA} {e : Expr} {es : List Expr} {p pos : Pos} {EX : XK} {W : WX}
theorem pe_callF (F : Fo X.prog X.w X.K X.mg X.base x ps dvs k sp) (hr : Room k X.A) (hx : Passes (L2.CX X.prog X.w) X EX) (ha : PA X (e :: es) t) (hg : Gl X x := by rfl) (hdb : (x == ("__debug__" : Str)) = false := by decide)
    (he : starEach (e :: es) X.env = (false, eval e X.env) :: starEach es X.env := by rfl) (hpl : (backTo pos (starEach es X.env)).any (·.1) = false := by rfl) : PE X (.Call (.Name x p) (e :: es) [] pos) (tCall sp dvs EX t) := by
  obtain ⟨f, fd, ds, G, hm, hk, hb, hd⟩ := F.ex
  exact pe_call G hr hg hm hk hb hd hx ha hdb he hpl
def tCallSD (sp : Sp) (dvs : List V) (E : St → XK) (t : TA) : TE := fun σ H Q => t σ H fun vs H1 => sp (vs ++ dvs) H1 Q (E σ)
theorem pe_callFS (F : Fo X.prog X.w X.K X.mg X.base x ps dvs k sp) (hr : Room k X.A) (tk : Takes X W) (ha : PA X (e :: es) t) (hg : Gl X x := by rfl) (hdb : (x == ("__debug__" : Str)) = false := by decide)
    (he : starEach (e :: es) X.env = (false, eval e X.env) :: starEach es X.env := by rfl) (hpl : (backTo pos (starEach es X.env)).any (·.1) = false := by rfl) : PE X (.Call (.Name x p) (e :: es) [] pos) (tCallSD sp dvs (WE W) t) := by
  obtain ⟨f, fd, ds, FF, hm, hk, hb, hd⟩ := F.ex
  refine ⟨fun pins s σ H Q I h => ?_⟩
  refine wpAny_Call_Name_kw (ld_glob I hg hm ?_ hdb)
  refine PySem.W.callWith_K (h₀ := X.base) I.ok.mod.kin hk (thn (ha.run pos pins s σ H _ I h) fun us s1 ⟨vs, H1, I1, r, q⟩ => ⟨I1.kIn, ?_⟩) he hpl
  have r2 : Vals (vs ++ dvs) (us ++ ds) := r.append hd
  have hl : (us ++ ds).length = ps.length := by rw [← r2.length]; exact FF.len _ _ _ _ q
  refine wpAny_call (codeAny_mono (FF.run X.A X.stack s1 H1 ⟨us, []⟩ (us ++ ds) (vs ++ dvs) Q (WE W σ) hr I1.env0 (hb s1 us I1.kIn hl) r2 q) fun r s' hq => ?_)
  cases r with
  | error e => exact passAt tk σ pins H1 s1 e s' I1 hq
  | ok fl =>
    cases fl with
    | ret u => exact I1.after hq
    | next => exact False.elim hq
    | brk => exact False.elim hq
    | cont => exact False.elim hq
end
section
variable {K : PySem.W.Frag} {G G1 G2 : Sto} {D0 D1 D2 D3 : Own} {te ta tb tc : TE} {R Ra Rb : Ty} {E : Ends} {F0 F1 : Hp}
theorem ev_callSD {T : Type} {args : T → List Ty} {pre : T → Prop} {out : T → Out} {X : St → XK} {t : TA} (x : T) (h : EvA t G D0 (args x) D1) (hp : pre x) (ho : out x = .ok R) : Ev (tCallSD (fsp args pre out) [] X t) G D0 R D1 := fun σ H F hs ss Q q =>
  h σ H F hs ss _ fun vs H1 F1 s1 hs1 r1 => ⟨x, F1, D1, hs1, by rw [List.append_nil]; exact r1, hp, by rw [ho]; exact fun v H2 F2 s2 hs2 r2 => q v H2 F2 (s1.trans s2) hs2 r2⟩
theorem evX_callSD {T : Type} {args : T → List Ty} {pre : T → Prop} {out : T → Out} {W : WX} {t : TA} {c : Value} (x : T) (h : EvA t G D0 (args x) D1) (hp : pre x) (ho : out x = .err c) (hW : Go (W c none) F0 G D1) {P : St → Hp → Prop} : EvX (tCallSD (fsp args pre out) [] (WE W) t) G D0 P F0 := fun σ H F s hs ss Q =>
  h σ H F hs ss _ fun vs H1 F1 s1 hs1 r1 => ⟨x, F1, D1, hs1, by rw [List.append_nil]; exact r1, hp, by rw [ho]; exact fun H2 F2 s2 hs2 => hW σ H2 F2 ((s.trans s1).trans s2) hs2 ((ss.mono s1).mono s2)⟩
end
/-- a def of the text by its facts -/
theorem fo_mk {P : Program} {w : World} {K : PySem.W.Frag} {mg : Str → Option Value} {base : Heap} {x : Str} {ps : List Str} {k : Nat} {sp : Sp} {f : Addr} {fd : FuncData} {name qual : Str} {params : Arguments} {body : List Stmt} {scope : Scope}
    (F : FunD K name qual params body scope [] [] f fd) (hm : mg x = some (.ref f)) (ok : FnOk P w K mg base (L2.CX P w) k f fd ps sp)
    (h : ∀ (kV doc pm : Value) (an : Option Addr) (cdv ct : Value) (us : List Value), us.length = ps.length → bindArgs (PySem.W.fnOf name qual params body scope .none kV doc pm an cdv ct) ⟨us, []⟩ = pure (ps.zip us)) : Fo P w K mg base x ps [] k sp :=
  ⟨f, fd, [], ok, hm, F.kp, FunD.bindsN F h, .nil⟩
/-- .. called with n values, defaults behind the first j fill up -/
theorem fo_mkD {P : Program} {w : World} {K : PySem.W.Frag} {mg : Str → Option Value} {base : Heap} {x : Str} {ps : List Str} {k : Nat} {sp : Sp} {f : Addr} {fd : FuncData} {name qual : Str} {params : Arguments} {body : List Stmt} {scope : Scope} {dvs : List V}
    (F : FunD K name qual params body scope dvs [] f fd) (hm : mg x = some (.ref f)) (ok : FnOk P w K mg base (L2.CX P w) k f fd ps sp) (n j : Nat) (hd : dvs ≠ []) (hn : n + (dvs.length - j) = ps.length)
    (h : ∀ (T : Addr) (kV doc pm : Value) (an : Option Addr) (cdv ct : Value) (us its : List Value), us.length = n → its.length = dvs.length →
      ∃ k, bindArgs (PySem.W.fnOf name qual params body scope (.ref T) kV doc pm an cdv ct) ⟨us, []⟩ = seqItems? (.ref T) >>= k ∧ k (some its.toArray) = pure (ps.zip (us ++ its.drop j))) : Fo P w K mg base x ps (dvs.drop j) k sp := by
  obtain ⟨ds, h1, h2⟩ := FunD.binds1 F n j hd hn h
  exact ⟨f, fd, ds, ok, hm, F.kp, h2, h1⟩
end TL

set_option Elab.async false
set_option linter.all false
set_option maxRecDepth 100000
set_option maxHeartbeats 1000000
namespace TL
open PySem PySem.Spec L2
/-! ## short forms for the printed terms -/
section
variable {X : Cx} {x : Str} {pos : Pos}
theorem pe_globI {i : Int} (hg : Gl X x) (hm : ∃ t, X.mg x = some (.int i t)) (hd : (x == ("__debug__" : Str)) = false := by decide) : PE X (.Name x pos) (tC (.int i)) := by
  obtain ⟨t, h⟩ := hm
  exact pe_glob hg h ⟨t, rfl⟩ hd
theorem pe_globS {i : Str} (hg : Gl X x) (hm : ∃ t, X.mg x = some (.str i t)) (hd : (x == ("__debug__" : Str)) = false := by decide) : PE X (.Name x pos) (tC (.str i)) := by
  obtain ⟨t, h⟩ := hm
  exact pe_glob hg h ⟨t, rfl⟩ hd
def iSeq (K : PySem.W.Frag) (tl : TE) : TI := fun σ H R => iList K tl σ H R ∨ iTup K tl σ H R
theorem pi_seq {tg l : Expr} {tl : TE} (hl : PE X l tl) : PI X tg l (iSeq X.K tl) := ⟨fun pins s σ H R I h => by
  rcases h with h | h
  · exact (pi_list hl).run pins s σ H R I h
  · exact (pi_tup hl).run pins s σ H R I h⟩
/-- what is known of an own error's class -/
structure ExOk (K : PySem.W.Frag) (C : Addr) : Prop where
  x : PySem.W.excIn K C He.veBase "ValueError.__new__" = true
  k : PySem.W.keepIn K (.ref C) = true
  b : PySem.W.subIn K (.ref C) (.type "BaseException") = some true
  t : PySem.W.typeIn K (.ref C) = some (.type "type")
  c : ExcC K C
theorem ExOk.pmk {C : Addr} {m : Str} {j : Nat} {p p2 : Pos} (o : ExOk X.K C) (gC : X.mg x = some (.ref C)) (hg : Gl X x) (hdb : (x == ("__debug__" : Str)) = false := by decide) : PMk X (.Call (.Name x p) [.Constant (.str m) j p2] [] pos) (fun _ H Q => Q (.ref C) none H) :=
  pmk_own PySem.F.excBase_ValueError o.x gC o.k (raises_own o.b o.t) hg hdb
theorem ps_raiseX {C : Addr} {e : Expr} {EX : XK} (hc : X.calm = true) (tk : Takes X (fun cls d _ H => EX cls d H)) (he : PMk X e (fun _ H Q => Q (.ref C) none H)) : PS X (.Raise (some e) none pos) (tRaiseX C EX) := ps_raise hc tk he
theorem ps_raiseW {C : Addr} {e : Expr} {W : WX} (hc : X.calm = true) (tk : Takes X W) (he : PMk X e (fun _ H Q => Q (.ref C) none H)) : PS X (.Raise (some e) none pos) (tRaiseW C W) := ps_raise hc tk he
def tTryAs (K : PySem.W.Frag) (c : Value) (i : Nat) (tb : WX → TS) (ts : TS) (Wout : WX) : TS := fun D σ H => tb (wAsT K c i ts Wout D) D σ H
theorem ps_tryAs {n : Str} {c : Value} {i : Nat} {body suite : List Stmt} {b₀ : Stmt} {np pos' : Pos} {tb : WX → TS} {ts : TS} {Wout : WX} (hs : X.stack = X.env :: X.outer) (hf : X.env.frame = some X.env.locals) (hN : X.N.Nodup) (hi : X.N[i]? = some n) (hln : X.env.kindOf n = some .local) (hc : Names X x c) (tk : Takes X Wout)
    (hb : ∀ (W : WX) (pn : List (Addr × Obj)) (xe : Value → Shared → Prop), Takes (X.tr pn xe) W → PassesOwn (model X.prog X.w) X.A X.env xe → PSs (X.tr pn xe) body (tb W))
    (hsu : ∀ (a : Addr) (pn : List (Addr × Obj)), PSs (X.suite a pn) (b₀ :: suite) ts) :
    PS X (.Try body [.ExceptHandler (some (.Name x np)) (some n) (b₀ :: suite) pos'] [] [] pos) (tTryAs X.K c i tb ts Wout) := ps_try_asT hs hf hN hi hln hc tk hb hsu
end
section
variable {K : PySem.W.Frag} {G G1 G2 : Sto} {D0 D1 D2 D3 : Own} {te ta tb tc : TE} {tt tu : TT} {R Ra Rb : Ty} {E En : Ends} {F0 F1 : Hp} {t u : TS}
theorem evIt_seqL {tl : TE} {ds : List PyData} (h : Ev tl G D0 (TL.D K (.list ds)) D1) : EvIt K (iSeq K tl) G D0 ds D1 := fun σ H F hs ss R q => .inl (evIt_list h σ H F hs ss R q)
theorem evIt_seqT {tl : TE} {ds : List PyData} (h : Ev tl G D0 (TL.D K (.tuple ds)) D1) : EvIt K (iSeq K tl) G D0 ds D1 := fun σ H F hs ss R q => .inr (evIt_tup h σ H F hs ss R q)
theorem go_tryAs {c : Value} {i : Nat} {tb : WX → TS} {ts : TS} {Wout : WX} (h : ∀ W, W = wAsT K c i ts Wout E → Go (tb W E) F0 G D0) : Go (tTryAs K c i tb ts Wout E) F0 G D0 := h _ rfl
end
/-! ## kinds by class names -/
theorem tyX_mono {K : PySem.W.Frag} {F F' : Hp} {v : V} {n : Value} (s : Same F F') (h : TyX K F v n) : TyX K F' v n := by
  cases h with
  | base h =>
    cases h with
    | non => exact .base .non
    | bl b => exact .base (.bl b)
    | int i => exact .base (.int i)
    | str x => exact .base (.str x)
    | flt x => exact .base (.flt x)
    | lst e => exact .base (.lst (s _ _ e))
    | frz e => exact .base (.frz (s _ _ e))
    | tup e => exact .base (.tup (s _ _ e))
    | dK e => exact .base (.dK (s _ _ e))
    | dT e => exact .base (.dT (s _ _ e))
    | ins e cl ha hn htk hm => exact .base (.ins (s _ _ e) cl ha hn htk hm)
  | byt b => exact .byt b
  | set e => exact .set (s _ _ e)
  | kList e c => exact .kList e c
  | kTuple e c => exact .kTuple e c
  | kDict e c => exact .kDict e c
  | fTuple e => exact .fTuple (s _ _ e)
  | fDict e => exact .fDict (s _ _ e)
/-- a value of the built-in class n -/
def Of (K : PySem.W.Frag) (n : String) : Ty := ⟨fun v F => TyX K F v (.type n), tyX_mono⟩
theorem of_d {K : PySem.W.Frag} {d : PyData} {n : String} (e : tyN d = n) : ∀ v F, (D K d).p v F → (Of K n).p v F := fun v F h => by
  subst e
  exact tyX_of h
section
variable {K : PySem.W.Frag} {G G1 G2 : Sto} {D0 D1 D2 D3 : Own} {te ta tb tc : TE} {tt tu : TT} {R Ra Rb : Ty} {E En : Ends} {F0 F1 : Hp} {t u : TS}
theorem ev_isiO {m n : String} {b : Bool} (h : Ev te G D0 (Of K m) D1) (k : kitB m n = some b) : Ev (tCB (cIsi K) (tCons te (tCons (tC (.ty n)) tNil))) G D0 (DB K b) D1 :=
  evCB (evA_cons h (evA_cons (ev_c (R := Is (.ty n)) fun _ => rfl) evA_nil)) fun vs H F hs r Q q => by
    obtain ⟨v, w, rfl, h1, h2⟩ := allP2 r
    have e : w = .ty n := h2
    subst e
    exact .inl ⟨v, .ty n, _, _, b, rfl, .ty n, tyX_mono hs.sub h1, kit_ty k, q _ H F (Same.refl _) hs (.bl _)⟩
/-- a list of values of kinds -/
def LstT (K : PySem.W.Frag) (Rs : List Ty) : Ty := ⟨fun v F => ∃ a xs, v = .ref a ∧ SqL K F a xs ∧ AllP F Rs xs, fun s ⟨a, xs, e, h1, h2⟩ => ⟨a, xs, e, s.seq h1, h2.mono s⟩⟩
theorem ev_lstT {t : TA} {Rs : List Ty} (h : EvA t G D0 Rs D1) (hl : Rs.length ≤ 100000) : Ev (tLst t) G D0 (LstT K Rs) D1 := fun σ H F hs ss Q q =>
  h σ H F hs ss _ fun vs H1 F1 s1 hs1 r1 => by
    refine ⟨by rw [r1.len]; exact Nat.le_trans hl sizeLine_big, fun p hp => ?_⟩
    have s2 : Same F1 (upd F1 p (.lst vs)) := same_new (hs1.free hp)
    exact q _ _ _ (s1.trans s2) (hs1.frz hp) ⟨p, vs, rfl, SqL.of upd_same, r1.mono s2⟩
theorem atI_all {F : Hp} {Rs : List Ty} {vs : List V} (h : AllP F Rs vs) {i : Int} {R : Ty} (e : atI Rs i = some R) : ∃ v, atI vs i = some v ∧ R.p v F := by
  unfold atI at e ⊢
  rw [h.len]
  cases q : ixN Rs.length i with
  | none => rw [q] at e; cases e
  | some j =>
    rw [q] at e
    exact h.get e
theorem ix_LT {Rs : List Ty} {i : Int} (ha : Ev ta G D0 (LstT K Rs) D1) (hb : Ev tb G D1 (DI K i) D2) (e : atI Rs i = some R) : Ev (tOp (rIx K) ta tb) G D0 R D2 :=
  ev2 ha hb fun x y H F hs rx ry Q q => by
    obtain ⟨a, xs, rfl, h1, h2⟩ := rx
    rw [dp_int ry]
    obtain ⟨v, e1, e2⟩ := atI_all h2 e
    exact .inl ⟨a, xs, i, v, rfl, rfl, sqL_up hs h1, e1, q _ H F (Same.refl _) hs e2⟩
end
/-! ## the head -/
open PySem.W in
abbrev AlZ : Type := He.AlD × Bool
def obsZG (n : Nat) (fa : List He.Fa) (fn : List He.DefD) (ex : PySem.W.Frag → Bool) (g : Addr → Option Obj) : AlZ := (He.obsD fa fn (He.frG g (He.asD g n)), ex (He.frG g (He.asD g n)))
def SaysZ (fa : List He.Fa) (fn : List He.DefD) (ex : PySem.W.Frag → Bool) (K : PySem.W.Frag) : Prop := He.SaysD fa fn K ∧ ex K = true
def hookZ (n : Nat) (fa : List He.Fa) (fn : List He.DefD) (ex : PySem.W.Frag → Bool) : PySem.W.Hook where
  α := AlZ
  obs := fun s => obsZG n fa fn ex s.heap.get?
  val := fun _ => (He.valD fn, true)
  says := fun _ h => ∃ K : PySem.W.Frag, K.In h ∧ SaysZ fa fn ex K
  of := fun _ _ e => ⟨_, He.frG_in, congrArg (fun z : AlZ => z.1) e, congrArg (fun z : AlZ => z.2) e⟩
  keeps := fun _ _ _ ⟨K, hK, c⟩ k => ⟨K, PySem.W.Frag.In.keeps hK k, c⟩
theorem obsZG_eq {n : Nat} {fa : List He.Fa} {fn : List He.DefD} {ex : PySem.W.Frag → Bool} {g : Addr → Option Obj} {s : Shared} (h : ∀ a, g a = s.heap.get? a) : obsZG n fa fn ex g = (hookZ n fa fn ex).obs s := by
  have e : g = s.heap.get? := funext h
  rw [e] <;> rfl
def excB (K : PySem.W.Frag) (C : Addr) : Bool :=
  PySem.W.excIn K C He.veBase "ValueError.__new__" && (PySem.W.keepIn K (.ref C) && (decide (PySem.W.subIn K (.ref C) (.type "BaseException") = some true) && (decide (PySem.W.typeIn K (.ref C) = some (.type "type")) &&
  (He.eqO (PySem.W.findIn K (.ref C) "__getattribute__") (some (some (.builtin "BaseException.__getattribute__"))) && (He.eqO (PySem.W.findIn K (.ref C) "__getattr__") (some none) && (PySem.W.hasDictIn K C &&
  (He.eqO (PySem.W.findIn K (.ref C) "__class__") (some (some (.builtin "object.__class__"))) && (decide (PySem.W.specialIn K (.builtin "object.__class__") "__get__" = some (some (.builtin "getset_descriptor.__get__"))) && (decide (PySem.W.takesIn K (.builtin "object.__class__") = some true) &&
  decide (PySem.W.mroIn K C (.type "object") = some true))))))))))
theorem excB_ok {K : PySem.W.Frag} {C : Addr} (h : excB K C = true) : ExOk K C := by
  unfold excB at h
  simp only [Bool.and_eq_true, decide_eq_true_eq] at h
  obtain ⟨h1, h2, h3, h4, h5, h6, h7, h8, h9, h10, h11⟩ := h
  exact ⟨h1, h2, h3, h4, ⟨He.eqO_ok h5, He.eqO_ok h6, h3, h7, He.eqO_ok h8, h9, h10, h11⟩⟩
end TL

set_option Elab.async false
set_option linter.all false
set_option maxRecDepth 100000
set_option maxHeartbeats 1000000
namespace TL
open PySem PySem.Spec L2
theorem cx_no {P : Program} {w : World} {o : List Env} {H : Hp} {s : Shared} {e : Value} {s' : Shared} (z : L2.CX P w o H s E0 e s') : False := by
  obtain ⟨_, _, _, _, _, _, _, _, _, _, _, _, z⟩ := z
  exact z
theorem calm_fn {P : Program} {w : World} {K : PySem.W.Frag} {mg : Str → Option Value} {base : Heap} {k : Nat} {f : Addr} {fd : FuncData} {ps : List Str} {sp : Sp} (F : FnOk P w K mg base (L2.CX P w) k f fd ps sp) (h : ∀ vs H Q E, sp vs H Q E → sp vs H Q E0) : FnOk P w K mg base CX0 k f fd ps sp where
  run := fun A outer s H args us vs Q E hr e b r q => codeAny_mono (F.run A outer s H args us vs Q E0 hr e b r (h vs H Q E q)) fun r s' z => by
    cases r with
    | error e => exact (cx_no z).elim
    | ok fl => cases fl with
      | ret u => exact z
      | next => exact z
      | brk => exact z
      | cont => exact z
  len := F.len
/-- a law's promise -/
def lawSp (K : PySem.W.Frag) : Sp := fsp (T := List Int) (fun ns => [D K (.list (ns.map PyData.int))]) (fun ns => ns.length ≤ 63) (fun _ => .ok (DB K true))
theorem lawSp_E {K : PySem.W.Frag} : ∀ vs H Q E, lawSp K vs H Q E → lawSp K vs H Q E0 := fun vs H Q E ⟨x, F, D, h1, h2, h3, h4⟩ => ⟨x, F, D, h1, h2, h3, h4⟩
theorem ints_dp {K : PySem.W.Frag} {F : Hp} : ∀ ns : List Int, DpAll K F (ns.map V.int) (ns.map PyData.int)
  | [] => .nil
  | n :: ns => .cons (.int n) (ints_dp ns)
theorem law_sp {K : PySem.W.Frag} {H : Hp} {a : Addr} {ns : List Int} (hl : ns.length ≤ 63) (h : SqL K H a (ns.map V.int)) : lawSp K [.ref a] H (fun v _ => v = .bl true) E0 :=
  ⟨ns, H, [], ⟨Same.refl _, (fun a O m => by cases m), List.nodup_nil⟩, .cons (.lst h (ints_dp ns)) .nil, hl, fun v H' F' s hs r => dp_bl r⟩
end TL

set_option maxHeartbeats 1000000
namespace Nu
/-! ## whole numbers: the greatest common measure -/
theorem fmod_natAbs_lt {a b : Int} (h : b ≠ 0) : (a.fmod b).natAbs < b.natAbs := by
  rcases Int.lt_or_gt_of_ne h with hb | hb
  · have e : a.fmod b = -((-a).fmod (-b)) := by
      rw [Int.neg_fmod_neg, Int.neg_neg]
    have h1 := Int.fmod_nonneg_of_pos (-a) (show 0 < -b by omega)
    have h2 := Int.fmod_lt_of_pos (-a) (show 0 < -b by omega)
    omega
  · have h1 := Int.fmod_nonneg_of_pos a hb
    have h2 := Int.fmod_lt_of_pos a hb
    omega
theorem gcd_fmod (a b : Int) : Int.gcd b (a.fmod b) = Int.gcd a b := by
  have e : a.fmod b = a + b * (-(a.fdiv b)) := by
    have := Int.fmod_add_mul_fdiv a b
    grind
  rw [e]
  rw [Int.gcd_comm a b]
  exact Int.gcd_add_mul_left_right ..
/-- the bottom's sign on the measure -/
def by_ (t b : Int) : Int := if b < 0 then 0 - (Int.gcd t b : Int) else (Int.gcd t b : Int)
def q (t b : Int) : Rat := Rat.divInt t b
theorem gcd_pos {t b : Int} (h : b ≠ 0) : 0 < Int.gcd t b := Int.gcd_pos_of_ne_zero_right _ h
theorem by_ne {t b : Int} (h : b ≠ 0) : by_ t b ≠ 0 := by
  have := gcd_pos (t := t) h
  unfold by_
  split <;> omega
theorem by_le {t b : Int} (h : b ≠ 0) : (by_ t b).natAbs ≤ b.natAbs := by
  have := Int.gcd_le_natAbs_right t h
  unfold by_
  split <;> omega
theorem fdiv_dvd {a b c : Int} (hc : c ≠ 0) (h : a = c * b) : a.fdiv c = b := by
  subst h
  exact Int.mul_fdiv_cancel_left _ hc
theorem top_is {t b : Int} (h : b ≠ 0) : t.fdiv (by_ t b) = (q t b).num := by
  have gp := gcd_pos (t := t) h
  obtain ⟨u, hu⟩ := Int.gcd_dvd_left t b
  refine fdiv_dvd (by_ne h) ?_
  unfold q by_
  rw [Rat.num_divInt, Int.gcd_comm b t]
  have g0 : (Int.gcd t b : Int) ≠ 0 := by omega
  have e1 : b.sign * t / (Int.gcd t b : Int) = b.sign * u := by
    have : b.sign * t = (Int.gcd t b : Int) * (b.sign * u) := by
      conv => lhs; rw [hu]
      grind
    rw [this]
    exact Int.mul_ediv_cancel_left _ g0
  rw [e1]
  by_cases hb : b < 0
  · rw [if_pos hb, Int.sign_eq_neg_one_of_neg hb]
    conv => lhs; rw [hu]
    grind
  · rw [if_neg hb, Int.sign_eq_one_of_pos (by omega)]
    conv => lhs; rw [hu]
    grind
theorem bot_is {t b : Int} (h : b ≠ 0) : b.fdiv (by_ t b) = ((q t b).den : Int) := by
  have gp := gcd_pos (t := t) h
  obtain ⟨u, hu⟩ := Int.gcd_dvd_right t b
  refine fdiv_dvd (by_ne h) ?_
  unfold q by_
  rw [Rat.den_divInt, if_neg h, Int.gcd_comm b t]
  have g0 : (Int.gcd t b : Int) ≠ 0 := by omega
  have e1 : (((b.natAbs / Int.gcd t b : Nat)) : Int) = u.natAbs := by
    have : b.natAbs = Int.gcd t b * u.natAbs := by
      conv => lhs; rw [hu]
      rw [Int.natAbs_mul, Int.natAbs_natCast]
    rw [this, Nat.mul_div_cancel_left _ gp]
  rw [e1]
  have su : (b < 0 → u < 0) ∧ (0 < b → 0 < u) := by
    constructor
    · intro hb
      rcases Int.lt_or_le u 0 with z | z
      · exact z
      · have : 0 ≤ (Int.gcd t b : Int) * u := Int.mul_nonneg (by omega) z
        omega
    · intro hb
      rcases Int.lt_or_le 0 u with z | z
      · exact z
      · have : (Int.gcd t b : Int) * u ≤ 0 := Int.mul_nonpos_of_nonneg_of_nonpos (by omega) z
        omega
  by_cases hb : b < 0
  · rw [if_pos hb]
    have := su.1 hb
    have e : ((u.natAbs : Nat) : Int) = - u := by omega
    rw [e]
    conv => lhs; rw [hu]
    grind
  · rw [if_neg hb]
    have := su.2 (by omega)
    have e : ((u.natAbs : Nat) : Int) = u := by omega
    rw [e]
    conv => lhs; rw [hu]
/-- the law's own way: signs turned first -/
theorem q_neg {t b : Int} : q (0 - t) (0 - b) = q t b := by
  unfold q
  rw [Int.zero_sub, Int.zero_sub]
  exact Rat.neg_divInt_neg ..
theorem by_pos {t b : Int} (h : 0 < b) : by_ t b = (Int.gcd t b : Int) := by
  unfold by_
  rw [if_neg (by omega)]
theorem q_self (r : Rat) : q r.num r.den = r := Rat.num_divInt_den r
theorem den_ne (r : Rat) : (r.den : Int) ≠ 0 := by
  have := r.den_pos
  omega
theorem plus_is (a b : Rat) : q (a.num * b.den + b.num * a.den) (a.den * b.den) = a + b := by
  conv => rhs; rw [← q_self a, ← q_self b]
  exact (Rat.divInt_add_divInt _ _ (den_ne a) (den_ne b)).symm
theorem minus_is (a b : Rat) : q (a.num * b.den - b.num * a.den) (a.den * b.den) = a - b := by
  conv => rhs; rw [← q_self a, ← q_self b]
  exact (Rat.divInt_sub_divInt _ _ (den_ne a) (den_ne b)).symm
theorem times_is (a b : Rat) : q (a.num * b.num) (a.den * b.den) = a * b := by
  conv => rhs; rw [← q_self a, ← q_self b]
  exact (Rat.divInt_mul_divInt ..).symm
theorem over_is (a b : Rat) : q (a.num * b.den) (a.den * b.num) = a / b := by
  rw [Rat.div_def, Rat.inv_def]
  conv => rhs; lhs; rw [← q_self a]
  exact (Rat.divInt_mul_divInt ..).symm
theorem less_is (a b : Rat) : (a.num * b.den < b.num * a.den) ↔ a < b := (Rat.lt_iff a b).symm
theorem num_zero {r : Rat} : r.num = 0 ↔ r = 0 := Rat.num_eq_zero
theorem q_zero (b : Int) : q 0 b = 0 := by unfold q; exact Rat.zero_divInt b
theorem q_one (t : Int) : (q t 1).num = t ∧ (q t 1).den = 1 := by
  unfold q
  refine ⟨?_, ?_⟩
  · rw [Rat.num_divInt]; simp
  · rw [Rat.den_divInt]; simp
/-! ## sizes -/
def Bd (n : Nat) (r : Rat) : Prop := r.num.natAbs < 2 ^ n ∧ r.den < 2 ^ n
theorem natAbs_mul_lt {a b : Int} {n m : Nat} (ha : a.natAbs < 2 ^ n) (hb : b.natAbs < 2 ^ m) : (a * b).natAbs < 2 ^ (n + m) := by
  rw [Int.natAbs_mul, Nat.pow_add]
  exact Nat.mul_lt_mul'' ha hb
theorem natAbs_add_lt {a b : Int} {n : Nat} (ha : a.natAbs < 2 ^ n) (hb : b.natAbs < 2 ^ n) : (a + b).natAbs < 2 ^ (n + 1) := by
  rw [Nat.pow_succ]
  omega
theorem natAbs_sub_lt {a b : Int} {n : Nat} (ha : a.natAbs < 2 ^ n) (hb : b.natAbs < 2 ^ n) : (a - b).natAbs < 2 ^ (n + 1) := by
  rw [Nat.pow_succ]
  omega
theorem lt_pow_mono {a n m : Nat} (h : a < 2 ^ n) (l : n ≤ m) : a < 2 ^ m := Nat.lt_of_lt_of_le h (Nat.pow_le_pow_right (by decide) l)
theorem Bd.mono {n m : Nat} {r : Rat} (h : Bd n r) (l : n ≤ m) : Bd m r := ⟨lt_pow_mono h.1 l, lt_pow_mono h.2 l⟩
theorem natAbs_ediv_le (a : Int) {g : Nat} (h : 0 < g) : (a / (g : Int)).natAbs ≤ a.natAbs := by
  rcases Int.lt_or_le a 0 with z | z
  · have h1 : a / (g : Int) < 0 := Int.ediv_neg_of_neg_of_pos z (by omega)
    have h2 : a ≤ a / (g : Int) := by
      have h3 : a / (g : Int) * (g : Int) ≤ a := Int.ediv_mul_le a (by omega)
      have h4 : a - (g : Int) < a / (g : Int) * (g : Int) := by
        have := Int.lt_ediv_add_one_mul_self a (show (0 : Int) < g by omega)
        grind
      have : a * (g : Int) ≤ a * 1 := Int.mul_le_mul_of_nonpos_left (by omega) (by omega)
      refine Int.le_ediv_of_mul_le (by omega) ?_
      omega
    omega
  · have h1 : 0 ≤ a / (g : Int) := Int.ediv_nonneg z (by omega)
    have h2 : a / (g : Int) ≤ a := Int.ediv_le_self _ z
    omega
theorem q_bd {t b : Int} {n : Nat} (ht : t.natAbs < 2 ^ n) (hb : b.natAbs < 2 ^ n) (h : b ≠ 0) : Bd n (q t b) := by
  have gp := gcd_pos (t := t) h
  rw [Int.gcd_comm] at gp
  unfold q Bd
  rw [Rat.num_divInt, Rat.den_divInt, if_neg h]
  refine ⟨?_, Nat.lt_of_le_of_lt (Nat.div_le_self _ _) hb⟩
  refine Nat.lt_of_le_of_lt (natAbs_ediv_le _ gp) ?_
  rw [Int.natAbs_mul]
  have : b.sign.natAbs ≤ 1 := by
    rcases Int.lt_or_gt_of_ne h with z | z
    · rw [Int.sign_eq_neg_one_of_neg z]; decide
    · rw [Int.sign_eq_one_of_pos z]; decide
  have h2 : b.sign.natAbs * t.natAbs ≤ 1 * t.natAbs := Nat.mul_le_mul_right _ this
  omega
theorem den_abs {n : Nat} {r : Rat} (h : Bd n r) : ((r.den : Int)).natAbs < 2 ^ n := by simpa using h.2
theorem plus_bd {a b : Rat} {n m : Nat} (ha : Bd n a) (hb : Bd m b) : Bd (n + m + 1) (a + b) := by
  rw [← plus_is]
  refine q_bd (natAbs_add_lt (natAbs_mul_lt ha.1 (den_abs hb)) (by rw [Nat.add_comm]; exact natAbs_mul_lt hb.1 (den_abs ha))) (lt_pow_mono (natAbs_mul_lt (den_abs ha) (den_abs hb)) (by omega)) (Int.mul_ne_zero (den_ne a) (den_ne b))
theorem minus_bd {a b : Rat} {n m : Nat} (ha : Bd n a) (hb : Bd m b) : Bd (n + m + 1) (a - b) := by
  rw [← minus_is]
  refine q_bd (natAbs_sub_lt (natAbs_mul_lt ha.1 (den_abs hb)) (by rw [Nat.add_comm]; exact natAbs_mul_lt hb.1 (den_abs ha))) (lt_pow_mono (natAbs_mul_lt (den_abs ha) (den_abs hb)) (by omega)) (Int.mul_ne_zero (den_ne a) (den_ne b))
theorem times_bd {a b : Rat} {n m : Nat} (ha : Bd n a) (hb : Bd m b) : Bd (n + m) (a * b) := by
  rw [← times_is]
  exact q_bd (natAbs_mul_lt ha.1 hb.1) (natAbs_mul_lt (den_abs ha) (den_abs hb)) (Int.mul_ne_zero (den_ne a) (den_ne b))
theorem over_bd {a b : Rat} {n m : Nat} (ha : Bd n a) (hb : Bd m b) (h : b ≠ 0) : Bd (n + m) (a / b) := by
  rw [← over_is]
  exact q_bd (natAbs_mul_lt ha.1 (den_abs hb)) (natAbs_mul_lt (den_abs ha) hb.1) (Int.mul_ne_zero (den_ne a) (fun z => h (num_zero.mp z)))
end Nu

set_option Elab.async false
set_option linter.all false
set_option maxRecDepth 100000
set_option maxHeartbeats 1000000
namespace TL
open PySem PySem.Spec L2
/-! ## kinds by class names, numbers, wells: what most laws share -/
def kinds : List String := ["int", "bool", "NoneType", "str", "tuple", "list", "dict"]
abbrev DQ (K : PySem.W.Frag) (r : Rat) : Ty := D K (.tuple [.int r.num, .int r.den])
inductive NA where
  | odd1 (n : String) (m : String)
  | odd2 (t : Int) (n : String)
  | good (t b : Int)
def NA.args (K : PySem.W.Frag) : NA → List Ty
  | .odd1 n m => [Of K n, Of K m]
  | .odd2 t n => [DI K t, Of K n]
  | .good t b => [DI K t, DI K b]
def NA.pre : NA → Prop
  | .odd1 n m => n ∈ kinds ∧ n ≠ "int" ∧ m ∈ kinds
  | .odd2 t n => n ∈ kinds ∧ n ≠ "int"
  | .good t b => b.natAbs < 2 ^ 8000
def NA.out (K : PySem.W.Frag) : NA → Out
  | .good t b => if b = 0 then .err (.ref (He.ga K "NoNumber")) else .ok (DQ K (Nu.q t b))
  | _ => .err (.ref (He.ga K "NoNumber"))
/-- a well: its way, its cell, its turns -/
structure We where
  f : Int
  v : Int
  t : Int
def We.d (w : We) : List PyData := [.int w.f, .int w.v, .int w.t]
def We.ok (n : Nat) (w : We) : Prop := w.f = 1 ∨ (w.f = 0 ∧ w.v.natAbs < 2 ^ 60 ∧ 0 ≤ w.t ∧ w.t ≤ n)
def mix (v t : Int) : Int := ((((((v + 7919 * t * t) + t) * 48271).fmod 2305843009213693951) * 1442695040888963407 + 4321).fmod 2305843009213693921).fdiv 64
def We.val (w : We) (m : Int) : Int := if w.f = 1 then w.v.fmod m else (mix w.v (w.t + 1)).fmod m
def We.nx (w : We) (m : Int) : We := if w.f = 1 then ⟨w.f, w.v.fdiv m, w.t⟩ else ⟨w.f, w.v, w.t + 1⟩
def well (ns : List Int) (k : Int) : We := let c := if k < ns.length then ns.getD k.toNat 0 else 0; ⟨if 10 ^ 18 ≤ (if c < 0 then -c else c) then 1 else 0, c, 17 * k⟩
def pick (l : List Int) (i : Int) : Int := l.getD i.toNat 0
section
variable {K : PySem.W.Frag} {G : Sto} {D0 D1 D2 : Own} {te ta tb : TE} {F0 : Hp} {E : Ends} {X : XK}
theorem kit_int {n : String} (h : n ∈ kinds) : kitB n "int" = some (decide (n = "int") || decide (n = "bool")) := by
  simp only [kinds, List.mem_cons, List.not_mem_nil, or_false] at h
  rcases h with rfl | rfl | rfl | rfl | rfl | rfl | rfl <;> decide +kernel
theorem kit_bool {n : String} (h : n ∈ kinds) : kitB n "bool" = some (decide (n = "bool")) := by
  simp only [kinds, List.mem_cons, List.not_mem_nil, or_false] at h
  rcases h with rfl | rfl | rfl | rfl | rfl | rfl | rfl <;> decide +kernel
theorem whole_val (n : String) : ((decide (n = "int") || decide (n = "bool")) && !decide (n = "bool")) = decide (n = "int") := by
  by_cases h : n = "int"
  · subst h; decide
  · by_cases h2 : n = "bool" <;> simp [h, h2]
theorem ev_of {d : PyData} (h : Ev te G D0 (D K d) D1) : Ev te G D0 (Of K (tyN d)) D1 := ev_imp h (of_d rfl)
theorem mem_int : "int" ∈ kinds := by decide
theorem div_ok {t b : Int} (h0 : b ≠ 0) (hb : b.natAbs < 2 ^ 8000) : CDivA t (Nu.by_ t b) := by
  refine ⟨Nu.by_ne h0, ?_⟩
  have h1 := Nu.by_le (t := t) h0
  have : (Nu.by_ t b).natAbs < 2 ^ 8000 := Nat.lt_of_le_of_lt h1 hb
  exact Nat.lt_of_lt_of_le (PySem.Flt.log2_lt_of (by decide) this) (by decide)
theorem set_at {D : Own} {k : Nat} {x y : Addr × OTy} (h : D[k]? = some x) : (D.set k y)[k]? = some y := by
  have lt : k < D.length := (List.getElem?_eq_some_iff.mp h).1
  rw [List.getElem?_set_self lt]
theorem set_lt {D : Own} {k : Nat} {y : Addr × OTy} (lt : k < D.length) : (D.set k y)[k]? = some y := by
  rw [List.getElem?_set_self lt]
theorem set_id {D : Own} {k : Nat} {x : Addr × OTy} (h : D[k]? = some x) : D.set k x = D := by
  refine List.ext_getElem? fun i => ?_
  by_cases z : i = k
  · subst z
    rw [set_at h, h]
  · rw [List.getElem?_set_ne (Ne.symm z)]
theorem pick_at {l : List Int} {i : Int} (h0 : 0 ≤ i) (h1 : i < l.length) : atI (l.map PyData.int) i = some (.int (pick l i)) := by
  unfold atI ixN pick
  rw [if_pos h0, List.length_map, if_pos h1, Option.bind_some, List.getElem?_map]
  have h2 : i.toNat < l.length := by omega
  rw [List.getElem?_eq_getElem h2, List.getD_eq_getElem?_getD, List.getElem?_eq_getElem h2]
  rfl
theorem wmul {i j : Int} (a b : Nat) (ha : i.natAbs < 2 ^ a) (hb : j.natAbs < 2 ^ b) (h0 : 0 < a := by decide) (h1 : 0 < b := by decide) (h : a + b ≤ 1000000 := by decide) : CMulW i j := wide_mul ha hb h0 h1 h
theorem cdiv {i j : Int} (h0 : j ≠ 0) (hb : j.natAbs < 2 ^ 8000) : CDivA i j := ⟨h0, Nat.lt_of_lt_of_le (PySem.Flt.log2_lt_of (by decide) hb) (by decide)⟩
theorem mod_ok {a m : Int} (h : 0 < m) : 0 ≤ a.fmod m ∧ a.fmod m < m := ⟨Int.fmod_nonneg_of_pos a h, Int.fmod_lt_of_pos a h⟩
theorem We.val_ok {w : We} {m : Int} (h : 0 < m) : 0 ≤ w.val m ∧ w.val m < m := by
  unfold We.val
  split <;> exact mod_ok h
theorem We.nx_ok {w : We} {m : Int} {n : Nat} (h : w.ok n) : (w.nx m).ok (n + 1) := by
  unfold We.nx
  rcases h with h | ⟨h1, h2, h3, h4⟩
  · rw [if_pos h]; exact .inl h
  · rw [if_neg (by omega)]
    exact .inr ⟨h1, h2, by show 0 ≤ w.t + 1; omega, by show w.t + 1 ≤ ((n + 1 : Nat) : Int); omega⟩
theorem We.well_ok {ns : List Int} {i : Int} (h0 : 0 ≤ i) (h1 : i ≤ 63) : (well ns i).ok 1100 := by
  unfold well We.ok
  dsimp only
  generalize (if i < (ns.length : Int) then ns.getD i.toNat 0 else 0) = c
  by_cases hc : 10 ^ 18 ≤ if c < 0 then -c else c
  · rw [if_pos hc]; exact .inl rfl
  · rw [if_neg hc]
    refine .inr ⟨rfl, ?_, by omega, by omega⟩
    have e : ((2 : Nat) ^ 60) = 1152921504606846976 := by decide
    rw [e]
    have e2 : (10 : Int) ^ 18 = 1000000000000000000 := by decide
    rw [e2] at hc
    split at hc <;> omega
theorem eqv_q (a b : Rat) : PyData.eqv (.tuple [.int a.num, .int a.den]) (.tuple [.int b.num, .int b.den]) = decide (a = b) := by
  simp only [PyData.eqv, PyData.eqvAll, Bool.and_true]
  by_cases h : a = b
  · subst h; simp
  · rw [decide_eq_false h]
    cases e : (a.num == b.num && (a.den : Int) == (b.den : Int)) with
    | false => rfl
    | true =>
      simp only [Bool.and_eq_true, beq_iff_eq] at e
      exact absurd (Rat.ext e.1 (by omega)) h
theorem shaped_q (a b : Int) : SeqAt.shaped (.tuple [.int a, .int b]) = true := by rfl
theorem pick_pos {l : List Int} {i : Int} (h : ∀ x ∈ l, 0 < x) (h0 : 0 ≤ i) (h1 : i < l.length) : 0 < pick l i := by
  unfold pick
  have h2 : i.toNat < l.length := by omega
  rw [List.getD_eq_getElem?_getD, List.getElem?_eq_getElem h2]
  exact h _ (List.getElem_mem h2)
theorem pick_lt {l : List Int} {i : Int} {n : Nat} (h : ∀ x ∈ l, x.natAbs < n) (h0 : 0 ≤ i) (h1 : i < l.length) : (pick l i).natAbs < n := by
  unfold pick
  have h2 : i.toNat < l.length := by omega
  rw [List.getD_eq_getElem?_getD, List.getElem?_eq_getElem h2]
  exact h _ (List.getElem_mem h2)
theorem pick_ne {l : List Int} {i : Int} (h : ∀ x ∈ l, x ≠ 0) (h0 : 0 ≤ i) (h1 : i < l.length) : pick l i ≠ 0 := by
  unfold pick
  have h2 : i.toNat < l.length := by omega
  rw [List.getD_eq_getElem?_getD, List.getElem?_eq_getElem h2]
  exact h _ (List.getElem_mem h2)
theorem small {m : Int} (h : m.natAbs < 2 ^ 62) : m.natAbs < 2 ^ 8000 := Nu.lt_pow_mono h (by decide)
theorem number_args {x : NA} : ∃ R1 R2, x.args K = [R1, R2] := by
  cases x <;> exact ⟨_, _, rfl⟩
theorem ev_dnew : Ev tDNewK G D0 (Of K "dict") D0 := fun σ H F hs ss Q q p hp =>
  q _ _ (upd F p (.dK [])) (same_new (hs.free hp)) (hs.frz hp) (.base (.dK upd_same))
theorem out_good {t b : Int} (h : b ≠ 0) : NA.out K (.good t b) = .ok (DQ K (Nu.q t b)) := if_neg h
theorem out_nought {t : Int} : NA.out K (.good t 0) = .err (.ref (He.ga K "NoNumber")) := by simp [NA.out]
theorem ev_ofI {i : Int} (h : Ev te G D0 (DI K i) D1) : Ev te G D0 (Of K "int") D1 := ev_of h
end
end TL

set_option Elab.async false
set_option linter.all false
set_option maxRecDepth 100000
set_option maxHeartbeats 1000000
namespace TL
open PySem PySem.Spec L2
section
variable {K : PySem.W.Frag} {G G1 G2 : Sto} {D0 D1 D2 D3 : Own} {te ta tb : TE} {R Ra Rb : Ty} {F0 F1 : Hp} {E : Ends} {X : XK}
/-- a call that raises, the def around lets it out -/
theorem evX_call {T : Type} {args : T → List Ty} {pre : T → Prop} {out : T → Out} {t : TA} {c : Value} (x : T) (h : EvA t G D0 (args x) D1) (hp : pre x) (ho : out x = .err c) (hX : GoX X F0 c D1) {P : St → Hp → Prop} : EvX (tCall (fsp args pre out) [] X t) G D0 P F0 := fun σ H F s hs ss Q =>
  h σ H F hs ss _ fun vs H1 F1 s1 hs1 r1 => ⟨x, F1, D1, hs1, by rw [List.append_nil]; exact r1, hp, by rw [ho]; exact fun H2 F2 s2 hs2 => hX H2 F2 ((s.trans s1).trans s2) hs2⟩
theorem go_retX {P : St → Hp → Prop} (h : EvX te G D0 P F0) : Go (tRet te E) F0 G D0 := fun σ H F s hs ss => h σ H F s hs ss _
/-! numbers in products -/
theorem cq {i j : Int} {n m : Nat} (ha : i.natAbs < 2 ^ n) (hb : j.natAbs < 2 ^ m) (hn : n ≤ 8000) (hm : m ≤ 8000) : CMulW i j :=
  wmul 8001 8001 (Nu.lt_pow_mono ha (by omega)) (Nu.lt_pow_mono hb (by omega))
theorem numOf {a : Rat} {n : Nat} (h : Nu.Bd n a) : a.num.natAbs < 2 ^ n := h.1
theorem denOf {a : Rat} {n : Nat} (h : Nu.Bd n a) : ((a.den : Int)).natAbs < 2 ^ n := Nu.den_abs h
theorem dd_small {a b : Rat} (ha : Nu.Bd 3000 a) (hb : Nu.Bd 3000 b) : ((a.den : Int) * (b.den : Int)).natAbs < 2 ^ 8000 := Nu.lt_pow_mono (Nu.natAbs_mul_lt (Nu.den_abs ha) (Nu.den_abs hb)) (by decide)
theorem dd_ne (a b : Rat) : (a.den : Int) * (b.den : Int) ≠ 0 := Int.mul_ne_zero (Nu.den_ne a) (Nu.den_ne b)
theorem bd_small {i : Int} {n : Nat} (h : i.natAbs < 2 ^ n) (l : n ≤ 8000) : i.natAbs < 2 ^ 8000 := Nu.lt_pow_mono h l
theorem ev_q0 {a : Rat} (h : Ev te G D0 (DQ K a) D1) : Ev (tOp (rIx K) te (tC (.int 0))) G D0 (DI K a.num) D1 := ix_T h ev_int rfl
theorem ev_q1 {a : Rat} (h : Ev te G D0 (DQ K a) D1) : Ev (tOp (rIx K) te (tC (.int 1))) G D0 (DI K a.den) D1 := ix_T h ev_int rfl
theorem ev_qt {a b : Int} {r : Rat} (h : Ev te G D0 (D K (.tuple [.int a, .int b])) D1) (e1 : r.num = a) (e2 : (r.den : Int) = b) : Ev te G D0 (DQ K r) D1 := by
  subst e1 e2
  exact h
/-- the pair of a written top and bottom -/
theorem ev_pair {a b : Int} (r : Rat) (ha : Ev ta G D0 (DI K a) D1) (hb : Ev tb G D1 (DI K b) D2) (e1 : r.num = a) (e2 : (r.den : Int) = b) : Ev (tTup (tCons ta (tCons tb tNil))) G D0 (DQ K r) D2 :=
  ev_qt (ev_tup (evD_cons ha (evD_cons hb evD_nil)) (by simp)) e1 e2
theorem eq_Q {a b : Rat} (ha : Ev ta G D0 (DQ K a) D1) (hb : Ev tb G D1 (DQ K b) D2) : Ev (tOp (qEq K) ta tb) G D0 (DB K (decide (a = b))) D2 :=
  ev_d (eq_D ha hb (shaped_q _ _) (shaped_q _ _)) (by rw [eqv_q])
theorem ne_Q {a b : Rat} (ha : Ev ta G D0 (DQ K a) D1) (hb : Ev tb G D1 (DQ K b) D2) : Ev (tOp (qNe K) ta tb) G D0 (DB K (!decide (a = b))) D2 :=
  ev_d (ne_D ha hb (shaped_q _ _) (shaped_q _ _)) (by rw [eqv_q])
theorem SLe.keep {G G' : Sto} {x : Option Ty} (h : SLe G G') : SLe (x :: G) (x :: G') := by
  cases x with
  | none => exact .drop h
  | some R => exact .imp (fun _ _ h => h) h
theorem neg1_n : (-1 : Rat).num = -1 := rfl
theorem neg1_d : (((-1 : Rat).den : Nat) : Int) = 1 := rfl
theorem bd_neg1 : Nu.Bd 2 (-1) := ⟨by decide, by decide⟩
theorem bd_0 : Nu.Bd 1 0 := ⟨by decide, by decide⟩
end
end TL

set_option Elab.async false
set_option linter.all false
set_option maxRecDepth 100000
set_option maxHeartbeats 1000000
namespace TL
open PySem PySem.Spec L2
/-! ## comprehensions -/
theorem wipe_get (σ : L2.St) : ∀ (vs : List Nat) (j : Nat), (wipe σ vs)[j]? = if j ∈ vs then (σ[j]?).map (fun _ => none) else σ[j]?
  | [], j => by simp [wipe]
  | v :: vs, j => by
    have len := wipe_length σ vs
    unfold wipe
    by_cases e : v = j
    · subst e
      by_cases lt : v < (wipe σ vs).length
      · rw [List.getElem?_set_self lt]
        rw [len] at lt
        simp [lt]
      · rw [List.getElem?_eq_none (by simpa using lt)]
        rw [len] at lt
        simp [List.getElem?_eq_none (Nat.le_of_not_lt lt)]
    · rw [List.getElem?_set_ne e, wipe_get σ vs j]
      have : (j ∈ v :: vs) ↔ (j ∈ vs) := by
        simp only [List.mem_cons]
        constructor
        · rintro (h | h)
          · exact absurd h.symm e
          · exact h
        · exact .inr
      simp only [this]
theorem wipe_eq {σ τ : L2.St} {vs : List Nat} (h : ∀ j, j ∉ vs → σ[j]? = τ[j]?) (l : σ.length = τ.length) : wipe σ vs = wipe τ vs := by
  refine List.ext_getElem? fun j => ?_
  rw [wipe_get, wipe_get]
  by_cases m : j ∈ vs
  · rw [if_pos m, if_pos m]
    by_cases lt : j < σ.length
    · have lt2 : j < τ.length := by omega
      simp [lt, lt2]
    · have lt2 : ¬ j < τ.length := by omega
      simp [lt, lt2]
  · rw [if_neg m, if_neg m]
    exact h j m
theorem wipe_wipe (σ : L2.St) (vs : List Nat) : wipe (wipe σ vs) vs = wipe σ vs := wipe_eq (fun j m => by rw [wipe_get, if_neg m]) (wipe_length σ vs)
theorem wipe_set {σ τ : L2.St} {vs : List Nat} {i : Nat} {x : Option V} (m : i ∈ vs) (h : wipe τ vs = wipe σ vs) : wipe (τ.set i x) vs = wipe σ vs := by
  rw [← h]
  refine wipe_eq (fun j mj => ?_) (by simp)
  exact List.getElem?_set_ne (fun e => mj (by rw [← e]; exact m))
/-- the slots forgotten -/
def wipeG (G : Sto) : List Nat → Sto
  | [] => G
  | v :: vs => (wipeG G vs).set v none
theorem SS.wipe {F : Hp} {G : Sto} {σ : L2.St} (h : SS F G σ) : ∀ vs : List Nat, SS F (wipeG G vs) (L2.wipe σ vs)
  | [] => h
  | v :: vs => (SS.wipe h vs).unset v
/-- a target within a block: it writes the block's own names alone -/
def EvW (g : TG) (vs : List Nat) (G : Sto) (R : Ty) (G1 : Sto) : Prop := ∀ (v : V) (σ τ : L2.St) (H F : Hp) (D : Own), HS D H F → SS F G τ → wipe τ vs = wipe σ vs → R.p v F → ∀ Q : L2.St → Hp → Prop, (∀ σ', SS F G1 σ' → wipe σ' vs = wipe σ vs → Q σ' H) → g v τ H Q
def EvWs (K : PySem.W.Frag) (g : TGs) (vs : List Nat) (G : Sto) (ds : List PyData) (G1 : Sto) : Prop := ∀ (xs : List V) (σ τ : L2.St) (H F : Hp) (D : Own), HS D H F → SS F G τ → wipe τ vs = wipe σ vs → DpAll K F xs ds → ∀ Q : L2.St → Hp → Prop, (∀ σ', SS F G1 σ' → wipe σ' vs = wipe σ vs → Q σ' H) → g xs τ H Q
section
variable {K : PySem.W.Frag} {G G1 G2 : Sto} {D0 D1 D2 D3 : Own} {te ta tb : TE} {tt : TT} {R Ra Rb : Ty} {F0 F1 : Hp} {E : Ends} {X : XK} {vs : List Nat}
theorem evW_name {i : Nat} (m : i ∈ vs) : EvW (gName i) vs G R (G.set i (some R)) := fun v σ τ H F D hs ss w r Q q => q _ (ss.set r i) (wipe_set m w)
theorem evWs_nil : EvWs K gNil vs G [] G := fun xs σ τ H F D hs ss w r Q q => by
  cases r
  exact ⟨rfl, q _ ss w⟩
theorem evWs_cons {g : TG} {gs : TGs} {d : PyData} {ds : List PyData} (h1 : EvW g vs G (TL.D K d) G1) (h2 : EvWs K gs vs G1 ds G2) : EvWs K (gCons g gs) vs G (d :: ds) G2 := fun xs σ τ H F D hs ss w r Q q => by
  cases r with
  | cons r1 r2 => exact ⟨_, _, rfl, h1 _ σ τ H F D hs ss w r1 _ fun σ' ss' w' => h2 _ σ σ' H F D hs ss' w' r2 Q q⟩
theorem evW_tup {gs : TGs} {ds : List PyData} {n : Nat} (h : EvWs K gs vs G ds G1) (hn : ds.length = n) : EvW (gTup K n gs) vs G (TL.D K (.tuple ds)) G1 := fun v σ τ H F D hs ss w r Q q => by
  obtain ⟨a, xs, rfl, h1, h2⟩ := dp_tup r
  exact ⟨a, xs, rfl, sqT_up hs h1, (dpAll_len h2).trans hn, h xs σ τ H F D hs ss w h2 Q q⟩
theorem evT_yes : EvT tYes G D0 true D0 := fun σ H F hs ss Q q => q H F (Same.refl _) hs
/-- a comprehension, its turns by a state -/
theorem evN_lc {S : Type} {wi : TI} {g : TG} {ds res : List PyData} {DF : Own} (hi : EvIt K wi G D0 ds D1) (I : Nat → S → List PyData → Prop) (Ds : S → Own) (s0 : S) (h0 : I 0 s0 []) (d0 : (Ds s0).Sublist D1) (hl : ds.length ≤ 100000)
    (step : ∀ k s acc d p, ds[k]? = some d → I k s acc → ∃ G', EvW g vs (wipeG G vs) (TL.D K d) G' ∧ ∃ c s1, EvT tt G' ((p, OL K acc) :: Ds s) c ((p, OL K acc) :: Ds s1) ∧
      (c = true → ∃ e s2, Ev te G' ((p, OL K acc) :: Ds s1) (TL.D K e) ((p, OL K acc) :: Ds s2) ∧ I (k + 1) s2 (acc ++ [e])) ∧ (c = false → I (k + 1) s1 acc))
    (done : ∀ s acc, I ds.length s acc → acc = res ∧ (Ds s = DF)) : EvN (tLc wi g tt te vs) G D0 (OL K res) DF := fun σ H F hs ss Q q =>
  hi σ H F hs ss _ fun J H1 F1 s1 hs1 ok Dl hDl => by
    refine ⟨fun i m H => m = ds.length - i ∧ i ≤ ds.length ∧ ∃ (x : S) (acc : List PyData) (F2 : Hp), acc.length ≤ i ∧ I i x acc ∧ Same F1 F2 ∧ HS ((Dl, OL K acc) :: Ds x) H F2, ⟨ds.length, by simp, Nat.zero_le _, s0, [], F1, Nat.le_refl _, h0, Same.refl _, (hs1.drop d0).new hDl ⟨[], rfl, .nil⟩⟩, ?_⟩
    rintro i m H2 ⟨rfl, hle, x, acc, F2, la, hx, s2, hs2⟩
    by_cases hlt : i < ds.length
    · have hd : ds[i]? = some ds[i] := by simp [hlt]
      obtain ⟨go, yl⟩ := (ok _ H2 F2 s2 hs2 i).1 _ hd
      refine .inr ⟨go, fun H' => ∃ (x : S) (acc : List PyData) (F2 : Hp), acc.length ≤ i + 1 ∧ I (i + 1) x acc ∧ Same F1 F2 ∧ HS ((Dl, OL K acc) :: Ds x) H' F2, fun H' p => ⟨ds.length - (i + 1), by omega, rfl, hlt, p⟩, fun v H3 hy => ?_⟩
      obtain ⟨F3, s3, hs3, r3⟩ := yl v H3 hy
      obtain ⟨G', hg, c, x1, ht, hyes, hno⟩ := step i x acc _ Dl hd hx
      have ss3 : SS F3 (wipeG G vs) (L2.wipe σ vs) := ((ss.mono s1).mono (s2.trans s3)).wipe vs
      refine hg v σ (L2.wipe σ vs) H3 F3 _ hs3 ss3 (wipe_wipe σ vs) r3 _ fun σ' ss' w' => ⟨w', ?_⟩
      refine ht σ' H3 F3 hs3 ss' _ fun H4 F4 s4 hs4 => ?_
      cases c with
      | true =>
        obtain ⟨e, x2, he, hI⟩ := hyes rfl
        refine he σ' H4 F4 hs4 (ss'.mono s4) _ fun y H5 F5 s5 hs5 r5 => ?_
        obtain ⟨o, ho, xs, rfl, hxs⟩ := hs5.at (k := 0) rfl
        refine ⟨xs, ho, by rw [dpAll_len hxs]; exact Nat.lt_of_lt_of_le (Nat.lt_of_le_of_lt la (Nat.lt_of_lt_of_le hlt hl)) sizeLine_big, x2, acc ++ [e], F5, by simp; omega, hI, ((s2.trans s3).trans s4).trans s5, ?_⟩
        exact hs5.put (k := 0) (O' := OL K (acc ++ [e])) rfl ⟨_, rfl, dpAll_append hxs (.cons r5 .nil)⟩
      | false => exact ⟨x1, acc, F4, by omega, hno rfl, (s2.trans s3).trans s4, hs4⟩
    · have e : i = ds.length := by omega
      subst e
      obtain ⟨e1, e2⟩ := done x acc hx
      subst e1
      rw [e2] at hs2
      exact .inl ⟨(ok _ H2 F2 s2 (by rw [← e2] at hs2; exact hs2) _).2 (Nat.le_refl _), q Dl H2 F2 (s1.trans s2) hs2⟩
/-- a comprehension whose turns change nothing: what passes, and what is made of it -/
theorem evN_lcP {wi : TI} {g : TG} {ds : List PyData} (hi : EvIt K wi G D0 ds D1) (c : PyData → Bool) (f : PyData → PyData) (hl : ds.length ≤ 100000)
    (step : ∀ d, d ∈ ds → ∃ G', EvW g vs (wipeG G vs) (TL.D K d) G' ∧ (∀ D, EvT tt G' D (c d) D) ∧ (c d = true → ∀ D, Ev te G' D (TL.D K (f d)) D)) : EvN (tLc wi g tt te vs) G D0 (OL K ((ds.filter c).map f)) D1 := by
  refine evN_lc (S := Unit) hi (fun k _ acc => acc = ((ds.take k).filter c).map f) (fun _ => D1) () rfl (List.Sublist.refl _) hl ?_ ?_
  · rintro k s acc d p hd rfl
    obtain ⟨G', h1, h2, h3⟩ := step d (List.mem_of_getElem? hd)
    have tk : ds.take (k + 1) = ds.take k ++ [d] := by
      rw [List.take_succ, hd]
      rfl
    refine ⟨G', h1, c d, (), h2 _, fun e => ⟨f d, (), h3 e _, ?_⟩, fun e => ?_⟩
    · rw [tk, List.filter_append, List.map_append]
      simp [e]
    · rw [tk, List.filter_append, List.map_append]
      simp [e]
  · rintro s acc rfl
    rw [List.take_length]
    exact ⟨rfl, rfl⟩
end
end TL

set_option Elab.async false
set_option linter.all false
set_option maxRecDepth 100000
set_option maxHeartbeats 1000000
namespace TL
open PySem PySem.Spec L2
/-! ## lists: counts, slices, unpacking, freezing -/
def rCntD (K : PySem.W.Frag) : V → List V → Hp → VK → Prop := fun x xs H Q => ∃ (y : V) (d : PyData) (ds : List PyData), xs = [y] ∧ Dp K H x (.list ds) ∧ Dp K H y d ∧ SeqAt.shaped (.list ds) = true ∧ SeqAt.shaped d = true ∧ Q (.int (ds.countP fun z => PyData.eqv z d : Nat)) H
theorem mt_countD {X : Cx} (hu : X.A.units + 65 < cLine) : MtR X "list.count" (rCntD X.K) := by
  intro pins s σ H x xs v us Q I rx rxs h
  obtain ⟨y, d, ds, rfl, hl, hy, sl, sd, q⟩ := h
  obtain ⟨uy, rfl, ry⟩ := rxs.one
  obtain ⟨bs, r1⟩ := Dp.reads I d y uy hy ry
  have lay : PyData.canLayAll0 ds = true := SeqAt.canLay_of_shaped sl
  have room : X.A.units + 1 + min (PyData.depthAll ds) d.depth < cLine := by
    have h1 := SeqAt.depth_of_shaped sd
    have h2 : min (PyData.depthAll ds) d.depth ≤ d.depth := Nat.min_le_right _ _
    omega
  cases hl with
  | lst hs ha =>
    cases rx
    obtain ⟨its, rv, ⟨⟨cls, dd, data, sls⟩, n, ho, hc, hdn, hdt⟩, hlen⟩ := I.list hs
    simp only at hc hdt
    subst hc hdt
    obtain ⟨as, h4⟩ := Dp.readsAll I ds _ its ha rv
    have same : its.map (SeqAt.readOf s.heap) = ds := SeqAt.readsAll_map ds its as lay h4
    have cnt : its.toArray.toList.countP (fun u => PyData.eqv (SeqAt.readOf s.heap u) d) = ds.countP fun z => PyData.eqv z d := by
      rw [← same, List.countP_map]
      rfl
    refine call_meets PySem.F.slot_list_count ⟨_, ho, rfl⟩ PySem.F.entry_list_count (PySem.F.args_list_count_2 _ _)
      (SeqAt.list_countAt _ its.toArray n dd sls uy (fun u => PyData.eqv (SeqAt.readOf s.heap u) d)) ⟨ho, SeqAt.items_eqAt (vs := its.toArray) (show ReadsAll s.heap its.toArray.toList ds as from h4) r1 lay (SeqAt.canLay_of_shaped sd) room, ?_⟩
    rw [cnt]
    exact ⟨.int _, H, I.tok _, ⟨_, rfl⟩, q⟩
theorem hu_65 {k : Nat} {A : Around} (r : Room k A) : A.units + 65 < cLine := by
  have := r.un
  omega
/-- a list that stands in the frozen part itself -/
def DLs (K : PySem.W.Frag) (ds : List PyData) : Ty := ⟨fun v F => ∃ a xs, v = .ref a ∧ F a = some (.lst xs) ∧ DpAll K F xs ds, fun s ⟨a, xs, e, h1, h2⟩ => ⟨a, xs, e, s _ _ h1, dpAll_mono s ds xs h2⟩⟩
theorem dls_d {K : PySem.W.Frag} {ds : List PyData} : ∀ v F, (DLs K ds).p v F → (D K (.list ds)).p v F := fun v F ⟨a, xs, e, h1, h2⟩ => by
  subst e
  exact .lst (SqL.of h1) h2
theorem dpAll_drop {K : PySem.W.Frag} {F : Hp} : ∀ {ds : List PyData} {vs : List V}, DpAll K F vs ds → ∀ n, DpAll K F (vs.drop n) (ds.drop n)
  | _, _, h, 0 => h
  | [], _, h, n + 1 => by cases h; exact .nil
  | d :: ds, _, h, n + 1 => by
    cases h with
    | cons h1 h2 => exact dpAll_drop h2 n
theorem dpAll_take {K : PySem.W.Frag} {F : Hp} : ∀ {ds : List PyData} {vs : List V}, DpAll K F vs ds → ∀ n, DpAll K F (vs.take n) (ds.take n)
  | _, _, h, 0 => .nil
  | [], _, h, n + 1 => by cases h; exact .nil
  | d :: ds, _, h, n + 1 => by
    cases h with
    | cons h1 h2 => exact .cons h1 (dpAll_take h2 n)
theorem dpAll_rev {K : PySem.W.Frag} {F : Hp} : ∀ {ds : List PyData} {vs : List V}, DpAll K F vs ds → DpAll K F vs.reverse ds.reverse
  | [], _, h => by cases h; exact .nil
  | d :: ds, _, h => by
    cases h with
    | cons h1 h2 =>
      rw [List.reverse_cons, List.reverse_cons]
      exact dpAll_append (dpAll_rev h2) (.cons h1 .nil)
def cutD (ds : List PyData) (lo hi : Option Int) : List PyData := (ds.drop (HT.sIx ds.length 0 lo)).take (HT.sIx ds.length ds.length hi - HT.sIx ds.length 0 lo)
theorem dpAll_cut {K : PySem.W.Frag} {F : Hp} {ds : List PyData} {vs : List V} (h : DpAll K F vs ds) (lo hi : Option Int) : DpAll K F (cutV vs lo hi) (cutD ds lo hi) := by
  unfold cutV cutD
  rw [dpAll_len h]
  exact dpAll_take (dpAll_drop h _) _
/-- the parts of a slice -/
def EvO (to : TO) (G : Sto) (D : Own) (o : Option Int) (D' : Own) : Prop := ∀ (σ : L2.St) (H F : Hp), HS D H F → SS F G σ → ∀ Q : Option Int → Hp → Prop, (∀ H' F', Same F F' → HS D' H' F' → Q o H') → to σ H Q
section
variable {K : PySem.W.Frag} {G G1 G2 : Sto} {D0 D1 D2 D3 : Own} {te ta tb : TE} {tt : TT} {R Ra Rb : Ty} {F0 F1 : Hp} {E : Ends} {X : XK} {tl th : TO}
theorem evO_none : EvO tNoPart G D0 none D0 := fun σ H F hs ss Q q => q H F (Same.refl _) hs
theorem evO_some {i : Int} (h : Ev te G D0 (DI K i) D1) : EvO (tPart te) G D0 (some i) D1 := fun σ H F hs ss Q q =>
  h σ H F hs ss _ fun v H1 F1 s1 hs1 r1 => ⟨i, dp_int r1, q H1 F1 s1 hs1⟩
theorem ev_slL {ds : List PyData} {lo hi : Option Int} (h : Ev te G D0 (TL.D K (.list ds)) D1) (hl : EvO tl G D1 lo D2) (hh : EvO th G D2 hi D3) : Ev (tSl (rSlL K) te tl th) G D0 (DLs K (cutD ds lo hi)) D3 := fun σ H F hs ss Q q =>
  h σ H F hs ss _ fun v H1 F1 s1 hs1 r1 => hl σ H1 F1 hs1 (ss.mono s1) _ fun H2 F2 s2 hs2 => hh σ H2 F2 hs2 ((ss.mono s1).mono s2) _ fun H3 F3 s3 hs3 => by
    obtain ⟨a, xs, rfl, h1, h2⟩ := dp_lst r1
    refine ⟨a, xs, rfl, sqL_up hs3 ((s2.trans s3).seq h1), fun p hp => ?_⟩
    have s4 : Same F3 (upd F3 p (.lst (cutV xs lo hi))) := same_new (hs3.free hp)
    exact q _ _ _ (((s1.trans s2).trans s3).trans s4) (hs3.frz hp) ⟨p, _, rfl, upd_same, dpAll_cut (dpAll_mono ((s2.trans s3).trans s4) ds xs h2) lo hi⟩
theorem ev_revL {ds : List PyData} (h : Ev te G D0 (TL.D K (.list ds)) D1) : Ev (tRevL K te) G D0 (DLs K ds.reverse) D1 := fun σ H F hs ss Q q =>
  h σ H F hs ss _ fun v H1 F1 s1 hs1 r1 => by
    obtain ⟨a, xs, rfl, h1, h2⟩ := dp_lst r1
    refine ⟨a, xs, rfl, sqL_up hs1 h1, fun p hp => ?_⟩
    have s4 : Same F1 (upd F1 p (.lst xs.reverse)) := same_new (hs1.free hp)
    exact q _ _ _ (s1.trans s4) (hs1.frz hp) ⟨p, _, rfl, upd_same, dpAll_rev (dpAll_mono s4 ds xs h2)⟩
theorem ev_catL {ds es : List PyData} (ha : Ev ta G D0 (DLs K ds) D1) (hb : Ev tb G D1 (DLs K es) D2) (hl : ds.length + es.length ≤ 100000) : Ev (tOp (qAdd K) ta tb) G D0 (DLs K (ds ++ es)) D2 := fun σ H F hs ss Q q =>
  ha σ H F hs ss _ fun x H1 F1 s1 hs1 r1 => hb σ H1 F1 hs1 (ss.mono s1) _ fun y H2 F2 s2 hs2 r2 => by
    obtain ⟨a, xs, rfl, h1, h2⟩ := r1
    obtain ⟨b, ys, rfl, h3, h4⟩ := r2
    refine .inr (.inr (.inl ⟨a, b, xs, ys, rfl, rfl, hs2.sub _ _ (s2 _ _ h1), hs2.sub _ _ h3, by rw [dpAll_len h2, dpAll_len h4]; exact Nat.le_trans hl sizeLine_big, fun p hp => ?_⟩))
    have s4 : Same F2 (upd F2 p (.lst (xs ++ ys))) := same_new (hs2.free hp)
    exact q _ _ _ ((s1.trans s2).trans s4) (hs2.frz hp) ⟨p, _, rfl, upd_same, dpAll_append (dpAll_mono (s2.trans s4) ds xs h2) (dpAll_mono s4 es ys h4)⟩
theorem ev_dls {ds : List PyData} (h : Ev te G D0 (DLs K ds) D1) : Ev te G D0 (TL.D K (.list ds)) D1 := ev_imp h dls_d
theorem evG_lst {gs : TGs} {ds : List PyData} {n : Nat} (h : EvGs K gs G ds G1) (hn : ds.length = n) : EvG (gLst K n gs) G (TL.D K (.list ds)) G1 := fun v σ H F D hs ss r Q q => by
  obtain ⟨a, xs, rfl, h1, h2⟩ := dp_lst r
  exact ⟨a, xs, rfl, sqL_up hs h1, (dpAll_len h2).trans hn, h xs σ H F D hs ss h2 Q q⟩
theorem ev_count {ds : List PyData} {d : PyData} (ha : Ev ta G D0 (TL.D K (.list ds)) D1) (hb : Ev tb G D1 (TL.D K d) D2) (sl : SeqAt.shaped (.list ds) = true) (sd : SeqAt.shaped d = true) :
    Ev (tBM K "list" (rCntD K) ta (tCons tb tNil)) G D0 (DI K (ds.countP fun z => PyData.eqv z d : Nat)) D2 := fun σ H F hs ss Q q =>
  ha σ H F hs ss _ fun x H1 F1 s1 hs1 r1 => by
    obtain ⟨a, xs, rfl, h1, h2⟩ := dp_lst r1
    refine ⟨.inl ⟨rfl, xs, sqL_up hs1 h1⟩, hb σ H1 F1 hs1 (ss.mono s1) _ fun y H2 F2 s2 hs2 r2 => ?_⟩
    exact ⟨y, d, ds, rfl, dp_up hs2 (dp_mono s2 _ _ r1), dp_up hs2 r2, sl, sd, q _ H2 F2 (s1.trans s2) hs2 (.int _)⟩
/-- an owned list at k, held by the slot i, is frozen -/
theorem go_freeze {P : L2.St → Hp → Prop} {k i : Nat} {a : Addr} {ds : List PyData} (hk : D0[k]? = some (a, OL K ds)) (hi : G[i]? = some (some (Is (.ref a)))) (h : Go P F0 (G.set i (some (DLs K ds))) (D0.eraseIdx k)) : Go P F0 G D0 := fun σ H F s hs ss => by
  obtain ⟨o, ⟨xs, e, hx⟩, hs2, s2⟩ := hs.freeze hk
  subst e
  obtain ⟨v, e1, e2⟩ := ss.get hi
  have ev : v = .ref a := e2
  subst ev
  have z := (ss.mono s2).set (R := DLs K ds) (v := .ref a) ⟨a, xs, rfl, upd_same, dpAll_mono s2 ds xs hx⟩ i
  have same : σ.set i (some (.ref a)) = σ := by
    refine List.ext_getElem? fun j => ?_
    by_cases q : j = i
    · subst q
      have lt : j < σ.length := (List.getElem?_eq_some_iff.mp e1).1
      rw [List.getElem?_set_self lt, e1]
    · rw [List.getElem?_set_ne (Ne.symm q)]
  rw [same] at z
  exact h σ H _ (s.trans s2) hs2 z
end
end TL

set_option Elab.async false
set_option linter.all false
set_option maxRecDepth 100000
set_option maxHeartbeats 4000000
open PySem PySem.Spec L2 TL
namespace K03
def top (i : Nat) : Stmt := PySem.Challenge.pw_fitwhatever_k03_whole_numbers_of_any_siz.main.body.getD i (.Pass ⟨0, 0, 0, 0⟩)
abbrev s_is_whole : Stmt := top 4
abbrev N_is_whole : List Str := ["thing"]
theorem sc_is_whole : FnScope N_is_whole ["thing"] (defScope s_is_whole) := ⟨rfl, rfl, rfl, by decide +kernel, rfl, by decide +kernel, by decide +kernel⟩
abbrev s_common : Stmt := top 5
abbrev N_common : List Str := ["one", "other"]
theorem sc_common : FnScope N_common ["one", "other"] (defScope s_common) := ⟨rfl, rfl, rfl, by decide +kernel, rfl, by decide +kernel, by decide +kernel⟩
abbrev s_number_of : Stmt := top 6
abbrev N_number_of : List Str := ["top", "bottom", "by"]
theorem sc_number_of : FnScope N_number_of ["top", "bottom"] (defScope s_number_of) := ⟨rfl, rfl, rfl, by decide +kernel, rfl, by decide +kernel, by decide +kernel⟩
abbrev s_plus : Stmt := top 7
abbrev N_plus : List Str := ["a", "b"]
theorem sc_plus : FnScope N_plus ["a", "b"] (defScope s_plus) := ⟨rfl, rfl, rfl, by decide +kernel, rfl, by decide +kernel, by decide +kernel⟩
abbrev s_minus : Stmt := top 8
abbrev N_minus : List Str := ["a", "b"]
theorem sc_minus : FnScope N_minus ["a", "b"] (defScope s_minus) := ⟨rfl, rfl, rfl, by decide +kernel, rfl, by decide +kernel, by decide +kernel⟩
abbrev s_times : Stmt := top 9
abbrev N_times : List Str := ["a", "b"]
theorem sc_times : FnScope N_times ["a", "b"] (defScope s_times) := ⟨rfl, rfl, rfl, by decide +kernel, rfl, by decide +kernel, by decide +kernel⟩
abbrev s_over : Stmt := top 10
abbrev N_over : List Str := ["a", "b"]
theorem sc_over : FnScope N_over ["a", "b"] (defScope s_over) := ⟨rfl, rfl, rfl, by decide +kernel, rfl, by decide +kernel, by decide +kernel⟩
abbrev s_is_less : Stmt := top 11
abbrev N_is_less : List Str := ["a", "b"]
theorem sc_is_less : FnScope N_is_less ["a", "b"] (defScope s_is_less) := ⟨rfl, rfl, rfl, by decide +kernel, rfl, by decide +kernel, by decide +kernel⟩
abbrev s__law_well : Stmt := top 13
abbrev N__law_well : List Str := ["_law_script", "_law_k", "_law_cell"]
theorem sc__law_well : FnScope N__law_well ["_law_script", "_law_k"] (defScope s__law_well) := ⟨rfl, rfl, rfl, by decide +kernel, rfl, by decide +kernel, by decide +kernel⟩
abbrev s__law_take : Stmt := top 14
abbrev N__law_take : List Str := ["_law_well_here", "_law_many", "_law_digit", "_law_turn", "_law_number_here"]
theorem sc__law_take : FnScope N__law_take ["_law_well_here", "_law_many"] (defScope s__law_take) := ⟨rfl, rfl, rfl, by decide +kernel, rfl, by decide +kernel, by decide +kernel⟩
abbrev s__law_common : Stmt := top 15
abbrev N__law_common : List Str := ["_law_one", "_law_other"]
theorem sc__law_common : FnScope N__law_common ["_law_one", "_law_other"] (defScope s__law_common) := ⟨rfl, rfl, rfl, by decide +kernel, rfl, by decide +kernel, by decide +kernel⟩
abbrev s__law_num : Stmt := top 16
abbrev N__law_num : List Str := ["_law_top", "_law_bottom", "_law_by"]
theorem sc__law_num : FnScope N__law_num ["_law_top", "_law_bottom"] (defScope s__law_num) := ⟨rfl, rfl, rfl, by decide +kernel, rfl, by decide +kernel, by decide +kernel⟩
abbrev s__law_number : Stmt := top 17
abbrev N__law_number : List Str := ["_law_well_here", "_law_way"]
theorem sc__law_number : FnScope N__law_number ["_law_well_here"] (defScope s__law_number) := ⟨rfl, rfl, rfl, by decide +kernel, rfl, by decide +kernel, by decide +kernel⟩
abbrev s__law_adds : Stmt := top 18
abbrev N__law_adds : List Str := ["_law_one", "_law_other", "_law_third"]
theorem sc__law_adds : FnScope N__law_adds ["_law_one", "_law_other", "_law_third"] (defScope s__law_adds) := ⟨rfl, rfl, rfl, by decide +kernel, rfl, by decide +kernel, by decide +kernel⟩
abbrev s__law_orders : Stmt := top 19
abbrev N__law_orders : List Str := ["_law_one", "_law_other", "_law_third", "_law_left", "_law_right"]
theorem sc__law_orders : FnScope N__law_orders ["_law_one", "_law_other", "_law_third"] (defScope s__law_orders) := ⟨rfl, rfl, rfl, by decide +kernel, rfl, by decide +kernel, by decide +kernel⟩
abbrev s_law : Stmt := top 20
abbrev N_law : List Str := ["_law_script", "_law_k", "_law_well_here", "_law_some", "_law_j", "_law_one", "_law_other", "_law_third", "_law_by"]
theorem sc_law : FnScope N_law ["_law_script"] (defScope s_law) := ⟨rfl, rfl, rfl, by decide +kernel, rfl, by decide +kernel, by decide +kernel⟩
abbrev qD (r : Rat) : PyData := .tuple [.int r.num, .int r.den]
def sp_is_whole (K : PySem.W.Frag) : Sp := fsp (T := String) (fun n => [Of K n]) (fun n => n ∈ kinds) (fun n => .ok (DB K (decide (n = "int"))))

def sp_common (K : PySem.W.Frag) : Sp := fsp (T := Int × Int) (fun x => [DI K x.1, DI K x.2]) (fun _ => True) (fun x => .ok (DI K (Int.gcd x.1 x.2)))

def sp_number_of (K : PySem.W.Frag) : Sp := fsp (NA.args K) NA.pre (NA.out K)

def sp_plus (K : PySem.W.Frag) : Sp := fsp (T := Rat × Rat) (fun x => [DQ K x.1, DQ K x.2]) (fun x => Nu.Bd 3000 x.1 ∧ Nu.Bd 3000 x.2) (fun x => .ok (DQ K (x.1 + x.2)))

def sp_minus (K : PySem.W.Frag) : Sp := fsp (T := Rat × Rat) (fun x => [DQ K x.1, DQ K x.2]) (fun x => Nu.Bd 3000 x.1 ∧ Nu.Bd 3000 x.2) (fun x => .ok (DQ K (x.1 - x.2)))

def sp_times (K : PySem.W.Frag) : Sp := fsp (T := Rat × Rat) (fun x => [DQ K x.1, DQ K x.2]) (fun x => Nu.Bd 3000 x.1 ∧ Nu.Bd 3000 x.2) (fun x => .ok (DQ K (x.1 * x.2)))

def sp_over (K : PySem.W.Frag) : Sp := fsp (T := Rat × Rat) (fun x => [DQ K x.1, DQ K x.2]) (fun x => Nu.Bd 3000 x.1 ∧ Nu.Bd 3000 x.2) (fun x => if x.2 = 0 then .err (.ref (He.ga K "NoNumber")) else .ok (DQ K (x.1 / x.2)))

def sp_is_less (K : PySem.W.Frag) : Sp := fsp (T := Rat × Rat) (fun x => [DQ K x.1, DQ K x.2]) (fun x => Nu.Bd 3000 x.1 ∧ Nu.Bd 3000 x.2) (fun x => .ok (DB K (decide (x.1 < x.2))))

def sp__law_well (K : PySem.W.Frag) : Sp := fsp (T := List Int × Int) (fun x => [D K (.list (x.1.map .int)), DI K x.2]) (fun x => 0 ≤ x.2 ∧ x.2 ≤ 63) (fun x => .new (OL K (well x.1 x.2).d))

def sp__law_take (K : PySem.W.Frag) : Sp := fspM (T := We × Int) (fun x => OL K x.1.d) (fun x => OL K (x.1.nx x.2).d) (fun x => [DI K x.2]) (fun x => (∃ n, n ≤ 2 ^ 40 ∧ x.1.ok n) ∧ 0 < x.2 ∧ x.2.natAbs < 2 ^ 8000) (fun x => .ok (DI K (x.1.val x.2)))

def sp__law_common (K : PySem.W.Frag) : Sp := sp_common K

def sp__law_num (K : PySem.W.Frag) : Sp := fsp (T := Int × Int) (fun x => [DI K x.1, DI K x.2]) (fun x => x.2 ≠ 0 ∧ x.2.natAbs < 2 ^ 8000) (fun x => .ok (DQ K (Nu.q x.1 x.2)))

/-- a drawn number, and the well behind it -/
def numR (w : We) : Rat :=
  if w.val 8 = 7 then Nu.q ((w.nx 8).val (2 * 10 ^ 17 + 1) - 10 ^ 17) (1 + ((w.nx 8).nx (2 * 10 ^ 17 + 1)).val (10 ^ 17))
  else if w.val 8 > 4 then Nu.q ((w.nx 8).val 201 - 100) (1 + ((w.nx 8).nx 201).val 6)
  else Nu.q ((w.nx 8).val 9 - 4) 1
def numW (w : We) : We :=
  if w.val 8 = 7 then ((w.nx 8).nx (2 * 10 ^ 17 + 1)).nx (10 ^ 17)
  else if w.val 8 > 4 then ((w.nx 8).nx 201).nx 6
  else (w.nx 8).nx 9
def sp__law_number (K : PySem.W.Frag) : Sp := fspM (T := We) (fun w => OL K w.d) (fun w => OL K (numW w).d) (fun _ => []) (fun w => ∃ n, n ≤ 2 ^ 39 ∧ w.ok n) (fun w => .ok (DQ K (numR w)))

def sp__law_adds (K : PySem.W.Frag) : Sp := fsp (T := Rat × Rat × Rat) (fun x => [DQ K x.1, DQ K x.2.1, DQ K x.2.2]) (fun x => Nu.Bd 60 x.1 ∧ Nu.Bd 60 x.2.1 ∧ Nu.Bd 60 x.2.2) (fun _ => .ok (DB K true))

def sp__law_orders (K : PySem.W.Frag) : Sp := fsp (T := Rat × Rat × Rat) (fun x => [DQ K x.1, DQ K x.2.1, DQ K x.2.2]) (fun x => Nu.Bd 60 x.1 ∧ Nu.Bd 60 x.2.1 ∧ Nu.Bd 60 x.2.2) (fun _ => .ok (DB K true))

abbrev sp_law (K : PySem.W.Frag) : Sp := lawSp K

structure Txt (K : PySem.W.Frag) (mg : Str → Option Value) : Prop where
  b_abs : mg "abs" = none
  b_bool : mg "bool" = none
  b_int : mg "int" = none
  b_isinstance : mg "isinstance" = none
  b_len : mg "len" = none
  b_max : mg "max" = none
  b_min : mg "min" = none
  b_range : mg "range" = none
  e_NoNumber : ExOk K (He.ga K "NoNumber")
  g_NoNumber : mg "NoNumber" = some (.ref (He.ga K "NoNumber"))
def t_is_whole (K : PySem.W.Frag) (X : XK) : TS :=
  (tRet (tAndV (tCB (cIsi K) (tCons (tVar 0) (tCons (tC (.ty "int")) tNil))) (tNotV (tCB (cIsi K) (tCons (tVar 0) (tCons (tC (.ty "bool")) tNil))))))
def t_common (K : PySem.W.Frag) (X : XK) : TS :=
  (tSeq (tWhile (tTest (tOp (qNe K) (tVar 1) (tC (.int 0))))
  (tPar 0 1 (tCons (tVar 1) (tCons (tOp rModI (tVar 0) (tVar 1)) tNil))))
  (tRet (tCB cAbs (tCons (tVar 0) tNil))))
def t_number_of (K : PySem.W.Frag) (X : XK) : TS :=
  (tSeq (tIfS (tOr (tNot (tB (tCall (sp_is_whole K) [] X (tCons (tVar 0) tNil)))) (tOr (tNot (tB (tCall (sp_is_whole K) [] X (tCons (tVar 1) tNil)))) (tTest (tOp (qEq K) (tVar 1) (tC (.int 0))))))
  (tRaiseX (He.ga K "NoNumber") X)
  tNext)
  (tSeq (tAsg (tCall (sp_common K) [] X (tCons (tVar 0) (tCons (tVar 1) tNil))) (gName 2))
  (tSeq (tIfS (tTest (tOp rLtI (tVar 1) (tC (.int 0))))
  (tAsg (tOp rSubI (tC (.int 0)) (tVar 2)) (gName 2))
  tNext)
  (tRet (tTup (tCons (tOp rDivI (tVar 0) (tVar 2)) (tCons (tOp rDivI (tVar 1) (tVar 2)) tNil)))))))
def t_plus (K : PySem.W.Frag) (X : XK) : TS :=
  (tRet (tCall (sp_number_of K) [] X (tCons (tOp (qAdd K) (tOp (qMul K) (tOp (rIx K) (tVar 0) (tC (.int 0))) (tOp (rIx K) (tVar 1) (tC (.int 1)))) (tOp (qMul K) (tOp (rIx K) (tVar 1) (tC (.int 0))) (tOp (rIx K) (tVar 0) (tC (.int 1))))) (tCons (tOp (qMul K) (tOp (rIx K) (tVar 0) (tC (.int 1))) (tOp (rIx K) (tVar 1) (tC (.int 1)))) tNil))))
def t_minus (K : PySem.W.Frag) (X : XK) : TS :=
  (tRet (tCall (sp_number_of K) [] X (tCons (tOp rSubI (tOp (qMul K) (tOp (rIx K) (tVar 0) (tC (.int 0))) (tOp (rIx K) (tVar 1) (tC (.int 1)))) (tOp (qMul K) (tOp (rIx K) (tVar 1) (tC (.int 0))) (tOp (rIx K) (tVar 0) (tC (.int 1))))) (tCons (tOp (qMul K) (tOp (rIx K) (tVar 0) (tC (.int 1))) (tOp (rIx K) (tVar 1) (tC (.int 1)))) tNil))))
def t_times (K : PySem.W.Frag) (X : XK) : TS :=
  (tRet (tCall (sp_number_of K) [] X (tCons (tOp (qMul K) (tOp (rIx K) (tVar 0) (tC (.int 0))) (tOp (rIx K) (tVar 1) (tC (.int 0)))) (tCons (tOp (qMul K) (tOp (rIx K) (tVar 0) (tC (.int 1))) (tOp (rIx K) (tVar 1) (tC (.int 1)))) tNil))))
def t_over (K : PySem.W.Frag) (X : XK) : TS :=
  (tRet (tCall (sp_number_of K) [] X (tCons (tOp (qMul K) (tOp (rIx K) (tVar 0) (tC (.int 0))) (tOp (rIx K) (tVar 1) (tC (.int 1)))) (tCons (tOp (qMul K) (tOp (rIx K) (tVar 0) (tC (.int 1))) (tOp (rIx K) (tVar 1) (tC (.int 0)))) tNil))))
def t_is_less (K : PySem.W.Frag) (X : XK) : TS :=
  (tRet (tOp rLtI (tOp (qMul K) (tOp (rIx K) (tVar 0) (tC (.int 0))) (tOp (rIx K) (tVar 1) (tC (.int 1)))) (tOp (qMul K) (tOp (rIx K) (tVar 1) (tC (.int 0))) (tOp (rIx K) (tVar 0) (tC (.int 1))))))
def t__law_well (K : PySem.W.Frag) (X : XK) : TS :=
  (tSeq (tAsg (tC (.int 0)) (gName 2))
  (tSeq (tIfS (tTest (tOp rLtI (tVar 1) (tCB (cLen K) (tCons (tVar 0) tNil))))
  (tAsg (tOp (rIx K) (tVar 0) (tVar 1)) (gName 2))
  tNext)
  (tRet (tLst (tCons (tCB cInt1 (tCons (tOp rGeI (tCB cAbs (tCons (tVar 2) tNil)) (tOp rPowI (tC (.int 10)) (tC (.int 18)))) tNil)) (tCons (tVar 2) (tCons (tOp (qMul K) (tC (.int 17)) (tVar 1)) tNil)))))))
def t__law_take (K : PySem.W.Frag) (X : XK) : TS :=
  (tSeq (tIfS (tTest (tOp (qEq K) (tOp (rIx K) (tVar 0) (tC (.int 0))) (tC (.int 1))))
  (tSeq (tAsg (tOp rModI (tOp (rIx K) (tVar 0) (tC (.int 1))) (tVar 1)) (gName 2))
  (tSeq (tAsg (tOp rDivI (tOp (rIx K) (tVar 0) (tC (.int 1))) (tVar 1)) (gSub (tVar 0) (tC (.int 1)) rSetL))
  (tRet (tVar 2))))
  tNext)
  (tSeq (tAsg (tOp (qAdd K) (tOp (rIx K) (tVar 0) (tC (.int 2))) (tC (.int 1))) (gName 3))
  (tSeq (tAsg (tVar 3) (gSub (tVar 0) (tC (.int 2)) rSetL))
  (tSeq (tAsg (tOp rModI (tOp (qMul K) (tOp (qAdd K) (tOp (qAdd K) (tOp (rIx K) (tVar 0) (tC (.int 1))) (tOp (qMul K) (tOp (qMul K) (tC (.int 7919)) (tVar 3)) (tVar 3))) (tVar 3)) (tC (.int 48271))) (tC (.int 2305843009213693951))) (gName 4))
  (tRet (tOp rModI (tOp rDivI (tOp rModI (tOp (qAdd K) (tOp (qMul K) (tVar 4) (tC (.int 1442695040888963407))) (tC (.int 4321))) (tC (.int 2305843009213693921))) (tC (.int 64))) (tVar 1)))))))
def t__law_common (K : PySem.W.Frag) (X : XK) : TS :=
  (tSeq (tWhile (tTest (tOp (qNe K) (tVar 1) (tC (.int 0))))
  (tPar 0 1 (tCons (tVar 1) (tCons (tOp rModI (tVar 0) (tVar 1)) tNil))))
  (tRet (tCB cAbs (tCons (tVar 0) tNil))))
def t__law_num (K : PySem.W.Frag) (X : XK) : TS :=
  (tSeq (tIfS (tTest (tOp rLtI (tVar 1) (tC (.int 0))))
  (tSeq (tAsg (tOp rSubI (tC (.int 0)) (tVar 0)) (gName 0))
  (tAsg (tOp rSubI (tC (.int 0)) (tVar 1)) (gName 1)))
  tNext)
  (tSeq (tAsg (tCall (sp__law_common K) [] X (tCons (tVar 0) (tCons (tVar 1) tNil))) (gName 2))
  (tRet (tTup (tCons (tOp rDivI (tVar 0) (tVar 2)) (tCons (tOp rDivI (tVar 1) (tVar 2)) tNil))))))
def t__law_number (K : PySem.W.Frag) (X : XK) : TS :=
  (tSeq (tAsg (tCall (sp__law_take K) [] X (tCons (tVar 0) (tCons (tC (.int 8)) tNil))) (gName 1))
  (tSeq (tIfS (tTest (tOp (qEq K) (tVar 1) (tC (.int 7))))
  (tRet (tCall (sp__law_num K) [] X (tCons (tOp rSubI (tCall (sp__law_take K) [] X (tCons (tVar 0) (tCons (tOp (qAdd K) (tOp (qMul K) (tC (.int 2)) (tOp rPowI (tC (.int 10)) (tC (.int 17)))) (tC (.int 1))) tNil))) (tOp rPowI (tC (.int 10)) (tC (.int 17)))) (tCons (tOp (qAdd K) (tC (.int 1)) (tCall (sp__law_take K) [] X (tCons (tVar 0) (tCons (tOp rPowI (tC (.int 10)) (tC (.int 17))) tNil)))) tNil))))
  tNext)
  (tSeq (tIfS (tTest (tOp rGtI (tVar 1) (tC (.int 4))))
  (tRet (tCall (sp__law_num K) [] X (tCons (tOp rSubI (tCall (sp__law_take K) [] X (tCons (tVar 0) (tCons (tC (.int 201)) tNil))) (tC (.int 100))) (tCons (tOp (qAdd K) (tC (.int 1)) (tCall (sp__law_take K) [] X (tCons (tVar 0) (tCons (tC (.int 6)) tNil)))) tNil))))
  tNext)
  (tRet (tTup (tCons (tOp rSubI (tCall (sp__law_take K) [] X (tCons (tVar 0) (tCons (tC (.int 9)) tNil))) (tC (.int 4))) (tCons (tC (.int 1)) tNil)))))))
def t__law_adds (K : PySem.W.Frag) (X : XK) : TS :=
  (tSeq (tIfS (tOr (tTest (tOp (qNe K) (tCall (sp_plus K) [] X (tCons (tVar 0) (tCons (tVar 1) tNil))) (tCall (sp_plus K) [] X (tCons (tVar 1) (tCons (tVar 0) tNil))))) (tTest (tOp (qNe K) (tCall (sp_times K) [] X (tCons (tVar 0) (tCons (tVar 1) tNil))) (tCall (sp_times K) [] X (tCons (tVar 1) (tCons (tVar 0) tNil))))))
  (tRet (tC (.bl false)))
  tNext)
  (tSeq (tIfS (tTest (tOp (qNe K) (tCall (sp_plus K) [] X (tCons (tCall (sp_plus K) [] X (tCons (tVar 0) (tCons (tVar 1) tNil))) (tCons (tVar 2) tNil))) (tCall (sp_plus K) [] X (tCons (tVar 0) (tCons (tCall (sp_plus K) [] X (tCons (tVar 1) (tCons (tVar 2) tNil))) tNil)))))
  (tRet (tC (.bl false)))
  tNext)
  (tSeq (tIfS (tTest (tOp (qNe K) (tCall (sp_times K) [] X (tCons (tCall (sp_times K) [] X (tCons (tVar 0) (tCons (tVar 1) tNil))) (tCons (tVar 2) tNil))) (tCall (sp_times K) [] X (tCons (tVar 0) (tCons (tCall (sp_times K) [] X (tCons (tVar 1) (tCons (tVar 2) tNil))) tNil)))))
  (tRet (tC (.bl false)))
  tNext)
  (tSeq (tIfS (tTest (tOp (qNe K) (tCall (sp_times K) [] X (tCons (tVar 0) (tCons (tCall (sp_plus K) [] X (tCons (tVar 1) (tCons (tVar 2) tNil))) tNil))) (tCall (sp_plus K) [] X (tCons (tCall (sp_times K) [] X (tCons (tVar 0) (tCons (tVar 1) tNil))) (tCons (tCall (sp_times K) [] X (tCons (tVar 0) (tCons (tVar 2) tNil))) tNil)))))
  (tRet (tC (.bl false)))
  tNext)
  (tSeq (tIfS (tOr (tTest (tOp (qNe K) (tCall (sp_minus K) [] X (tCons (tCall (sp_plus K) [] X (tCons (tVar 0) (tCons (tVar 1) tNil))) (tCons (tVar 1) tNil))) (tVar 0))) (tTest (tOp (qNe K) (tCall (sp_plus K) [] X (tCons (tCall (sp_minus K) [] X (tCons (tVar 0) (tCons (tVar 1) tNil))) (tCons (tVar 1) tNil))) (tVar 0))))
  (tRet (tC (.bl false)))
  tNext)
  (tRet (tOrV (tOp (qEq K) (tVar 1) (tTup (tCons (tC (.int 0)) (tCons (tC (.int 1)) tNil)))) (tAndV (tOp (qEq K) (tCall (sp_over K) [] X (tCons (tCall (sp_times K) [] X (tCons (tVar 0) (tCons (tVar 1) tNil))) (tCons (tVar 1) tNil))) (tVar 0)) (tOp (qEq K) (tCall (sp_times K) [] X (tCons (tCall (sp_over K) [] X (tCons (tVar 0) (tCons (tVar 1) tNil))) (tCons (tVar 1) tNil))) (tVar 0))))))))))
def t__law_orders (K : PySem.W.Frag) (X : XK) : TS :=
  (tSeq (tIfS (tTest (tOp (qNe K) (tBM K "list" (rCntD K) (tLst (tCons (tCall (sp_is_less K) [] X (tCons (tVar 0) (tCons (tVar 1) tNil))) (tCons (tCall (sp_is_less K) [] X (tCons (tVar 1) (tCons (tVar 0) tNil))) (tCons (tOp (qEq K) (tVar 0) (tVar 1)) tNil)))) (tCons (tC (.bl true)) tNil)) (tC (.int 1))))
  (tRet (tC (.bl false)))
  tNext)
  (tSeq (tIfS (tTest (tOp (qNe K) (tCall (sp_is_less K) [] X (tCons (tCall (sp_plus K) [] X (tCons (tVar 0) (tCons (tVar 2) tNil))) (tCons (tCall (sp_plus K) [] X (tCons (tVar 1) (tCons (tVar 2) tNil))) tNil))) (tCall (sp_is_less K) [] X (tCons (tVar 0) (tCons (tVar 1) tNil)))))
  (tRet (tC (.bl false)))
  tNext)
  (tSeq (tAsg (tCall (sp_times K) [] X (tCons (tVar 0) (tCons (tVar 2) tNil))) (gName 3))
  (tSeq (tAsg (tCall (sp_times K) [] X (tCons (tVar 1) (tCons (tVar 2) tNil))) (gName 4))
  (tSeq (tIfS (tAnd (tB (tCall (sp_is_less K) [] X (tCons (tTup (tCons (tC (.int 0)) (tCons (tC (.int 1)) tNil))) (tCons (tVar 2) tNil)))) (tTest (tOp (qNe K) (tCall (sp_is_less K) [] X (tCons (tVar 3) (tCons (tVar 4) tNil))) (tCall (sp_is_less K) [] X (tCons (tVar 0) (tCons (tVar 1) tNil))))))
  (tRet (tC (.bl false)))
  tNext)
  (tSeq (tIfS (tAnd (tB (tCall (sp_is_less K) [] X (tCons (tVar 2) (tCons (tTup (tCons (tC (.int 0)) (tCons (tC (.int 1)) tNil))) tNil)))) (tTest (tOp (qNe K) (tCall (sp_is_less K) [] X (tCons (tVar 3) (tCons (tVar 4) tNil))) (tCall (sp_is_less K) [] X (tCons (tVar 1) (tCons (tVar 0) tNil))))))
  (tRet (tC (.bl false)))
  tNext)
  (tRet (tOrV (tNotV (tCall (sp_is_less K) [] X (tCons (tVar 0) (tCons (tVar 1) tNil)))) (tOrV (tNotV (tCall (sp_is_less K) [] X (tCons (tVar 1) (tCons (tVar 2) tNil)))) (tCall (sp_is_less K) [] X (tCons (tVar 0) (tCons (tVar 2) tNil))))))))))))
def t_law (K : PySem.W.Frag) (X : XK) : TS :=
  (tSeq (tFor (iRng1 (tCons (tCB cMax2 (tCons (tC (.int 1)) (tCons (tCB cMin2 (tCons (tCB (cLen K) (tCons (tVar 0) tNil)) (tCons (tC (.int 30)) tNil))) tNil))) tNil)) (gName 1)
  (tSeq (tAsg (tCall (sp__law_well K) [] X (tCons (tVar 0) (tCons (tVar 1) tNil))) (gName 2))
  (tSeq (tAsg (tLc (iRng1 (tCons (tC (.int 3)) tNil)) (gName 4) tYes (tCall (sp__law_number K) [] E0 (tCons (tVar 2) tNil)) [4]) (gName 3))
  (tSeq (tIfS (tTest (tOp (qEq K) (tCall (sp__law_take K) [] X (tCons (tVar 2) (tCons (tC (.int 4)) tNil))) (tC (.int 0))))
  (tAsg (tOp (rIx K) (tVar 3) (tC (.int 2))) (gSub (tVar 3) (tCall (sp__law_take K) [] X (tCons (tVar 2) (tCons (tC (.int 2)) tNil))) rSetL))
  tNext)
  (tFor (iSeq K (tLst (tCons (tVar 3) (tCons (tRevL K (tVar 3)) (tCons (tOp (qAdd K) (tSl (rSlL K) (tVar 3) (tPart (tC (.int 1))) tNoPart) (tSl (rSlL K) (tVar 3) tNoPart (tPart (tC (.int 1))))) tNil))))) (gLst K 3 (gCons (gName 5) (gCons (gName 6) (gCons (gName 7) gNil))))
  (tSeq (tIfS (tOr (tNot (tB (tCall (sp__law_adds K) [] X (tCons (tVar 5) (tCons (tVar 6) (tCons (tVar 7) tNil)))))) (tNot (tB (tCall (sp__law_orders K) [] X (tCons (tVar 5) (tCons (tVar 6) (tCons (tVar 7) tNil)))))))
  (tRet (tC (.bl false)))
  tNext)
  (tSeq (tAsg (tOp (qAdd K) (tC (.int 1)) (tOp rModI (tOp (rIx K) (tVar 7) (tC (.int 1))) (tC (.int 9)))) (gName 8))
  (tSeq (tIfS (tOr (tTest (tOp (qNe K) (tCall (sp_number_of K) [] X (tCons (tOp (rIx K) (tVar 5) (tC (.int 0))) (tCons (tOp (rIx K) (tVar 5) (tC (.int 1))) tNil))) (tVar 5))) (tTest (tOp (qNe K) (tCall (sp_number_of K) [] X (tCons (tOp (qMul K) (tOp (rIx K) (tVar 5) (tC (.int 0))) (tVar 8)) (tCons (tOp (qMul K) (tOp (rIx K) (tVar 5) (tC (.int 1))) (tVar 8)) tNil))) (tVar 5))))
  (tRet (tC (.bl false)))
  tNext)
  (tIfS (tOr (tTest (tOp (qNe K) (tCall (sp_number_of K) [] X (tCons (tOp rSubI (tC (.int 0)) (tOp (rIx K) (tVar 5) (tC (.int 0)))) (tCons (tOp rSubI (tC (.int 0)) (tOp (rIx K) (tVar 5) (tC (.int 1)))) tNil))) (tVar 5))) (tTest (tOp (qNe K) (tCall (sp_minus K) [] X (tCons (tVar 5) (tCons (tVar 5) tNil))) (tTup (tCons (tC (.int 0)) (tCons (tC (.int 1)) tNil))))))
  (tRet (tC (.bl false)))
  tNext)))))))))
  (tRet (tC (.bl true))))
section
variable {P : Program} {w : World} {K : PySem.W.Frag} {mg : Str → Option Value} {base : Heap}
theorem body_is_whole (T : Txt K mg) {f : Addr} {cdv : Value} {A : Around} {outer : List Env} {s : Shared} {H : Hp} {X : XK} (hr : Room 0 (A.deeper (PyProof.Rows.envOfC "is_whole" (defScope s_is_whole) s.heap.objs.size f cdv))) :
    PSs (cxOf (L2.CX P w) P w K mg base N_is_whole "is_whole" (defScope s_is_whole) f cdv A outer s H X) (defBody s_is_whole) (t_is_whole K X) :=
  (pss_one (ps_ret (pe_and (pe_callB call_isiA rfl T.b_isinstance (by decide +kernel) (pa_cons (pv 0) (pa_cons (pe_bltn rfl T.b_int (by decide +kernel) rfl) pa_nil))) (pe_one (pe_not (pe_callB call_isiA rfl T.b_isinstance (by decide +kernel) (pa_cons (pv 0) (pa_cons (pe_bltn rfl T.b_bool (by decide +kernel) rfl) pa_nil))))))))
theorem body_common (T : Txt K mg) {f : Addr} {cdv : Value} {A : Around} {outer : List Env} {s : Shared} {H : Hp} {X : XK} (hr : Room 0 (A.deeper (PyProof.Rows.envOfC "common" (defScope s_common) s.heap.objs.size f cdv))) :
    PSs (cxOf (L2.CX P w) P w K mg base N_common "common" (defScope s_common) f cdv A outer s H X) (defBody s_common) (t_common K X) :=
  (pss_cons (ps_while (passes_of rfl) (pt_cmpR (op_neU hr.units) (pv 1) pe_int (nomark _))
    (pss_one (ps_par (by rfl) sc_common.nd rfl rfl (by decide) rfl rfl (pa_cons (pv 1) (pa_cons (pe_op op_modN (pv 0) (pv 1)) pa_nil)) (by rfl))))
    (pss_one (ps_ret (pe_callB call_abs rfl T.b_abs (by decide +kernel) (pa_cons (pv 0) pa_nil)))))
theorem body_number_of (T : Txt K mg) (F_common : Fo P w K mg base "common" ["one", "other"] [] 1 (sp_common K)) (F_is_whole : Fo P w K mg base "is_whole" ["thing"] [] 1 (sp_is_whole K)) {f : Addr} {cdv : Value} {A : Around} {outer : List Env} {s : Shared} {H : Hp} {X : XK} (hr : Room 1 (A.deeper (PyProof.Rows.envOfC "number_of" (defScope s_number_of) s.heap.objs.size f cdv))) :
    PSs (cxOf (L2.CX P w) P w K mg base N_number_of "number_of" (defScope s_number_of) f cdv A outer s H X) (defBody s_number_of) (t_number_of K X) :=
  (pss_cons (ps_if (PW.pt (pw_or (pt_not (pt_val (pe_callF F_is_whole (hr.mono (by decide)) (passes_call (takes_of rfl rfl rfl rfl) (fun _ _ _ _ h => h)) (pa_cons (pv 0) pa_nil)))) (pw_or (pt_not (pt_val (pe_callF F_is_whole (hr.mono (by decide)) (passes_call (takes_of rfl rfl rfl rfl) (fun _ _ _ _ h => h)) (pa_cons (pv 1) pa_nil)))) (pw_or1 (pt_cmpR (op_eqU hr.units) (pv 1) pe_int (nomark _))))))
    (pss_one (ps_raiseX rfl (takes_of rfl rfl rfl rfl) (T.e_NoNumber.pmk T.g_NoNumber (by exact rfl))))
    pss_nil)
    (pss_cons (ps_set (i := 2) sc_number_of.nd rfl (Or.inl rfl) (pe_callF F_common (hr.mono (by decide)) (passes_call (takes_of rfl rfl rfl rfl) (fun _ _ _ _ h => h)) (pa_cons (pv 0) (pa_cons (pv 1) pa_nil))))
    (pss_cons (ps_if (pt_cmpR op_lt (pv 1) pe_int (nomark _))
    (pss_one (ps_set (i := 2) sc_number_of.nd rfl (Or.inl rfl) (pe_op op_sub pe_int (pv 2))))
    pss_nil)
    (pss_one (ps_ret (pe_tup (pa_cons (pe_op op_div (pv 0) (pv 2)) (pa_cons (pe_op op_div (pv 1) (pv 2)) pa_nil))))))))
theorem body_plus (T : Txt K mg) (F_number_of : Fo P w K mg base "number_of" ["top", "bottom"] [] 2 (sp_number_of K)) {f : Addr} {cdv : Value} {A : Around} {outer : List Env} {s : Shared} {H : Hp} {X : XK} (hr : Room 2 (A.deeper (PyProof.Rows.envOfC "plus" (defScope s_plus) s.heap.objs.size f cdv))) :
    PSs (cxOf (L2.CX P w) P w K mg base N_plus "plus" (defScope s_plus) f cdv A outer s H X) (defBody s_plus) (t_plus K X) :=
  (pss_one (ps_ret (pe_callF F_number_of (hr.mono (by decide)) (passes_call (takes_of rfl rfl rfl rfl) (fun _ _ _ _ h => h)) (pa_cons (pe_op op_addU (pe_op op_mulU (pe_ix ix_seq (pv 0) pe_int (fun _ _ => rfl)) (pe_ix ix_seq (pv 1) pe_int (fun _ _ => rfl))) (pe_op op_mulU (pe_ix ix_seq (pv 1) pe_int (fun _ _ => rfl)) (pe_ix ix_seq (pv 0) pe_int (fun _ _ => rfl)))) (pa_cons (pe_op op_mulU (pe_ix ix_seq (pv 0) pe_int (fun _ _ => rfl)) (pe_ix ix_seq (pv 1) pe_int (fun _ _ => rfl))) pa_nil)))))
theorem body_minus (T : Txt K mg) (F_number_of : Fo P w K mg base "number_of" ["top", "bottom"] [] 2 (sp_number_of K)) {f : Addr} {cdv : Value} {A : Around} {outer : List Env} {s : Shared} {H : Hp} {X : XK} (hr : Room 2 (A.deeper (PyProof.Rows.envOfC "minus" (defScope s_minus) s.heap.objs.size f cdv))) :
    PSs (cxOf (L2.CX P w) P w K mg base N_minus "minus" (defScope s_minus) f cdv A outer s H X) (defBody s_minus) (t_minus K X) :=
  (pss_one (ps_ret (pe_callF F_number_of (hr.mono (by decide)) (passes_call (takes_of rfl rfl rfl rfl) (fun _ _ _ _ h => h)) (pa_cons (pe_op op_sub (pe_op op_mulU (pe_ix ix_seq (pv 0) pe_int (fun _ _ => rfl)) (pe_ix ix_seq (pv 1) pe_int (fun _ _ => rfl))) (pe_op op_mulU (pe_ix ix_seq (pv 1) pe_int (fun _ _ => rfl)) (pe_ix ix_seq (pv 0) pe_int (fun _ _ => rfl)))) (pa_cons (pe_op op_mulU (pe_ix ix_seq (pv 0) pe_int (fun _ _ => rfl)) (pe_ix ix_seq (pv 1) pe_int (fun _ _ => rfl))) pa_nil)))))
theorem body_times (T : Txt K mg) (F_number_of : Fo P w K mg base "number_of" ["top", "bottom"] [] 2 (sp_number_of K)) {f : Addr} {cdv : Value} {A : Around} {outer : List Env} {s : Shared} {H : Hp} {X : XK} (hr : Room 2 (A.deeper (PyProof.Rows.envOfC "times" (defScope s_times) s.heap.objs.size f cdv))) :
    PSs (cxOf (L2.CX P w) P w K mg base N_times "times" (defScope s_times) f cdv A outer s H X) (defBody s_times) (t_times K X) :=
  (pss_one (ps_ret (pe_callF F_number_of (hr.mono (by decide)) (passes_call (takes_of rfl rfl rfl rfl) (fun _ _ _ _ h => h)) (pa_cons (pe_op op_mulU (pe_ix ix_seq (pv 0) pe_int (fun _ _ => rfl)) (pe_ix ix_seq (pv 1) pe_int (fun _ _ => rfl))) (pa_cons (pe_op op_mulU (pe_ix ix_seq (pv 0) pe_int (fun _ _ => rfl)) (pe_ix ix_seq (pv 1) pe_int (fun _ _ => rfl))) pa_nil)))))
theorem body_over (T : Txt K mg) (F_number_of : Fo P w K mg base "number_of" ["top", "bottom"] [] 2 (sp_number_of K)) {f : Addr} {cdv : Value} {A : Around} {outer : List Env} {s : Shared} {H : Hp} {X : XK} (hr : Room 2 (A.deeper (PyProof.Rows.envOfC "over" (defScope s_over) s.heap.objs.size f cdv))) :
    PSs (cxOf (L2.CX P w) P w K mg base N_over "over" (defScope s_over) f cdv A outer s H X) (defBody s_over) (t_over K X) :=
  (pss_one (ps_ret (pe_callF F_number_of (hr.mono (by decide)) (passes_call (takes_of rfl rfl rfl rfl) (fun _ _ _ _ h => h)) (pa_cons (pe_op op_mulU (pe_ix ix_seq (pv 0) pe_int (fun _ _ => rfl)) (pe_ix ix_seq (pv 1) pe_int (fun _ _ => rfl))) (pa_cons (pe_op op_mulU (pe_ix ix_seq (pv 0) pe_int (fun _ _ => rfl)) (pe_ix ix_seq (pv 1) pe_int (fun _ _ => rfl))) pa_nil)))))
theorem body_is_less (T : Txt K mg) {f : Addr} {cdv : Value} {A : Around} {outer : List Env} {s : Shared} {H : Hp} {X : XK} (hr : Room 0 (A.deeper (PyProof.Rows.envOfC "is_less" (defScope s_is_less) s.heap.objs.size f cdv))) :
    PSs (cxOf (L2.CX P w) P w K mg base N_is_less "is_less" (defScope s_is_less) f cdv A outer s H X) (defBody s_is_less) (t_is_less K X) :=
  (pss_one (ps_ret (pe_cmpR op_lt (pe_op op_mulU (pe_ix ix_seq (pv 0) pe_int (fun _ _ => rfl)) (pe_ix ix_seq (pv 1) pe_int (fun _ _ => rfl))) (pe_op op_mulU (pe_ix ix_seq (pv 1) pe_int (fun _ _ => rfl)) (pe_ix ix_seq (pv 0) pe_int (fun _ _ => rfl))) (nomark _))))
theorem body__law_well (T : Txt K mg) {f : Addr} {cdv : Value} {A : Around} {outer : List Env} {s : Shared} {H : Hp} {X : XK} (hr : Room 0 (A.deeper (PyProof.Rows.envOfC "_law_well" (defScope s__law_well) s.heap.objs.size f cdv))) :
    PSs (cxOf (L2.CX P w) P w K mg base N__law_well "_law_well" (defScope s__law_well) f cdv A outer s H X) (defBody s__law_well) (t__law_well K X) :=
  (pss_cons (ps_set (i := 2) sc__law_well.nd rfl (Or.inl rfl) pe_int)
    (pss_cons (ps_if (pt_cmpR op_lt (pv 1) (pe_callB call_len rfl T.b_len (by decide +kernel) (pa_cons (pv 0) pa_nil)) (nomark _))
    (pss_one (ps_set (i := 2) sc__law_well.nd rfl (Or.inl rfl) (pe_ix ix_seq (pv 0) (pv 1) (fun _ _ => rfl))))
    pss_nil)
    (pss_one (ps_ret (pe_lst (pa_cons (pe_callTy call_int1 rfl T.b_int (by decide +kernel) (pa_cons (pe_cmpR op_ge (pe_callB call_abs rfl T.b_abs (by decide +kernel) (pa_cons (pv 2) pa_nil)) (pe_op op_pow pe_int pe_int) (nomark _)) pa_nil)) (pa_cons (pv 2) (pa_cons (pe_op op_mulU pe_int (pv 1)) pa_nil))))))))
theorem body__law_take (T : Txt K mg) {f : Addr} {cdv : Value} {A : Around} {outer : List Env} {s : Shared} {H : Hp} {X : XK} (hr : Room 0 (A.deeper (PyProof.Rows.envOfC "_law_take" (defScope s__law_take) s.heap.objs.size f cdv))) :
    PSs (cxOf (L2.CX P w) P w K mg base N__law_take "_law_take" (defScope s__law_take) f cdv A outer s H X) (defBody s__law_take) (t__law_take K X) :=
  (pss_cons (ps_if (pt_cmpR (op_eqU hr.units) (pe_ix ix_seq (pv 0) pe_int (fun _ _ => rfl)) pe_int (nomark _))
    (pss_cons (ps_set (i := 2) sc__law_take.nd rfl (Or.inl rfl) (pe_op op_modN (pe_ix ix_seq (pv 0) pe_int (fun _ _ => rfl)) (pv 1)))
    (pss_cons (ps_asg (pe_op op_div (pe_ix ix_seq (pv 0) pe_int (fun _ _ => rfl)) (pv 1)) (pg_sub (pv 0) pe_int set_list))
    (pss_one (ps_ret (pv 2)))))
    pss_nil)
    (pss_cons (ps_set (i := 3) sc__law_take.nd rfl (Or.inl rfl) (pe_op op_addU (pe_ix ix_seq (pv 0) pe_int (fun _ _ => rfl)) pe_int))
    (pss_cons (ps_asg (pv 3) (pg_sub (pv 0) pe_int set_list))
    (pss_cons (ps_set (i := 4) sc__law_take.nd rfl (Or.inl rfl) (pe_op op_modN (pe_op op_mulU (pe_op op_addU (pe_op op_addU (pe_ix ix_seq (pv 0) pe_int (fun _ _ => rfl)) (pe_op op_mulU (pe_op op_mulU pe_int (pv 3)) (pv 3))) (pv 3)) pe_int) pe_int))
    (pss_one (ps_ret (pe_op op_modN (pe_op op_div (pe_op op_modN (pe_op op_addU (pe_op op_mulU (pv 4) pe_int) pe_int) pe_int) pe_int) (pv 1))))))))
theorem body__law_common (T : Txt K mg) {f : Addr} {cdv : Value} {A : Around} {outer : List Env} {s : Shared} {H : Hp} {X : XK} (hr : Room 0 (A.deeper (PyProof.Rows.envOfC "_law_common" (defScope s__law_common) s.heap.objs.size f cdv))) :
    PSs (cxOf (L2.CX P w) P w K mg base N__law_common "_law_common" (defScope s__law_common) f cdv A outer s H X) (defBody s__law_common) (t__law_common K X) :=
  (pss_cons (ps_while (passes_of rfl) (pt_cmpR (op_neU hr.units) (pv 1) pe_int (nomark _))
    (pss_one (ps_par (by rfl) sc__law_common.nd rfl rfl (by decide) rfl rfl (pa_cons (pv 1) (pa_cons (pe_op op_modN (pv 0) (pv 1)) pa_nil)) (by rfl))))
    (pss_one (ps_ret (pe_callB call_abs rfl T.b_abs (by decide +kernel) (pa_cons (pv 0) pa_nil)))))
theorem body__law_num (T : Txt K mg) (F__law_common : Fo P w K mg base "_law_common" ["_law_one", "_law_other"] [] 1 (sp__law_common K)) {f : Addr} {cdv : Value} {A : Around} {outer : List Env} {s : Shared} {H : Hp} {X : XK} (hr : Room 1 (A.deeper (PyProof.Rows.envOfC "_law_num" (defScope s__law_num) s.heap.objs.size f cdv))) :
    PSs (cxOf (L2.CX P w) P w K mg base N__law_num "_law_num" (defScope s__law_num) f cdv A outer s H X) (defBody s__law_num) (t__law_num K X) :=
  (pss_cons (ps_if (pt_cmpR op_lt (pv 1) pe_int (nomark _))
    (pss_cons (ps_set (i := 0) sc__law_num.nd rfl (Or.inl rfl) (pe_op op_sub pe_int (pv 0)))
    (pss_one (ps_set (i := 1) sc__law_num.nd rfl (Or.inl rfl) (pe_op op_sub pe_int (pv 1)))))
    pss_nil)
    (pss_cons (ps_set (i := 2) sc__law_num.nd rfl (Or.inl rfl) (pe_callF F__law_common (hr.mono (by decide)) (passes_call (takes_of rfl rfl rfl rfl) (fun _ _ _ _ h => h)) (pa_cons (pv 0) (pa_cons (pv 1) pa_nil))))
    (pss_one (ps_ret (pe_tup (pa_cons (pe_op op_div (pv 0) (pv 2)) (pa_cons (pe_op op_div (pv 1) (pv 2)) pa_nil)))))))
theorem body__law_number (T : Txt K mg) (F__law_num : Fo P w K mg base "_law_num" ["_law_top", "_law_bottom"] [] 2 (sp__law_num K)) (F__law_take : Fo P w K mg base "_law_take" ["_law_well_here", "_law_many"] [] 1 (sp__law_take K)) {f : Addr} {cdv : Value} {A : Around} {outer : List Env} {s : Shared} {H : Hp} {X : XK} (hr : Room 2 (A.deeper (PyProof.Rows.envOfC "_law_number" (defScope s__law_number) s.heap.objs.size f cdv))) :
    PSs (cxOf (L2.CX P w) P w K mg base N__law_number "_law_number" (defScope s__law_number) f cdv A outer s H X) (defBody s__law_number) (t__law_number K X) :=
  (pss_cons (ps_set (i := 1) sc__law_number.nd rfl (Or.inl rfl) (pe_callF F__law_take (hr.mono (by decide)) (passes_call (takes_of rfl rfl rfl rfl) (fun _ _ _ _ h => h)) (pa_cons (pv 0) (pa_cons pe_int pa_nil))))
    (pss_cons (ps_if (pt_cmpR (op_eqU hr.units) (pv 1) pe_int (nomark _))
    (pss_one (ps_ret (pe_callF F__law_num (hr.mono (by decide)) (passes_call (takes_of rfl rfl rfl rfl) (fun _ _ _ _ h => h)) (pa_cons (pe_op op_sub (pe_callF F__law_take (hr.mono (by decide)) (passes_call (takes_of rfl rfl rfl rfl) (fun _ _ _ _ h => h)) (pa_cons (pv 0) (pa_cons (pe_op op_addU (pe_op op_mulU pe_int (pe_op op_pow pe_int pe_int)) pe_int) pa_nil))) (pe_op op_pow pe_int pe_int)) (pa_cons (pe_op op_addU pe_int (pe_callF F__law_take (hr.mono (by decide)) (passes_call (takes_of rfl rfl rfl rfl) (fun _ _ _ _ h => h)) (pa_cons (pv 0) (pa_cons (pe_op op_pow pe_int pe_int) pa_nil)))) pa_nil)))))
    pss_nil)
    (pss_cons (ps_if (pt_cmpR op_gt (pv 1) pe_int (nomark _))
    (pss_one (ps_ret (pe_callF F__law_num (hr.mono (by decide)) (passes_call (takes_of rfl rfl rfl rfl) (fun _ _ _ _ h => h)) (pa_cons (pe_op op_sub (pe_callF F__law_take (hr.mono (by decide)) (passes_call (takes_of rfl rfl rfl rfl) (fun _ _ _ _ h => h)) (pa_cons (pv 0) (pa_cons pe_int pa_nil))) pe_int) (pa_cons (pe_op op_addU pe_int (pe_callF F__law_take (hr.mono (by decide)) (passes_call (takes_of rfl rfl rfl rfl) (fun _ _ _ _ h => h)) (pa_cons (pv 0) (pa_cons pe_int pa_nil)))) pa_nil)))))
    pss_nil)
    (pss_one (ps_ret (pe_tup (pa_cons (pe_op op_sub (pe_callF F__law_take (hr.mono (by decide)) (passes_call (takes_of rfl rfl rfl rfl) (fun _ _ _ _ h => h)) (pa_cons (pv 0) (pa_cons pe_int pa_nil))) pe_int) (pa_cons pe_int pa_nil))))))))
theorem body__law_adds (T : Txt K mg) (F_minus : Fo P w K mg base "minus" ["a", "b"] [] 3 (sp_minus K)) (F_over : Fo P w K mg base "over" ["a", "b"] [] 3 (sp_over K)) (F_plus : Fo P w K mg base "plus" ["a", "b"] [] 3 (sp_plus K)) (F_times : Fo P w K mg base "times" ["a", "b"] [] 3 (sp_times K)) {f : Addr} {cdv : Value} {A : Around} {outer : List Env} {s : Shared} {H : Hp} {X : XK} (hr : Room 3 (A.deeper (PyProof.Rows.envOfC "_law_adds" (defScope s__law_adds) s.heap.objs.size f cdv))) :
    PSs (cxOf (L2.CX P w) P w K mg base N__law_adds "_law_adds" (defScope s__law_adds) f cdv A outer s H X) (defBody s__law_adds) (t__law_adds K X) :=
  (pss_cons (ps_if (PW.pt (pw_or (pt_cmpR (op_neU hr.units) (pe_callF F_plus (hr.mono (by decide)) (passes_call (takes_of rfl rfl rfl rfl) (fun _ _ _ _ h => h)) (pa_cons (pv 0) (pa_cons (pv 1) pa_nil))) (pe_callF F_plus (hr.mono (by decide)) (passes_call (takes_of rfl rfl rfl rfl) (fun _ _ _ _ h => h)) (pa_cons (pv 1) (pa_cons (pv 0) pa_nil))) (nomark _)) (pw_or1 (pt_cmpR (op_neU hr.units) (pe_callF F_times (hr.mono (by decide)) (passes_call (takes_of rfl rfl rfl rfl) (fun _ _ _ _ h => h)) (pa_cons (pv 0) (pa_cons (pv 1) pa_nil))) (pe_callF F_times (hr.mono (by decide)) (passes_call (takes_of rfl rfl rfl rfl) (fun _ _ _ _ h => h)) (pa_cons (pv 1) (pa_cons (pv 0) pa_nil))) (nomark _)))))
    (pss_one (ps_ret pe_bl))
    pss_nil)
    (pss_cons (ps_if (pt_cmpR (op_neU hr.units) (pe_callF F_plus (hr.mono (by decide)) (passes_call (takes_of rfl rfl rfl rfl) (fun _ _ _ _ h => h)) (pa_cons (pe_callF F_plus (hr.mono (by decide)) (passes_call (takes_of rfl rfl rfl rfl) (fun _ _ _ _ h => h)) (pa_cons (pv 0) (pa_cons (pv 1) pa_nil))) (pa_cons (pv 2) pa_nil))) (pe_callF F_plus (hr.mono (by decide)) (passes_call (takes_of rfl rfl rfl rfl) (fun _ _ _ _ h => h)) (pa_cons (pv 0) (pa_cons (pe_callF F_plus (hr.mono (by decide)) (passes_call (takes_of rfl rfl rfl rfl) (fun _ _ _ _ h => h)) (pa_cons (pv 1) (pa_cons (pv 2) pa_nil))) pa_nil))) (nomark _))
    (pss_one (ps_ret pe_bl))
    pss_nil)
    (pss_cons (ps_if (pt_cmpR (op_neU hr.units) (pe_callF F_times (hr.mono (by decide)) (passes_call (takes_of rfl rfl rfl rfl) (fun _ _ _ _ h => h)) (pa_cons (pe_callF F_times (hr.mono (by decide)) (passes_call (takes_of rfl rfl rfl rfl) (fun _ _ _ _ h => h)) (pa_cons (pv 0) (pa_cons (pv 1) pa_nil))) (pa_cons (pv 2) pa_nil))) (pe_callF F_times (hr.mono (by decide)) (passes_call (takes_of rfl rfl rfl rfl) (fun _ _ _ _ h => h)) (pa_cons (pv 0) (pa_cons (pe_callF F_times (hr.mono (by decide)) (passes_call (takes_of rfl rfl rfl rfl) (fun _ _ _ _ h => h)) (pa_cons (pv 1) (pa_cons (pv 2) pa_nil))) pa_nil))) (nomark _))
    (pss_one (ps_ret pe_bl))
    pss_nil)
    (pss_cons (ps_if (pt_cmpR (op_neU hr.units) (pe_callF F_times (hr.mono (by decide)) (passes_call (takes_of rfl rfl rfl rfl) (fun _ _ _ _ h => h)) (pa_cons (pv 0) (pa_cons (pe_callF F_plus (hr.mono (by decide)) (passes_call (takes_of rfl rfl rfl rfl) (fun _ _ _ _ h => h)) (pa_cons (pv 1) (pa_cons (pv 2) pa_nil))) pa_nil))) (pe_callF F_plus (hr.mono (by decide)) (passes_call (takes_of rfl rfl rfl rfl) (fun _ _ _ _ h => h)) (pa_cons (pe_callF F_times (hr.mono (by decide)) (passes_call (takes_of rfl rfl rfl rfl) (fun _ _ _ _ h => h)) (pa_cons (pv 0) (pa_cons (pv 1) pa_nil))) (pa_cons (pe_callF F_times (hr.mono (by decide)) (passes_call (takes_of rfl rfl rfl rfl) (fun _ _ _ _ h => h)) (pa_cons (pv 0) (pa_cons (pv 2) pa_nil))) pa_nil))) (nomark _))
    (pss_one (ps_ret pe_bl))
    pss_nil)
    (pss_cons (ps_if (PW.pt (pw_or (pt_cmpR (op_neU hr.units) (pe_callF F_minus (hr.mono (by decide)) (passes_call (takes_of rfl rfl rfl rfl) (fun _ _ _ _ h => h)) (pa_cons (pe_callF F_plus (hr.mono (by decide)) (passes_call (takes_of rfl rfl rfl rfl) (fun _ _ _ _ h => h)) (pa_cons (pv 0) (pa_cons (pv 1) pa_nil))) (pa_cons (pv 1) pa_nil))) (pv 0) (nomark _)) (pw_or1 (pt_cmpR (op_neU hr.units) (pe_callF F_plus (hr.mono (by decide)) (passes_call (takes_of rfl rfl rfl rfl) (fun _ _ _ _ h => h)) (pa_cons (pe_callF F_minus (hr.mono (by decide)) (passes_call (takes_of rfl rfl rfl rfl) (fun _ _ _ _ h => h)) (pa_cons (pv 0) (pa_cons (pv 1) pa_nil))) (pa_cons (pv 1) pa_nil))) (pv 0) (nomark _)))))
    (pss_one (ps_ret pe_bl))
    pss_nil)
    (pss_one (ps_ret (pe_or (pe_cmpR (op_eqU hr.units) (pv 1) (pe_tup (pa_cons pe_int (pa_cons pe_int pa_nil))) (nomark _)) (pe_one (pe_and (pe_cmpR (op_eqU hr.units) (pe_callF F_over (hr.mono (by decide)) (passes_call (takes_of rfl rfl rfl rfl) (fun _ _ _ _ h => h)) (pa_cons (pe_callF F_times (hr.mono (by decide)) (passes_call (takes_of rfl rfl rfl rfl) (fun _ _ _ _ h => h)) (pa_cons (pv 0) (pa_cons (pv 1) pa_nil))) (pa_cons (pv 1) pa_nil))) (pv 0) (nomark _)) (pe_one (pe_cmpR (op_eqU hr.units) (pe_callF F_times (hr.mono (by decide)) (passes_call (takes_of rfl rfl rfl rfl) (fun _ _ _ _ h => h)) (pa_cons (pe_callF F_over (hr.mono (by decide)) (passes_call (takes_of rfl rfl rfl rfl) (fun _ _ _ _ h => h)) (pa_cons (pv 0) (pa_cons (pv 1) pa_nil))) (pa_cons (pv 1) pa_nil))) (pv 0) (nomark _)))))))))))))
theorem body__law_orders (T : Txt K mg) (F_is_less : Fo P w K mg base "is_less" ["a", "b"] [] 1 (sp_is_less K)) (F_plus : Fo P w K mg base "plus" ["a", "b"] [] 3 (sp_plus K)) (F_times : Fo P w K mg base "times" ["a", "b"] [] 3 (sp_times K)) {f : Addr} {cdv : Value} {A : Around} {outer : List Env} {s : Shared} {H : Hp} {X : XK} (hr : Room 3 (A.deeper (PyProof.Rows.envOfC "_law_orders" (defScope s__law_orders) s.heap.objs.size f cdv))) :
    PSs (cxOf (L2.CX P w) P w K mg base N__law_orders "_law_orders" (defScope s__law_orders) f cdv A outer s H X) (defBody s__law_orders) (t__law_orders K X) :=
  (pss_cons (ps_if (pt_cmpR (op_neU hr.units) (pe_bm PySem.F.plainAttrs_list PySem.F.slot_list_count PySem.F.type_list_count (mt_countD (hu_65 hr)) (pe_lst (pa_cons (pe_callF F_is_less (hr.mono (by decide)) (passes_call (takes_of rfl rfl rfl rfl) (fun _ _ _ _ h => h)) (pa_cons (pv 0) (pa_cons (pv 1) pa_nil))) (pa_cons (pe_callF F_is_less (hr.mono (by decide)) (passes_call (takes_of rfl rfl rfl rfl) (fun _ _ _ _ h => h)) (pa_cons (pv 1) (pa_cons (pv 0) pa_nil))) (pa_cons (pe_cmpR (op_eqU hr.units) (pv 0) (pv 1) (nomark _)) pa_nil)))) (pa_cons pe_bl pa_nil)) pe_int (nomark _))
    (pss_one (ps_ret pe_bl))
    pss_nil)
    (pss_cons (ps_if (pt_cmpR (op_neU hr.units) (pe_callF F_is_less (hr.mono (by decide)) (passes_call (takes_of rfl rfl rfl rfl) (fun _ _ _ _ h => h)) (pa_cons (pe_callF F_plus (hr.mono (by decide)) (passes_call (takes_of rfl rfl rfl rfl) (fun _ _ _ _ h => h)) (pa_cons (pv 0) (pa_cons (pv 2) pa_nil))) (pa_cons (pe_callF F_plus (hr.mono (by decide)) (passes_call (takes_of rfl rfl rfl rfl) (fun _ _ _ _ h => h)) (pa_cons (pv 1) (pa_cons (pv 2) pa_nil))) pa_nil))) (pe_callF F_is_less (hr.mono (by decide)) (passes_call (takes_of rfl rfl rfl rfl) (fun _ _ _ _ h => h)) (pa_cons (pv 0) (pa_cons (pv 1) pa_nil))) (nomark _))
    (pss_one (ps_ret pe_bl))
    pss_nil)
    (pss_cons (ps_set (i := 3) sc__law_orders.nd rfl (Or.inl rfl) (pe_callF F_times (hr.mono (by decide)) (passes_call (takes_of rfl rfl rfl rfl) (fun _ _ _ _ h => h)) (pa_cons (pv 0) (pa_cons (pv 2) pa_nil))))
    (pss_cons (ps_set (i := 4) sc__law_orders.nd rfl (Or.inl rfl) (pe_callF F_times (hr.mono (by decide)) (passes_call (takes_of rfl rfl rfl rfl) (fun _ _ _ _ h => h)) (pa_cons (pv 1) (pa_cons (pv 2) pa_nil))))
    (pss_cons (ps_if (PW.pt (pw_and (pt_val (pe_callF F_is_less (hr.mono (by decide)) (passes_call (takes_of rfl rfl rfl rfl) (fun _ _ _ _ h => h)) (pa_cons (pe_tup (pa_cons pe_int (pa_cons pe_int pa_nil))) (pa_cons (pv 2) pa_nil)))) (pw_and1 (pt_cmpR (op_neU hr.units) (pe_callF F_is_less (hr.mono (by decide)) (passes_call (takes_of rfl rfl rfl rfl) (fun _ _ _ _ h => h)) (pa_cons (pv 3) (pa_cons (pv 4) pa_nil))) (pe_callF F_is_less (hr.mono (by decide)) (passes_call (takes_of rfl rfl rfl rfl) (fun _ _ _ _ h => h)) (pa_cons (pv 0) (pa_cons (pv 1) pa_nil))) (nomark _)))))
    (pss_one (ps_ret pe_bl))
    pss_nil)
    (pss_cons (ps_if (PW.pt (pw_and (pt_val (pe_callF F_is_less (hr.mono (by decide)) (passes_call (takes_of rfl rfl rfl rfl) (fun _ _ _ _ h => h)) (pa_cons (pv 2) (pa_cons (pe_tup (pa_cons pe_int (pa_cons pe_int pa_nil))) pa_nil)))) (pw_and1 (pt_cmpR (op_neU hr.units) (pe_callF F_is_less (hr.mono (by decide)) (passes_call (takes_of rfl rfl rfl rfl) (fun _ _ _ _ h => h)) (pa_cons (pv 3) (pa_cons (pv 4) pa_nil))) (pe_callF F_is_less (hr.mono (by decide)) (passes_call (takes_of rfl rfl rfl rfl) (fun _ _ _ _ h => h)) (pa_cons (pv 1) (pa_cons (pv 0) pa_nil))) (nomark _)))))
    (pss_one (ps_ret pe_bl))
    pss_nil)
    (pss_one (ps_ret (pe_or (pe_not (pe_callF F_is_less (hr.mono (by decide)) (passes_call (takes_of rfl rfl rfl rfl) (fun _ _ _ _ h => h)) (pa_cons (pv 0) (pa_cons (pv 1) pa_nil)))) (pe_or (pe_not (pe_callF F_is_less (hr.mono (by decide)) (passes_call (takes_of rfl rfl rfl rfl) (fun _ _ _ _ h => h)) (pa_cons (pv 1) (pa_cons (pv 2) pa_nil)))) (pe_one (pe_callF F_is_less (hr.mono (by decide)) (passes_call (takes_of rfl rfl rfl rfl) (fun _ _ _ _ h => h)) (pa_cons (pv 0) (pa_cons (pv 2) pa_nil))))))))))))))
theorem body_law (T : Txt K mg) (F__law_adds : Fo P w K mg base "_law_adds" ["_law_one", "_law_other", "_law_third"] [] 4 (sp__law_adds K)) (F__law_number : Fo P w K mg base "_law_number" ["_law_well_here"] [] 3 (sp__law_number K)) (F__law_orders : Fo P w K mg base "_law_orders" ["_law_one", "_law_other", "_law_third"] [] 4 (sp__law_orders K)) (F__law_take : Fo P w K mg base "_law_take" ["_law_well_here", "_law_many"] [] 1 (sp__law_take K)) (F__law_well : Fo P w K mg base "_law_well" ["_law_script", "_law_k"] [] 1 (sp__law_well K)) (F_minus : Fo P w K mg base "minus" ["a", "b"] [] 3 (sp_minus K)) (F_number_of : Fo P w K mg base "number_of" ["top", "bottom"] [] 2 (sp_number_of K)) {f : Addr} {cdv : Value} {A : Around} {outer : List Env} {s : Shared} {H : Hp} {X : XK} (hr : Room 4 (A.deeper (PyProof.Rows.envOfC "law" (defScope s_law) s.heap.objs.size f cdv))) :
    PSs (cxOf (L2.CX P w) P w K mg base N_law "law" (defScope s_law) f cdv A outer s H X) (defBody s_law) (t_law K X) :=
  (pss_cons (ps_for (passes_of rfl) rfl (pi_range1 rfl T.b_range (pa_cons (pe_callB (call_max2 rfl) rfl T.b_max (by decide +kernel) (pa_cons pe_int (pa_cons (pe_callB (call_min2 rfl) rfl T.b_min (by decide +kernel) (pa_cons (pe_callB call_len rfl T.b_len (by decide +kernel) (pa_cons (pv 0) pa_nil)) (pa_cons pe_int pa_nil))) pa_nil))) pa_nil)) (pg_name (i := 1) sc_law.nd rfl (Or.inl rfl))
    (pss_cons (ps_set (i := 2) sc_law.nd rfl (Or.inr rfl) (pe_callF F__law_well (hr.mono (by decide)) (passes_call (takes_of rfl rfl rfl rfl) (fun _ _ _ _ h => h)) (pa_cons (pv 0) (pa_cons (pv 1) pa_nil))))
    (pss_cons (ps_setLc (i := 3) (own := [("_law_j", 4)]) (g := (gName 4)) (tt := tYes) rfl sc_law.nd rfl rfl (sw_true rfl rfl rfl (by decide +kernel)) (pi_range1 rfl T.b_range (pa_cons pe_int pa_nil)) (blkOk_by (N := N_law) (sc := defScope s_law) (by decide +kernel)) (fun _ _ _ _ _ => (pg_name (i := 4) sc_law.nd rfl (Or.inl rfl))) (fun _ _ _ _ _ => pts_nil) (fun _ _ _ _ _ => (pe_callF F__law_number (hr.mono (by decide)) passL (pa_cons (pv 2) pa_nil))))
    (pss_cons (ps_if (pt_cmpR (op_eqU hr.units) (pe_callF F__law_take (hr.mono (by decide)) (passes_call (takes_of rfl rfl rfl rfl) (fun _ _ _ _ h => h)) (pa_cons (pv 2) (pa_cons pe_int pa_nil))) pe_int (nomark _))
    (pss_one (ps_asg (pe_ix ix_seq (pv 3) pe_int (fun _ _ => rfl)) (pg_sub (pv 3) (pe_callF F__law_take (hr.mono (by decide)) (passes_call (takes_of rfl rfl rfl rfl) (fun _ _ _ _ h => h)) (pa_cons (pv 2) (pa_cons pe_int pa_nil))) set_list)))
    pss_nil)
    (pss_one (ps_for (passes_of rfl) rfl (pi_seq (pe_lst (pa_cons (pv 3) (pa_cons (pe_revL (pv 3)) (pa_cons (pe_op op_addU (pe_slice sl_list (pv 3) (po_some pe_int) po_none) (pe_slice sl_list (pv 3) po_none (po_some pe_int))) pa_nil))))) (pg_lst rfl (pgs_cons (pg_name (i := 5) sc_law.nd rfl (Or.inl rfl)) (pgs_cons (pg_name (i := 6) sc_law.nd rfl (Or.inl rfl)) (pgs_cons (pg_name (i := 7) sc_law.nd rfl (Or.inl rfl)) pgs_nil))))
    (pss_cons (ps_if (PW.pt (pw_or (pt_not (pt_val (pe_callF F__law_adds (hr.mono (by decide)) (passes_call (takes_of rfl rfl rfl rfl) (fun _ _ _ _ h => h)) (pa_cons (pv 5) (pa_cons (pv 6) (pa_cons (pv 7) pa_nil)))))) (pw_or1 (pt_not (pt_val (pe_callF F__law_orders (hr.mono (by decide)) (passes_call (takes_of rfl rfl rfl rfl) (fun _ _ _ _ h => h)) (pa_cons (pv 5) (pa_cons (pv 6) (pa_cons (pv 7) pa_nil)))))))))
    (pss_one (ps_ret pe_bl))
    pss_nil)
    (pss_cons (ps_set (i := 8) sc_law.nd rfl (Or.inl rfl) (pe_op op_addU pe_int (pe_op op_modN (pe_ix ix_seq (pv 7) pe_int (fun _ _ => rfl)) pe_int)))
    (pss_cons (ps_if (PW.pt (pw_or (pt_cmpR (op_neU hr.units) (pe_callF F_number_of (hr.mono (by decide)) (passes_call (takes_of rfl rfl rfl rfl) (fun _ _ _ _ h => h)) (pa_cons (pe_ix ix_seq (pv 5) pe_int (fun _ _ => rfl)) (pa_cons (pe_ix ix_seq (pv 5) pe_int (fun _ _ => rfl)) pa_nil))) (pv 5) (nomark _)) (pw_or1 (pt_cmpR (op_neU hr.units) (pe_callF F_number_of (hr.mono (by decide)) (passes_call (takes_of rfl rfl rfl rfl) (fun _ _ _ _ h => h)) (pa_cons (pe_op op_mulU (pe_ix ix_seq (pv 5) pe_int (fun _ _ => rfl)) (pv 8)) (pa_cons (pe_op op_mulU (pe_ix ix_seq (pv 5) pe_int (fun _ _ => rfl)) (pv 8)) pa_nil))) (pv 5) (nomark _)))))
    (pss_one (ps_ret pe_bl))
    pss_nil)
    (pss_one (ps_if (PW.pt (pw_or (pt_cmpR (op_neU hr.units) (pe_callF F_number_of (hr.mono (by decide)) (passes_call (takes_of rfl rfl rfl rfl) (fun _ _ _ _ h => h)) (pa_cons (pe_op op_sub pe_int (pe_ix ix_seq (pv 5) pe_int (fun _ _ => rfl))) (pa_cons (pe_op op_sub pe_int (pe_ix ix_seq (pv 5) pe_int (fun _ _ => rfl))) pa_nil))) (pv 5) (nomark _)) (pw_or1 (pt_cmpR (op_neU hr.units) (pe_callF F_minus (hr.mono (by decide)) (passes_call (takes_of rfl rfl rfl rfl) (fun _ _ _ _ h => h)) (pa_cons (pv 5) (pa_cons (pv 5) pa_nil))) (pe_tup (pa_cons pe_int (pa_cons pe_int pa_nil))) (nomark _)))))
    (pss_one (ps_ret pe_bl))
    pss_nil)))))))))))
    (pss_one (ps_ret pe_bl)))
end
end K03
set_option Elab.async false
set_option linter.all false
set_option maxRecDepth 100000
set_option maxHeartbeats 4000000
open PySem PySem.Spec L2 TL
/-! ## small steps of the walk, by their names -/
local macro_rules | `(tactic| walk_at "side") => `(tactic| first | assumption | rfl | decide | omega)
local macro_rules | `(tactic| walk_at "evL") => `(tactic| fail)
local macro_rules | `(tactic| walk_at "ev") => `(tactic| first
  | exact ev_int | exact ev_bl | exact ev_str | exact ev_non | exact ev_var rfl
  | walk_at "evL"
  | (refine ev_add ?_ ?_; walk_at "ev"; walk_at "ev")
  | (refine ev_sub ?_ ?_; walk_at "ev"; walk_at "ev")
  | (refine ev_mul ?_ ?_ ?_; walk_at "ev"; walk_at "ev"; walk_at "side")
  | (refine ev_mod ?_ ?_ ?_; walk_at "ev"; walk_at "ev"; walk_at "side")
  | (refine ev_div ?_ ?_ ?_; walk_at "ev"; walk_at "ev"; walk_at "side")
  | (refine ev_pow ?_ ?_ ?_; walk_at "ev"; walk_at "ev"; walk_at "side")
  | (refine ev_neg ?_; walk_at "ev")
  | (refine ev_lt ?_ ?_; walk_at "ev"; walk_at "ev")
  | (refine ev_le ?_ ?_; walk_at "ev"; walk_at "ev")
  | (refine ev_gt ?_ ?_; walk_at "ev"; walk_at "ev")
  | (refine ev_ge ?_ ?_; walk_at "ev"; walk_at "ev")
  | (refine eq_I ?_ ?_; walk_at "ev"; walk_at "ev")
  | (refine ne_I ?_ ?_; walk_at "ev"; walk_at "ev")
  | (refine eq_S ?_ ?_; walk_at "ev"; walk_at "ev")
  | (refine ne_S ?_ ?_; walk_at "ev"; walk_at "ev")
  | (refine eq_B ?_ ?_; walk_at "ev"; walk_at "ev")
  | (refine ix_T ?_ ?_ ?_; walk_at "ev"; walk_at "ev"; walk_at "side")
  | (refine ix_L ?_ ?_ ?_; walk_at "ev"; walk_at "ev"; walk_at "side")
  | (refine ev_tup ?_ ?_; walk_at "evD"; walk_at "side")
  | (refine ev_lst ?_ ?_; walk_at "evD"; walk_at "side")
  | (refine ev_abs ?_; walk_at "ev")
  | (refine ev_max2 ?_ ?_; walk_at "ev"; walk_at "ev")
  | (refine ev_min2 ?_ ?_; walk_at "ev"; walk_at "ev")
  | (refine ev_intB ?_; walk_at "ev")
  | (refine ev_lenT ?_; walk_at "ev")
  | (refine ev_lenL ?_; walk_at "ev")
  | (refine ev_notV ?_; walk_at "ev"))
local macro_rules | `(tactic| walk_at "evD") => `(tactic| first
  | exact evD_nil
  | (refine evD_cons ?_ ?_; walk_at "ev"; walk_at "evD"))
local macro_rules | `(tactic| walk_at "evA") => `(tactic| first
  | exact evA_nil
  | (refine evA_cons ?_ ?_; walk_at "ev"; walk_at "evA"))
local macro_rules | `(tactic| walk_at "evT") => `(tactic| first
  | (refine evT_test ?_; walk_at "ev")
  | (refine evT_B ?_; walk_at "ev")
  | (refine evT_not ?_; walk_at "evT"))
local macro_rules | `(tactic| walk_at "sle") => `(tactic| repeat' first | exact SLe.nil | refine SLe.keep ?_ | refine SLe.drop ?_)
namespace K03
section
variable {K : PySem.W.Frag} {mg : Str → Option Value} {G : Sto} {D0 D1 D2 : Own} {te ta tb : TE} {F0 : Hp} {E : Ends} {X : XK} {n : String}
/-! ### is_whole -/
theorem walk_is_whole {n : String} (h : n ∈ kinds) (k : GoV E.rt F0 (DB K (decide (n = "int"))) D0) : Go (t_is_whole K X E) F0 [some (Of K n)] D0 :=
  go_ret (ev_d (ev_andV (ev_isiO (ev_var rfl) (kit_int h)) fun _ => ev_notV (ev_isiO (ev_var rfl) (kit_bool h))) (by rw [whole_val])) k
theorem pure_is_whole (T : Txt K mg) (vs : List V) (H : Hp) (Q : VK) (X : XK) (h : sp_is_whole K vs H Q X) : t_is_whole K X { nx := fun _ H' => Q .non H', rt := Q } (L2.start N_is_whole vs) H :=
  pure_of (fun n F D E hr _ hp po => by subst hr; exact walk_is_whole hp po) h
theorem len_is_whole (K : PySem.W.Frag) : ∀ vs H Q E, sp_is_whole K vs H Q E → vs.length = 1 := fsp_len fun _ => rfl
theorem ev_whole (h : Ev te G D0 (Of K n) D1) (hn : n ∈ kinds) : Ev (tCall (sp_is_whole K) [] X (tCons te tNil)) G D0 (DB K (decide (n = "int"))) D1 := ev_call0 (args := fun n => [Of K n]) n (evA_cons h evA_nil) hn rfl

/-! ### common -/
theorem walk_common {a b : Int} (k : GoV E.rt F0 (DI K (Int.gcd a b)) D0) : Go (t_common K X E) F0 [some (DI K a), some (DI K b)] D0 := by
  refine go_seq (go_while (S := Int × Int) (I := fun s => Int.gcd s.1 s.2 = Int.gcd a b) (Gs := fun s => [some (DI K s.1), some (DI K s.2)]) (Ds := fun _ => D0) (μ := fun s => s.2.natAbs) (bv := fun s => !decide (s.2 = 0)) (a, b) rfl (SLe.refl _) (List.Sublist.refl _) ?_ ?_ ?_)
  · intro s hs
    exact evT_test (ne_I (ev_var rfl) ev_int)
  · intro s hs hb Nx hN
    have h0 : s.2 ≠ 0 := by simpa using hb
    refine go_par (evA_cons (ev_var rfl) (evA_cons (ev_mod (ev_var rfl) (ev_var rfl) h0) evA_nil)) ?_
    exact hN (s.2, s.1.fmod s.2) ((Nu.gcd_fmod s.1 s.2).trans hs) (Nu.fmod_natAbs_lt h0)
  · intro s hs hb
    have h0 : s.2 = 0 := by simpa using hb
    refine go_ret (ev_d (ev_abs (ev_var rfl)) ?_) k
    have e : Int.gcd s.1 0 = Int.gcd a b := by rw [← h0]; exact hs
    rw [Int.gcd_zero_right] at e
    rw [← e]
    have : (if s.1 < 0 then -s.1 else s.1) = (s.1.natAbs : Int) := by split <;> omega
    rw [this]
theorem pure_common (T : Txt K mg) (vs : List V) (H : Hp) (Q : VK) (X : XK) (h : sp_common K vs H Q X) : t_common K X { nx := fun _ H' => Q .non H', rt := Q } (L2.start N_common vs) H :=
  pure_of (fun n F D E hr _ hp po => by subst hr; exact walk_common po) h
theorem len_common (K : PySem.W.Frag) : ∀ vs H Q E, sp_common K vs H Q E → vs.length = 2 := fsp_len fun _ => rfl
theorem ev_common {a b : Int} (ha : Ev ta G D0 (DI K a) D1) (hb : Ev tb G D1 (DI K b) D2) : Ev (tCall (sp_common K) [] X (tCons ta (tCons tb tNil))) G D0 (DI K (Int.gcd a b)) D2 := ev_call0 (args := fun x : Int × Int => [DI K x.1, DI K x.2]) (a, b) (evA_cons ha (evA_cons hb evA_nil)) trivial rfl

/-! ### number_of -/
theorem walk_number_ok (x : NA) (hp : x.pre) (k : Post (NA.out K x) E.rt X F0 D0) : Go (t_number_of K X E) F0 ((x.args K).map some ++ [none]) D0 := by
  cases x with
  | odd1 n m =>
    obtain ⟨h1, h2, h3⟩ := hp
    refine go_seq (go_if (evT_or (a := true) (b := true) (evT_b (evT_not (evT_B (ev_whole (ev_var rfl) h1))) (by simp [h2])) (fun z => nomatch z)) (fun _ => ?_) (fun z => nomatch z))
    exact go_raise k
  | odd2 t n =>
    obtain ⟨h1, h2⟩ := hp
    refine go_seq (go_if (evT_or (a := false) (b := true) (evT_b (evT_not (evT_B (ev_whole (ev_of (ev_var rfl)) mem_int))) rfl) (fun _ => evT_or (a := true) (b := true) (evT_b (evT_not (evT_B (ev_whole (ev_var rfl) h1))) (by simp [h2])) (fun z => nomatch z))) (fun _ => ?_) (fun z => nomatch z))
    exact go_raise k
  | good t b =>
    have hb : b.natAbs < 2 ^ 8000 := hp
    refine go_seq (go_if (evT_or (a := false) (b := decide (b = 0)) (evT_b (evT_not (evT_B (ev_whole (ev_of (ev_var rfl)) mem_int))) rfl) (fun _ => evT_or (a := false) (b := decide (b = 0)) (evT_b (evT_not (evT_B (ev_whole (ev_of (ev_var rfl)) mem_int))) rfl) (fun _ => evT_test (eq_I (ev_var rfl) ev_int)))) (fun hc => ?_) (fun hc => ?_))
    · have h0 : b = 0 := by simpa using hc
      subst h0
      exact go_raise k
    · have h0 : b ≠ 0 := by simpa using hc
      have k : GoV E.rt F0 (DQ K (Nu.q t b)) D0 := k.ok (if_neg h0)
      refine go_next (go_seq (go_set (ev_common (ev_var rfl) (ev_var rfl)) ?_))
      have rest : Go (fun σ H => (tRet (tTup (tCons (tOp rDivI (tVar 0) (tVar 2)) (tCons (tOp rDivI (tVar 1) (tVar 2)) tNil)))) E σ H) F0 [some (DI K t), some (DI K b), some (DI K (Nu.by_ t b))] D0 := by
        refine go_ret (ev_d (ev_tup (evD_cons (ev_div (ev_var rfl) (ev_var rfl) (div_ok h0 hb)) (evD_cons (ev_div (ev_var rfl) (ev_var rfl) (div_ok h0 hb)) evD_nil)) (by simp)) ?_) k
        rw [Nu.top_is h0, Nu.bot_is h0]
      refine go_seq (go_if (evT_test (ev_lt (ev_var rfl) ev_int)) (fun c => ?_) (fun c => ?_))
      · have hc : b < 0 := by simpa using c
        refine go_set (ev_sub ev_int (ev_var rfl)) ?_
        have e : Nu.by_ t b = 0 - (Int.gcd t b : Int) := by unfold Nu.by_; rw [if_pos hc]
        rw [e] at rest
        exact rest
      · have hc : ¬ b < 0 := by simpa using c
        have e : Nu.by_ t b = (Int.gcd t b : Int) := by unfold Nu.by_; rw [if_neg hc]
        rw [e] at rest
        exact rest
theorem pure_number_of (T : Txt K mg) (vs : List V) (H : Hp) (Q : VK) (X : XK) (h : sp_number_of K vs H Q X) : t_number_of K X { nx := fun _ H' => Q .non H', rt := Q } (L2.start N_number_of vs) H :=
  pure_of (fun x F D E hr _ hp po => by
    subst hr
    have := walk_number_ok x hp po
    cases x <;> exact this) h
theorem len_number_of (K : PySem.W.Frag) : ∀ vs H Q E, sp_number_of K vs H Q E → vs.length = 2 := fsp_len fun x => by cases x <;> rfl
theorem ev_num2 {t b : Int} (ha : Ev ta G D0 (DI K t) D1) (hb : Ev tb G D1 (DI K b) D2) (h0 : b ≠ 0) (h : b.natAbs < 2 ^ 8000) : Ev (tCall (sp_number_of K) [] X (tCons ta (tCons tb tNil))) G D0 (DQ K (Nu.q t b)) D2 :=
  ev_call0 (args := NA.args K) (.good t b) (evA_cons ha (evA_cons hb evA_nil)) h (out_good h0)
theorem ev_num1 {t : Int} (ha : Ev ta G D0 (DI K t) D1) : Ev (tCall (sp_number_of K) [.int 1] X (tCons ta tNil)) G D0 (DQ K (Nu.q t 1)) D1 :=
  ev_call (args := NA.args K) (Rs := [DI K t]) (Rd := [DI K 1]) (.good t 1) (evA_cons ha evA_nil) (fun F => .cons (.int 1) .nil) rfl (small (by decide)) (out_good (by decide))

/-! ### plus -/
theorem walk_plus {a b : Rat} (ha : Nu.Bd 3000 a) (hb : Nu.Bd 3000 b) (k : GoV E.rt F0 (DQ K (a + b)) D0) : Go (t_plus K X E) F0 [some (DQ K a), some (DQ K b)] D0 := by
  have h := ev_num2 (K := K) (X := X) (G := [some (DQ K a), some (DQ K b)]) (D0 := D0) (ev_add (ev_mul (ev_q0 (ev_var (i := 0) rfl)) (ev_q1 (ev_var (i := 1) rfl)) (cq ha.1 (denOf hb) (by decide) (by decide))) (ev_mul (ev_q0 (ev_var (i := 1) rfl)) (ev_q1 (ev_var (i := 0) rfl)) (cq hb.1 (denOf ha) (by decide) (by decide))))
    (ev_mul (ev_q1 (ev_var (i := 0) rfl)) (ev_q1 (ev_var (i := 1) rfl)) (cq (denOf ha) (denOf hb) (by decide) (by decide))) (dd_ne a b) (dd_small ha hb)
  rw [Nu.plus_is] at h
  exact go_ret h k
theorem pure_plus (T : Txt K mg) (vs : List V) (H : Hp) (Q : VK) (X : XK) (h : sp_plus K vs H Q X) : t_plus K X { nx := fun _ H' => Q .non H', rt := Q } (L2.start N_plus vs) H :=
  pure_of (fun x F D E hr _ hp po => by subst hr; exact walk_plus hp.1 hp.2 po) h
theorem len_plus (K : PySem.W.Frag) : ∀ vs H Q E, sp_plus K vs H Q E → vs.length = 2 := fsp_len fun _ => rfl
theorem ev_plus {a b : Rat} (ha : Ev ta G D0 (DQ K a) D1) (hb : Ev tb G D1 (DQ K b) D2) (pa : Nu.Bd 3000 a) (pb : Nu.Bd 3000 b) : Ev (tCall (sp_plus K) [] X (tCons ta (tCons tb tNil))) G D0 (DQ K (a + b)) D2 :=
  ev_call0 (args := fun x : Rat × Rat => [DQ K x.1, DQ K x.2]) (a, b) (evA_cons ha (evA_cons hb evA_nil)) ⟨pa, pb⟩ rfl

/-! ### minus -/
theorem walk_minus {a b : Rat} (ha : Nu.Bd 3000 a) (hb : Nu.Bd 3000 b) (k : GoV E.rt F0 (DQ K (a - b)) D0) : Go (t_minus K X E) F0 [some (DQ K a), some (DQ K b)] D0 := by
  have h := ev_num2 (K := K) (X := X) (G := [some (DQ K a), some (DQ K b)]) (D0 := D0) (ev_sub (ev_mul (ev_q0 (ev_var (i := 0) rfl)) (ev_q1 (ev_var (i := 1) rfl)) (cq ha.1 (denOf hb) (by decide) (by decide))) (ev_mul (ev_q0 (ev_var (i := 1) rfl)) (ev_q1 (ev_var (i := 0) rfl)) (cq hb.1 (denOf ha) (by decide) (by decide))))
    (ev_mul (ev_q1 (ev_var (i := 0) rfl)) (ev_q1 (ev_var (i := 1) rfl)) (cq (denOf ha) (denOf hb) (by decide) (by decide))) (dd_ne a b) (dd_small ha hb)
  rw [Nu.minus_is] at h
  exact go_ret h k
theorem pure_minus (T : Txt K mg) (vs : List V) (H : Hp) (Q : VK) (X : XK) (h : sp_minus K vs H Q X) : t_minus K X { nx := fun _ H' => Q .non H', rt := Q } (L2.start N_minus vs) H :=
  pure_of (fun x F D E hr _ hp po => by subst hr; exact walk_minus hp.1 hp.2 po) h
theorem len_minus (K : PySem.W.Frag) : ∀ vs H Q E, sp_minus K vs H Q E → vs.length = 2 := fsp_len fun _ => rfl
theorem ev_minus {a b : Rat} (ha : Ev ta G D0 (DQ K a) D1) (hb : Ev tb G D1 (DQ K b) D2) (pa : Nu.Bd 3000 a) (pb : Nu.Bd 3000 b) : Ev (tCall (sp_minus K) [] X (tCons ta (tCons tb tNil))) G D0 (DQ K (a - b)) D2 :=
  ev_call0 (args := fun x : Rat × Rat => [DQ K x.1, DQ K x.2]) (a, b) (evA_cons ha (evA_cons hb evA_nil)) ⟨pa, pb⟩ rfl

/-! ### times -/
theorem walk_times {a b : Rat} (ha : Nu.Bd 3000 a) (hb : Nu.Bd 3000 b) (k : GoV E.rt F0 (DQ K (a * b)) D0) : Go (t_times K X E) F0 [some (DQ K a), some (DQ K b)] D0 := by
  have h := ev_num2 (K := K) (X := X) (G := [some (DQ K a), some (DQ K b)]) (D0 := D0) (ev_mul (ev_q0 (ev_var (i := 0) rfl)) (ev_q0 (ev_var (i := 1) rfl)) (cq ha.1 hb.1 (by decide) (by decide)))
    (ev_mul (ev_q1 (ev_var (i := 0) rfl)) (ev_q1 (ev_var (i := 1) rfl)) (cq (denOf ha) (denOf hb) (by decide) (by decide))) (dd_ne a b) (dd_small ha hb)
  rw [Nu.times_is] at h
  exact go_ret h k
theorem pure_times (T : Txt K mg) (vs : List V) (H : Hp) (Q : VK) (X : XK) (h : sp_times K vs H Q X) : t_times K X { nx := fun _ H' => Q .non H', rt := Q } (L2.start N_times vs) H :=
  pure_of (fun x F D E hr _ hp po => by subst hr; exact walk_times hp.1 hp.2 po) h
theorem len_times (K : PySem.W.Frag) : ∀ vs H Q E, sp_times K vs H Q E → vs.length = 2 := fsp_len fun _ => rfl
theorem ev_times {a b : Rat} (ha : Ev ta G D0 (DQ K a) D1) (hb : Ev tb G D1 (DQ K b) D2) (pa : Nu.Bd 3000 a) (pb : Nu.Bd 3000 b) : Ev (tCall (sp_times K) [] X (tCons ta (tCons tb tNil))) G D0 (DQ K (a * b)) D2 :=
  ev_call0 (args := fun x : Rat × Rat => [DQ K x.1, DQ K x.2]) (a, b) (evA_cons ha (evA_cons hb evA_nil)) ⟨pa, pb⟩ rfl

/-! ### over -/
theorem over_out {a b : Rat} (h : b ≠ 0) : (if (a, b).2 = 0 then Out.err (.ref (He.ga K "NoNumber")) else .ok (DQ K ((a, b).1 / (a, b).2))) = .ok (DQ K (a / b)) := if_neg h
theorem over_out0 {a b : Rat} (h : b = 0) : (if (a, b).2 = 0 then Out.err (.ref (He.ga K "NoNumber")) else .ok (DQ K ((a, b).1 / (a, b).2))) = .err (.ref (He.ga K "NoNumber")) := if_pos h
theorem walk_over {a b : Rat} (ha : Nu.Bd 3000 a) (hb : Nu.Bd 3000 b) (k : Post (if b = 0 then .err (.ref (He.ga K "NoNumber")) else .ok (DQ K (a / b))) E.rt X F0 D0) : Go (t_over K X E) F0 [some (DQ K a), some (DQ K b)] D0 := by
  have e1 := ev_mul (K := K) (G := [some (DQ K a), some (DQ K b)]) (D0 := D0) (ev_q0 (ev_var (i := 0) rfl)) (ev_q1 (ev_var (i := 1) rfl)) (cq ha.1 (denOf hb) (by decide) (by decide))
  have e2 := ev_mul (K := K) (G := [some (DQ K a), some (DQ K b)]) (D0 := D0) (ev_q1 (ev_var (i := 0) rfl)) (ev_q0 (ev_var (i := 1) rfl)) (cq (denOf ha) hb.1 (by decide) (by decide))
  have sm : ((a.den : Int) * b.num).natAbs < 2 ^ 8000 := Nu.lt_pow_mono (Nu.natAbs_mul_lt (Nu.den_abs ha) hb.1) (by decide)
  by_cases h0 : b = 0
  · have k1 : GoX X F0 (.ref (He.ga K "NoNumber")) D0 := k.err (if_pos h0)
    have z : (a.den : Int) * b.num = 0 := by rw [h0]; simp
    rw [z] at e2
    exact go_retX (P := fun _ _ => True) (evX_call (args := NA.args K) (.good (a.num * b.den) 0) (evA_cons e1 (evA_cons e2 evA_nil)) (small (by decide)) out_nought k1)
  · have k1 : GoV E.rt F0 (DQ K (a / b)) D0 := k.ok (if_neg h0)
    have h := ev_num2 (X := X) e1 e2 (Int.mul_ne_zero (Nu.den_ne a) (fun z => h0 (Nu.num_zero.mp z))) sm
    rw [Nu.over_is] at h
    exact go_ret h k1
theorem pure_over (T : Txt K mg) (vs : List V) (H : Hp) (Q : VK) (X : XK) (h : sp_over K vs H Q X) : t_over K X { nx := fun _ H' => Q .non H', rt := Q } (L2.start N_over vs) H :=
  pure_of (fun x F D E hr _ hp po => by subst hr; exact walk_over hp.1 hp.2 po) h
theorem len_over (K : PySem.W.Frag) : ∀ vs H Q E, sp_over K vs H Q E → vs.length = 2 := fsp_len fun _ => rfl
theorem ev_over {a b : Rat} (ha : Ev ta G D0 (DQ K a) D1) (hb : Ev tb G D1 (DQ K b) D2) (pa : Nu.Bd 3000 a) (pb : Nu.Bd 3000 b) (h : b ≠ 0) : Ev (tCall (sp_over K) [] X (tCons ta (tCons tb tNil))) G D0 (DQ K (a / b)) D2 :=
  ev_call0 (args := fun x : Rat × Rat => [DQ K x.1, DQ K x.2]) (a, b) (evA_cons ha (evA_cons hb evA_nil)) ⟨pa, pb⟩ (over_out h)

/-! ### is_less -/
theorem walk_is_less {a b : Rat} (ha : Nu.Bd 3000 a) (hb : Nu.Bd 3000 b) (k : GoV E.rt F0 (DB K (decide (a < b))) D0) : Go (t_is_less K X E) F0 [some (DQ K a), some (DQ K b)] D0 := by
  refine go_ret (ev_d (ev_lt (ev_mul (ev_q0 (ev_var rfl)) (ev_q1 (ev_var rfl)) (cq ha.1 (denOf hb) (by decide) (by decide))) (ev_mul (ev_q0 (ev_var rfl)) (ev_q1 (ev_var rfl)) (cq hb.1 (denOf ha) (by decide) (by decide)))) ?_) k
  exact congrArg PyData.bool (decide_eq_decide.mpr (Nu.less_is a b))
theorem pure_is_less (T : Txt K mg) (vs : List V) (H : Hp) (Q : VK) (X : XK) (h : sp_is_less K vs H Q X) : t_is_less K X { nx := fun _ H' => Q .non H', rt := Q } (L2.start N_is_less vs) H :=
  pure_of (fun x F D E hr _ hp po => by subst hr; exact walk_is_less hp.1 hp.2 po) h
theorem len_is_less (K : PySem.W.Frag) : ∀ vs H Q E, sp_is_less K vs H Q E → vs.length = 2 := fsp_len fun _ => rfl
theorem ev_is_less {a b : Rat} (ha : Ev ta G D0 (DQ K a) D1) (hb : Ev tb G D1 (DQ K b) D2) (pa : Nu.Bd 3000 a) (pb : Nu.Bd 3000 b) : Ev (tCall (sp_is_less K) [] X (tCons ta (tCons tb tNil))) G D0 (DB K (decide (a < b))) D2 :=
  ev_call0 (args := fun x : Rat × Rat => [DQ K x.1, DQ K x.2]) (a, b) (evA_cons ha (evA_cons hb evA_nil)) ⟨pa, pb⟩ rfl

/-! ### _law_well -/
theorem walk_well {ns : List Int} {i : Int} (h0 : 0 ≤ i) (h1 : i ≤ 63) (k : GoN E.rt F0 (OL K (well ns i).d) D0) : Go (t__law_well K X E) F0 [some (D K (.list (ns.map .int))), some (DI K i), none] D0 := by
  refine go_seq (go_set (ev_int (K := K)) ?_)
  have rest : ∀ c : Int, c = (well ns i).v → Go (fun σ H => (tRet (tLst (tCons (tCB cInt1 (tCons (tOp rGeI (tCB cAbs (tCons (tVar 2) tNil)) (tOp rPowI (tC (.int 10)) (tC (.int 18)))) tNil)) (tCons (tVar 2) (tCons (tOp (qMul K) (tC (.int 17)) (tVar 1)) tNil))))) E σ H) F0 [some (D K (.list (ns.map .int))), some (DI K i), some (DI K c)] D0 := by
    intro c hc
    have m : CMulW 17 i := wmul 6 7 (by decide) (by omega)
    have e : [PyData.int (if decide ((10 : Int) ^ (18 : Int).toNat ≤ if c < 0 then -c else c) = true then 1 else 0), .int c, .int (17 * i)] = (well ns i).d := by
      subst hc
      simp only [decide_eq_true_eq]
      rfl
    refine go_retO (O := OL K (well ns i).d) ?_ k
    rw [← e]
    exact evN_lst (evD_cons (ev_intB (ev_ge (ev_abs (ev_var rfl)) (ev_pow ev_int ev_int ⟨by decide, by decide, by decide⟩))) (evD_cons (ev_var rfl) (evD_cons (ev_mul ev_int (ev_var rfl) m) evD_nil))) (by simp)
  refine go_seq (go_if (evT_test (ev_lt (ev_var rfl) (ev_lenL (ev_var rfl)))) (fun c => ?_) (fun c => ?_))
  · have hc : i < ns.length := by simpa using c
    refine go_set (ix_L (ev_var rfl) (ev_var rfl) (pick_at h0 hc)) (rest _ ?_)
    show _ = if i < ns.length then ns.getD i.toNat 0 else 0
    rw [if_pos hc]; rfl
  · have hc : ¬ i < ns.length := by simpa using c
    refine rest 0 ?_
    show _ = if i < ns.length then ns.getD i.toNat 0 else 0
    rw [if_neg hc]
theorem pure__law_well (T : Txt K mg) (vs : List V) (H : Hp) (Q : VK) (X : XK) (h : sp__law_well K vs H Q X) : t__law_well K X { nx := fun _ H' => Q .non H', rt := Q } (L2.start N__law_well vs) H :=
  pure_of (fun x F D E hr _ hp po => by subst hr; exact walk_well hp.1 hp.2 po) h
theorem len__law_well (K : PySem.W.Frag) : ∀ vs H Q E, sp__law_well K vs H Q E → vs.length = 2 := fsp_len fun _ => rfl

/-! ### _law_take -/
theorem walk_take {w : We} {m : Int} {k : Nat} {a : Addr} (hk : D0[k]? = some (a, OL K w.d)) (hw : ∃ n, n ≤ 2 ^ 40 ∧ w.ok n) (hm : 0 < m) (hm2 : m.natAbs < 2 ^ 8000) (po : GoV E.rt F0 (DI K (w.val m)) (D0.set k (a, OL K (w.nx m).d))) :
    Go (t__law_take K X E) F0 [some (Is (.ref a)), some (DI K m), none, none, none] D0 := by
  have m0 : m ≠ 0 := by omega
  refine go_seq (go_if (evT_test (eq_I (ix_O (ev_var rfl) ev_int hk rfl) ev_int)) (fun c => ?_) (fun c => ?_))
  · have hf : w.f = 1 := by simpa using c
    refine go_seq (go_set (ev_mod (ix_O (ev_var rfl) ev_int hk rfl) (ev_var rfl) m0) ?_)
    refine go_seq (go_setO (ev_div (ix_O (ev_var rfl) ev_int hk rfl) (ev_var rfl) (cdiv m0 hm2)) (ev_var rfl) ev_int hk rfl ?_)
    have e1 : w.val m = w.v.fmod m := if_pos hf
    have e2 : (w.nx m).d = w.d.set 1 (.int (w.v.fdiv m)) := by
      unfold We.nx
      rw [if_pos hf]
      rfl
    rw [e1, e2] at po
    exact go_ret (ev_var rfl) po
  · have hf : ¬ w.f = 1 := by simpa using c
    obtain ⟨n, hn, hw⟩ := hw
    obtain ⟨h1, h2, h3, h4⟩ := hw.resolve_left hf
    have t1 : (w.t + 1).natAbs < 2 ^ 41 := by
      have : ((2 : Nat) ^ 41) = 2 * 2 ^ 40 := by decide
      omega
    have m1 : CMulW 7919 (w.t + 1) := wmul 13 41 (by decide) t1
    have b2 : (7919 * (w.t + 1)).natAbs < 2 ^ 54 := Nu.natAbs_mul_lt (n := 13) (m := 41) (by decide) t1
    have m2 : CMulW (7919 * (w.t + 1)) (w.t + 1) := wmul 54 41 b2 t1
    have b3 : (7919 * (w.t + 1) * (w.t + 1)).natAbs < 2 ^ 95 := Nu.natAbs_mul_lt (n := 54) (m := 41) b2 t1
    have b4 : (w.v + 7919 * (w.t + 1) * (w.t + 1)).natAbs < 2 ^ 96 := Nu.natAbs_add_lt (Nu.lt_pow_mono h2 (by decide)) b3
    have b5 : (w.v + 7919 * (w.t + 1) * (w.t + 1) + (w.t + 1)).natAbs < 2 ^ 97 := Nu.natAbs_add_lt b4 (Nu.lt_pow_mono t1 (by decide))
    have m3 : CMulW (w.v + 7919 * (w.t + 1) * (w.t + 1) + (w.t + 1)) 48271 := wmul 97 16 b5 (by decide)
    have b6 : (((w.v + 7919 * (w.t + 1) * (w.t + 1) + (w.t + 1)) * 48271).fmod 2305843009213693951).natAbs < 2 ^ 61 := by
      have := mod_ok (a := (w.v + 7919 * (w.t + 1) * (w.t + 1) + (w.t + 1)) * 48271) (m := 2305843009213693951) (by decide)
      have e : ((2 : Nat) ^ 61) = 2305843009213693952 := by decide
      omega
    have m4 : CMulW (((w.v + 7919 * (w.t + 1) * (w.t + 1) + (w.t + 1)) * 48271).fmod 2305843009213693951) 1442695040888963407 := wmul 61 61 b6 (by decide)
    refine go_next (go_seq (go_set (ev_add (ix_O (ev_var rfl) ev_int hk rfl) ev_int) ?_))
    refine go_seq (go_setO (ev_var rfl) (ev_var rfl) ev_int hk rfl ?_)
    have hk2 : (D0.set k (a, OL K (w.d.set 2 (.int (w.t + 1)))))[k]? = some (a, OL K (w.d.set 2 (.int (w.t + 1)))) := set_at hk
    refine go_seq (go_set (ev_mod (ev_mul (ev_add (ev_add (ix_O (ev_var rfl) ev_int hk2 rfl) (ev_mul (ev_mul ev_int (ev_var rfl) m1) (ev_var rfl) m2)) (ev_var rfl)) ev_int m3) ev_int (by decide)) ?_)
    have e1 : w.val m = (mix w.v (w.t + 1)).fmod m := if_neg hf
    have e2 : (w.nx m).d = w.d.set 2 (.int (w.t + 1)) := by
      unfold We.nx
      rw [if_neg hf]
      rfl
    rw [e1, e2] at po
    exact go_ret (ev_mod (ev_div (ev_mod (ev_add (ev_mul (ev_var rfl) ev_int m4) ev_int) ev_int (by decide)) ev_int (cdiv (by decide) (by decide))) (ev_var rfl) m0) po
theorem pure__law_take (T : Txt K mg) (vs : List V) (H : Hp) (Q : VK) (X : XK) (h : sp__law_take K vs H Q X) : t__law_take K X { nx := fun _ H' => Q .non H', rt := Q } (L2.start N__law_take vs) H :=
  pure_ofM (fun x F D k a E hk hr _ hp po => by subst hr; exact walk_take hk hp.1 hp.2.1 hp.2.2 po) h
theorem len__law_take (K : PySem.W.Frag) : ∀ vs H Q E, sp__law_take K vs H Q E → vs.length = 2 := fspM_len fun _ => rfl
/-- a draw of the well at k -/
theorem ev_take {w : We} {m : Int} {k : Nat} {a : Addr} {D : Own} (n : Nat) (hk : k < D.length) (ha : Ev ta G D0 (Is (.ref a)) D1) (hb : Ev tb G D1 (DI K m) (D.set k (a, OL K w.d))) (hw : w.ok n) (hn : n ≤ 2 ^ 40) (hm : 0 < m) (hm2 : m.natAbs < 2 ^ 8000) :
    Ev (tCall (sp__law_take K) [] X (tCons ta (tCons tb tNil))) G D0 (DI K (w.val m)) (D.set k (a, OL K (w.nx m).d)) := by
  have h := ev_callM (X := X) (O := fun x : We × Int => OL K x.1.d) (O1 := fun x => OL K (x.1.nx x.2).d) (args := fun x => [DI K x.2]) (pre := fun x => (∃ n, n ≤ 2 ^ 40 ∧ x.1.ok n) ∧ 0 < x.2 ∧ x.2.natAbs < 2 ^ 8000) (out := fun x => .ok (DI K (x.1.val x.2))) (k := k) (a := a) (w, m)
    (evA_cons ha (evA_cons hb evA_nil)) (set_lt hk) ⟨⟨n, hn, hw⟩, hm, hm2⟩ rfl
  rw [List.set_set] at h
  exact h

/-! ### _law_common -/
theorem pure__law_common (T : Txt K mg) (vs : List V) (H : Hp) (Q : VK) (X : XK) (h : sp__law_common K vs H Q X) : t__law_common K X { nx := fun _ H' => Q .non H', rt := Q } (L2.start N__law_common vs) H := pure_common T vs H Q X h
theorem len__law_common (K : PySem.W.Frag) : ∀ vs H Q E, sp__law_common K vs H Q E → vs.length = 2 := fsp_len fun _ => rfl
theorem ev_lcommon {a b : Int} (ha : Ev ta G D0 (DI K a) D1) (hb : Ev tb G D1 (DI K b) D2) : Ev (tCall (sp__law_common K) [] X (tCons ta (tCons tb tNil))) G D0 (DI K (Int.gcd a b)) D2 := ev_common ha hb

/-! ### _law_num -/
theorem walk_num {t b : Int} (h0 : b ≠ 0) (hb : b.natAbs < 2 ^ 8000) (k : GoV E.rt F0 (DQ K (Nu.q t b)) D0) : Go (t__law_num K X E) F0 [some (DI K t), some (DI K b), none] D0 := by
  have rest : ∀ t' b' : Int, 0 < b' → b'.natAbs < 2 ^ 8000 → Nu.q t' b' = Nu.q t b → Go (fun σ H => (tSeq (tAsg (tCall (sp__law_common K) [] X (tCons (tVar 0) (tCons (tVar 1) tNil))) (gName 2))
  (tRet (tTup (tCons (tOp rDivI (tVar 0) (tVar 2)) (tCons (tOp rDivI (tVar 1) (tVar 2)) tNil))))) E σ H) F0 [some (DI K t'), some (DI K b'), none] D0 := by
    intro t' b' p hb' e
    have d := div_ok (t := t') (b := b') (by omega) hb'
    rw [Nu.by_pos p] at d
    have d2 : CDivA b' (Int.gcd t' b' : Int) := d
    refine go_seq (go_set (ev_lcommon (ev_var rfl) (ev_var rfl)) ?_)
    refine go_ret (ev_d (ev_tup (evD_cons (ev_div (ev_var rfl) (ev_var rfl) d) (evD_cons (ev_div (ev_var rfl) (ev_var rfl) d2) evD_nil)) (by simp)) ?_) k
    have h1 := Nu.top_is (t := t') (b := b') (by omega)
    have h2 := Nu.bot_is (t := t') (b := b') (by omega)
    rw [Nu.by_pos p] at h1 h2
    rw [h1, h2, e]
  refine go_seq (go_if (evT_test (ev_lt (ev_var rfl) ev_int)) (fun c => ?_) (fun c => ?_))
  · have hc : b < 0 := by simpa using c
    refine go_seq (go_set (ev_sub ev_int (ev_var rfl)) (go_set (ev_sub ev_int (ev_var rfl)) ?_))
    exact rest (0 - t) (0 - b) (by omega) (by omega) Nu.q_neg
  · have hc : ¬ b < 0 := by simpa using c
    exact rest t b (by omega) hb rfl
theorem pure__law_num (T : Txt K mg) (vs : List V) (H : Hp) (Q : VK) (X : XK) (h : sp__law_num K vs H Q X) : t__law_num K X { nx := fun _ H' => Q .non H', rt := Q } (L2.start N__law_num vs) H :=
  pure_of (fun x F D E hr _ hp po => by subst hr; exact walk_num hp.1 hp.2 po) h
theorem len__law_num (K : PySem.W.Frag) : ∀ vs H Q E, sp__law_num K vs H Q E → vs.length = 2 := fsp_len fun _ => rfl
theorem ev_lnum {t b : Int} (ha : Ev ta G D0 (DI K t) D1) (hb : Ev tb G D1 (DI K b) D2) (h0 : b ≠ 0) (h : b.natAbs < 2 ^ 8000) : Ev (tCall (sp__law_num K) [] X (tCons ta (tCons tb tNil))) G D0 (DQ K (Nu.q t b)) D2 :=
  ev_call0 (args := fun x : Int × Int => [DI K x.1, DI K x.2]) (t, b) (evA_cons ha (evA_cons hb evA_nil)) ⟨h0, h⟩ rfl

/-! ### _law_number -/
theorem q1_pair {t : Int} : (Nu.q t 1).num = t ∧ (((Nu.q t 1).den : Nat) : Int) = 1 := ⟨(Nu.q_one t).1, by rw [(Nu.q_one t).2]; rfl⟩
theorem numW_ok {w : We} {n : Nat} (h : w.ok n) : (numW w).ok (n + 3) := by
  unfold numW
  have up : ∀ {u : We}, u.ok (n + 2) → u.ok (n + 3) := fun h => by
    rcases h with h | ⟨h1, h2, h3, h4⟩
    · exact .inl h
    · exact .inr ⟨h1, h2, h3, by omega⟩
  split
  · exact We.nx_ok (We.nx_ok (We.nx_ok h))
  · split
    · exact We.nx_ok (We.nx_ok (We.nx_ok h))
    · exact up (We.nx_ok (We.nx_ok h))
theorem numR_bd (w : We) : Nu.Bd 60 (numR w) := by
  unfold numR
  have a1 := We.val_ok (w := w.nx 8) (m := 2 * 10 ^ 17 + 1) (by decide)
  have a2 := We.val_ok (w := (w.nx 8).nx (2 * 10 ^ 17 + 1)) (m := 10 ^ 17) (by decide)
  have a3 := We.val_ok (w := w.nx 8) (m := 201) (by decide)
  have a4 := We.val_ok (w := (w.nx 8).nx 201) (m := 6) (by decide)
  have a5 := We.val_ok (w := w.nx 8) (m := 9) (by decide)
  have e1 : (10 : Int) ^ 17 = 100000000000000000 := by decide
  have e2 : (2 : Nat) ^ 60 = 1152921504606846976 := by decide
  split
  · refine Nu.q_bd ?_ ?_ ?_ <;> omega
  · split
    · refine Nu.q_bd ?_ ?_ ?_ <;> omega
    · refine Nu.q_bd ?_ ?_ ?_ <;> omega
theorem walk_number {w : We} {n k : Nat} {a : Addr} (hk : D0[k]? = some (a, OL K w.d)) (hn : n ≤ 2 ^ 39) (hw : w.ok n) (po : GoV E.rt F0 (DQ K (numR w)) (D0.set k (a, OL K (numW w).d))) : Go (t__law_number K X E) F0 [some (Is (.ref a)), none] D0 := by
  have lt : k < D0.length := (List.getElem?_eq_some_iff.mp hk).1
  have e0 : D0 = D0.set k (a, OL K w.d) := (set_id hk).symm
  have l39 : (2 : Nat) ^ 40 = 2 * 2 ^ 39 := by decide
  have hw1 : (w.nx 8).ok (n + 1) := We.nx_ok hw
  have c1 : CMulW 2 ((10 : Int) ^ (17 : Int).toNat) := wmul 2 60 (by decide) (by decide)
  have m1 : (0 : Int) < 2 * 10 ^ (17 : Int).toNat + 1 := by decide
  rw [e0]
  refine go_seq (go_set (ev_take (D := D0) n lt (ev_var rfl) ev_int hw (by omega) (by decide) (small (by decide))) ?_)
  refine go_seq (go_if (evT_test (eq_I (ev_var rfl) ev_int)) (fun z => ?_) (fun z => go_next ?_))
  · have hz : w.val 8 = 7 := by simpa using z
    have f1 : numR w = Nu.q ((w.nx 8).val (2 * 10 ^ 17 + 1) - 10 ^ 17) (1 + ((w.nx 8).nx (2 * 10 ^ 17 + 1)).val (10 ^ 17)) := if_pos hz
    have f2 : numW w = ((w.nx 8).nx (2 * 10 ^ 17 + 1)).nx (10 ^ 17) := if_pos hz
    have a2 := We.val_ok (w := (w.nx 8).nx (2 * 10 ^ 17 + 1)) (m := 10 ^ 17) (by decide)
    rw [f1, f2] at po
    refine go_ret (ev_lnum (ev_sub (ev_take (D := D0) (n + 1) lt (ev_var rfl) (ev_add (ev_mul ev_int (ev_pow ev_int ev_int ⟨by decide, by decide, by decide⟩) c1) ev_int) hw1 (by omega) m1 (small (by decide))) (ev_pow ev_int ev_int ⟨by decide, by decide, by decide⟩))
      (ev_add ev_int (ev_take (D := D0) (n + 2) lt (ev_var rfl) (ev_pow ev_int ev_int ⟨by decide, by decide, by decide⟩) (We.nx_ok hw1) (by omega) (by decide) (small (by decide)))) ?_ (small ?_)) po
    · show 1 + ((w.nx 8).nx (2 * 10 ^ 17 + 1)).val (10 ^ 17) ≠ 0
      omega
    · show (1 + ((w.nx 8).nx (2 * 10 ^ 17 + 1)).val (10 ^ 17)).natAbs < 2 ^ 62
      have e1 : (10 : Int) ^ 17 = 100000000000000000 := by decide
      have e2 : (2 : Nat) ^ 62 = 4611686018427387904 := by decide
      omega
  · have hz : ¬ w.val 8 = 7 := by simpa using z
    refine go_seq (go_if (evT_test (ev_gt (ev_var rfl) ev_int)) (fun y => ?_) (fun y => go_next ?_))
    · have hy : w.val 8 > 4 := by simpa using y
      have f1 : numR w = Nu.q ((w.nx 8).val 201 - 100) (1 + ((w.nx 8).nx 201).val 6) := (if_neg hz).trans (if_pos hy)
      have f2 : numW w = ((w.nx 8).nx 201).nx 6 := (if_neg hz).trans (if_pos hy)
      have a2 := We.val_ok (w := (w.nx 8).nx 201) (m := 6) (by decide)
      rw [f1, f2] at po
      have sm : (1 + ((w.nx 8).nx 201).val 6).natAbs < 2 ^ 8000 := small (by
        have e2 : (2 : Nat) ^ 62 = 4611686018427387904 := by decide
        omega)
      exact go_ret (ev_lnum (ev_sub (ev_take (D := D0) (n + 1) lt (ev_var rfl) ev_int hw1 (by omega) (by decide) (small (by decide))) ev_int)
        (ev_add ev_int (ev_take (D := D0) (n + 2) lt (ev_var rfl) ev_int (We.nx_ok hw1) (by omega) (by decide) (small (by decide)))) (by omega) sm) po
    · have hy : ¬ w.val 8 > 4 := by simpa using y
      have f1 : numR w = Nu.q ((w.nx 8).val 9 - 4) 1 := (if_neg hz).trans (if_neg hy)
      have f2 : numW w = (w.nx 8).nx 9 := (if_neg hz).trans (if_neg hy)
      rw [f1, f2] at po
      exact go_ret (ev_pair _ (ev_sub (ev_take (D := D0) (n + 1) lt (ev_var rfl) ev_int hw1 (by omega) (by decide) (small (by decide))) ev_int) ev_int q1_pair.1 q1_pair.2) po
theorem pure__law_number (T : Txt K mg) (vs : List V) (H : Hp) (Q : VK) (X : XK) (h : sp__law_number K vs H Q X) : t__law_number K X { nx := fun _ H' => Q .non H', rt := Q } (L2.start N__law_number vs) H :=
  pure_ofM (fun x F D k a E hk hr _ hp po => by subst hr; exact let ⟨n, hn, hw⟩ := hp; walk_number hk hn hw po) h
theorem len__law_number (K : PySem.W.Frag) : ∀ vs H Q E, sp__law_number K vs H Q E → vs.length = 1 := fspM_len fun _ => rfl
theorem ev_number {w : We} {k : Nat} {a : Addr} {D : Own} (n : Nat) (hk : k < D.length) (ha : Ev ta G D0 (Is (.ref a)) (D.set k (a, OL K w.d))) (hw : w.ok n) (hn : n ≤ 2 ^ 39) :
    Ev (tCall (sp__law_number K) [] X (tCons ta tNil)) G D0 (DQ K (numR w)) (D.set k (a, OL K (numW w).d)) := by
  have h := ev_callM (X := X) (O := fun w : We => OL K w.d) (O1 := fun w => OL K (numW w).d) (args := fun _ => []) (pre := fun w => ∃ n, n ≤ 2 ^ 39 ∧ w.ok n) (out := fun w => .ok (DQ K (numR w))) (k := k) (a := a) w
    (evA_cons ha evA_nil) (set_lt hk) ⟨n, hn, hw⟩ rfl
  rw [List.set_set] at h
  exact h
end
end K03

set_option Elab.async false
set_option linter.all false
set_option maxRecDepth 100000
set_option maxHeartbeats 4000000
open PySem PySem.Spec L2 TL
/-! ## small steps of the walk, by their names -/
local macro_rules | `(tactic| walk_at "side") => `(tactic| first | assumption | rfl | decide | omega)
local macro_rules | `(tactic| walk_at "evL") => `(tactic| fail)
local macro_rules | `(tactic| walk_at "ev") => `(tactic| first
  | exact ev_int | exact ev_bl | exact ev_str | exact ev_non | exact ev_var rfl
  | walk_at "evL"
  | (refine ev_add ?_ ?_; walk_at "ev"; walk_at "ev")
  | (refine ev_sub ?_ ?_; walk_at "ev"; walk_at "ev")
  | (refine ev_mul ?_ ?_ ?_; walk_at "ev"; walk_at "ev"; walk_at "side")
  | (refine ev_mod ?_ ?_ ?_; walk_at "ev"; walk_at "ev"; walk_at "side")
  | (refine ev_div ?_ ?_ ?_; walk_at "ev"; walk_at "ev"; walk_at "side")
  | (refine ev_pow ?_ ?_ ?_; walk_at "ev"; walk_at "ev"; walk_at "side")
  | (refine ev_neg ?_; walk_at "ev")
  | (refine ev_lt ?_ ?_; walk_at "ev"; walk_at "ev")
  | (refine ev_le ?_ ?_; walk_at "ev"; walk_at "ev")
  | (refine ev_gt ?_ ?_; walk_at "ev"; walk_at "ev")
  | (refine ev_ge ?_ ?_; walk_at "ev"; walk_at "ev")
  | (refine eq_I ?_ ?_; walk_at "ev"; walk_at "ev")
  | (refine ne_I ?_ ?_; walk_at "ev"; walk_at "ev")
  | (refine eq_S ?_ ?_; walk_at "ev"; walk_at "ev")
  | (refine ne_S ?_ ?_; walk_at "ev"; walk_at "ev")
  | (refine eq_B ?_ ?_; walk_at "ev"; walk_at "ev")
  | (refine ix_T ?_ ?_ ?_; walk_at "ev"; walk_at "ev"; walk_at "side")
  | (refine ix_L ?_ ?_ ?_; walk_at "ev"; walk_at "ev"; walk_at "side")
  | (refine ev_tup ?_ ?_; walk_at "evD"; walk_at "side")
  | (refine ev_lst ?_ ?_; walk_at "evD"; walk_at "side")
  | (refine ev_abs ?_; walk_at "ev")
  | (refine ev_max2 ?_ ?_; walk_at "ev"; walk_at "ev")
  | (refine ev_min2 ?_ ?_; walk_at "ev"; walk_at "ev")
  | (refine ev_intB ?_; walk_at "ev")
  | (refine ev_lenT ?_; walk_at "ev")
  | (refine ev_lenL ?_; walk_at "ev")
  | (refine ev_notV ?_; walk_at "ev"))
local macro_rules | `(tactic| walk_at "evD") => `(tactic| first
  | exact evD_nil
  | (refine evD_cons ?_ ?_; walk_at "ev"; walk_at "evD"))
local macro_rules | `(tactic| walk_at "evA") => `(tactic| first
  | exact evA_nil
  | (refine evA_cons ?_ ?_; walk_at "ev"; walk_at "evA"))
local macro_rules | `(tactic| walk_at "evT") => `(tactic| first
  | (refine evT_test ?_; walk_at "ev")
  | (refine evT_B ?_; walk_at "ev")
  | (refine evT_not ?_; walk_at "evT"))
local macro_rules | `(tactic| walk_at "sle") => `(tactic| repeat' first | exact SLe.nil | refine SLe.keep ?_ | refine SLe.drop ?_)
namespace K03
section
variable {K : PySem.W.Frag} {mg : Str → Option Value} {G : Sto} {D0 D1 D2 : Own} {te ta tb : TE} {F0 : Hp} {E : Ends} {X : XK} {n : String}
/-- a number and its size -/
def EvB (K : PySem.W.Frag) (te : TE) (G : Sto) (D0 : Own) (n : Nat) (r : Rat) (D1 : Own) : Prop := Ev te G D0 (DQ K r) D1 ∧ Nu.Bd n r
theorem EvB.mk {n : Nat} {r : Rat} (h : Ev te G D0 (DQ K r) D1) (b : Nu.Bd n r) : EvB K te G D0 n r D1 := ⟨h, b⟩
theorem eb_nought : EvB K (tTup (tCons (tC (.int 0)) (tCons (tC (.int 1)) tNil))) G D0 1 0 D0 := ⟨ev_pair 0 ev_int ev_int rfl rfl, bd_0⟩
theorem ne_q {a b : Rat} (ha : Ev ta G D0 (DQ K a) D1) (hb : Ev tb G D1 (DQ K b) D2) (h : a = b) : EvT (tTest (tOp (qNe K) ta tb)) G D0 false D2 := evT_b (evT_test (ne_Q ha hb)) (by rw [decide_eq_true h]; rfl)
theorem eq_q {a b : Rat} (ha : Ev ta G D0 (DQ K a) D1) (hb : Ev tb G D1 (DQ K b) D2) (h : a = b) : Ev (tOp (qEq K) ta tb) G D0 (DB K true) D2 := ev_d (eq_Q ha hb) (by rw [decide_eq_true h])
theorem or_ff {tt tu : TT} (h1 : EvT tt G D0 false D1) (h2 : EvT tu G D1 false D1) : EvT (tOr tt tu) G D0 false D1 := evT_or (a := false) (b := false) h1 fun _ => h2
theorem go_not {tt : TT} {t u : TS} (h : EvT tt G D0 false D1) (k : Go E.nx F0 G D1) : Go (tIfS tt t tNext E) F0 G D0 := go_if (b := false) h (fun z => nomatch z) fun _ => go_next k
theorem ev_d2 {ds es : List PyData} (h : Ev te G D0 (DLs K ds) D1) (q : ds = es) : Ev te G D0 (DLs K es) D1 := q ▸ h
theorem cut_1 {a b c : PyData} : cutD [a, b, c] (some 1) none = [b, c] := rfl
theorem cut_2 {a b c : PyData} : cutD [a, b, c] none (some 1) = [a] := rfl
theorem cut_len {a b c : PyData} : (cutD [a, b, c] (some 1) none).length + (cutD [a, b, c] none (some 1)).length ≤ 100000 := by rw [cut_1, cut_2]; exact (show 3 ≤ 100000 by decide)
theorem cut_is {a b c : PyData} : cutD [a, b, c] (some 1) none ++ cutD [a, b, c] none (some 1) = [b, c, a] := by rw [cut_1, cut_2]; rfl
theorem m1 (a b : Rat) : a + b = b + a := by grind
theorem m2 (a b : Rat) : a * b = b * a := by grind
theorem m3 (a b c : Rat) : a + b + c = a + (b + c) := by grind
theorem m4 (a b c : Rat) : a * b * c = a * (b * c) := by grind
theorem m5 (a b c : Rat) : a * (b + c) = a * b + a * c := by grind
theorem m6 (a b : Rat) : a + b - b = a := by grind
theorem m7 (a b : Rat) : a - b + b = a := by grind
theorem m8 (a b : Rat) (h : b ≠ 0) : a * b / b = a := by grind
theorem m9 (a b : Rat) (h : b ≠ 0) : a / b * b = a := by grind
theorem m10 (a : Rat) : a - a = 0 := by grind
/-! ### _law_adds -/
theorem eb_plus {a b : Rat} {n m : Nat} (ha : EvB K ta G D0 n a D1) (hb : EvB K tb G D1 m b D2) (hn : n ≤ 3000 := by decide) (hm : m ≤ 3000 := by decide) : EvB K (tCall (sp_plus K) [] X (tCons ta (tCons tb tNil))) G D0 (n + m + 1) (a + b) D2 :=
  ⟨ev_plus ha.1 hb.1 (ha.2.mono hn) (hb.2.mono hm), Nu.plus_bd ha.2 hb.2⟩
theorem eb_minus {a b : Rat} {n m : Nat} (ha : EvB K ta G D0 n a D1) (hb : EvB K tb G D1 m b D2) (hn : n ≤ 3000 := by decide) (hm : m ≤ 3000 := by decide) : EvB K (tCall (sp_minus K) [] X (tCons ta (tCons tb tNil))) G D0 (n + m + 1) (a - b) D2 :=
  ⟨ev_minus ha.1 hb.1 (ha.2.mono hn) (hb.2.mono hm), Nu.minus_bd ha.2 hb.2⟩
theorem eb_times {a b : Rat} {n m : Nat} (ha : EvB K ta G D0 n a D1) (hb : EvB K tb G D1 m b D2) (hn : n ≤ 3000 := by decide) (hm : m ≤ 3000 := by decide) : EvB K (tCall (sp_times K) [] X (tCons ta (tCons tb tNil))) G D0 (n + m) (a * b) D2 :=
  ⟨ev_times ha.1 hb.1 (ha.2.mono hn) (hb.2.mono hm), Nu.times_bd ha.2 hb.2⟩
theorem eb_over {a b : Rat} {n m : Nat} (ha : EvB K ta G D0 n a D1) (hb : EvB K tb G D1 m b D2) (h : b ≠ 0) (hn : n ≤ 3000 := by decide) (hm : m ≤ 3000 := by decide) : EvB K (tCall (sp_over K) [] X (tCons ta (tCons tb tNil))) G D0 (n + m) (a / b) D2 :=
  ⟨ev_over ha.1 hb.1 (ha.2.mono hn) (hb.2.mono hm) h, Nu.over_bd ha.2 hb.2 h⟩
theorem eb_less {a b : Rat} {n m : Nat} (ha : EvB K ta G D0 n a D1) (hb : EvB K tb G D1 m b D2) (hn : n ≤ 3000 := by decide) (hm : m ≤ 3000 := by decide) : Ev (tCall (sp_is_less K) [] X (tCons ta (tCons tb tNil))) G D0 (DB K (decide (a < b))) D2 :=
  ev_is_less ha.1 hb.1 (ha.2.mono hn) (hb.2.mono hm)
theorem walk_adds {a b c : Rat} (ha : Nu.Bd 60 a) (hb : Nu.Bd 60 b) (hc : Nu.Bd 60 c) (k : GoV E.rt F0 (DB K true) D0) : Go (t__law_adds K X E) F0 [some (DQ K a), some (DQ K b), some (DQ K c)] D0 := by
  have va : EvB K (tVar 0) [some (DQ K a), some (DQ K b), some (DQ K c)] D0 60 a D0 := ⟨ev_var rfl, ha⟩
  have vb : EvB K (tVar 1) [some (DQ K a), some (DQ K b), some (DQ K c)] D0 60 b D0 := ⟨ev_var rfl, hb⟩
  have vc : EvB K (tVar 2) [some (DQ K a), some (DQ K b), some (DQ K c)] D0 60 c D0 := ⟨ev_var rfl, hc⟩
  try dsimp only
  refine go_seq (go_if (b := false) (or_ff (ne_q (eb_plus va vb).1 (eb_plus vb va).1 (m1 a b)) (ne_q (eb_times va vb).1 (eb_times vb va).1 (m2 a b))) (fun z => nomatch z) fun _ => go_next ?_)
  try dsimp only
  refine go_seq (go_if (b := false) (ne_q (eb_plus (eb_plus va vb) vc).1 (eb_plus va (eb_plus vb vc)).1 (m3 a b c)) (fun z => nomatch z) fun _ => go_next ?_)
  try dsimp only
  refine go_seq (go_if (b := false) (ne_q (eb_times (eb_times va vb) vc).1 (eb_times va (eb_times vb vc)).1 (m4 a b c)) (fun z => nomatch z) fun _ => go_next ?_)
  try dsimp only
  refine go_seq (go_if (b := false) (ne_q (eb_times va (eb_plus vb vc)).1 (eb_plus (eb_times va vb) (eb_times va vc)).1 (m5 a b c)) (fun z => nomatch z) fun _ => go_next ?_)
  try dsimp only
  refine go_seq (go_if (b := false) (or_ff (ne_q (eb_minus (eb_plus va vb) vb).1 va.1 (m6 a b)) (ne_q (eb_plus (eb_minus va vb) vb).1 va.1 (m7 a b))) (fun z => nomatch z) fun _ => go_next ?_)
  try dsimp only
  refine go_ret (ev_d (ev_orV (b := true) (eq_Q vb.1 eb_nought.1) fun h => ?_) (by simp)) k
  have h0 : b ≠ 0 := of_decide_eq_false h
  exact ev_andV (a := true) (b := true) (eq_q (eb_over (eb_times va vb) vb h0).1 va.1 (m8 a b h0)) fun _ => eq_q (eb_times (eb_over va vb h0) vb).1 va.1 (m9 a b h0)

theorem pure__law_adds (T : Txt K mg) (vs : List V) (H : Hp) (Q : VK) (X : XK) (h : sp__law_adds K vs H Q X) : t__law_adds K X { nx := fun _ H' => Q .non H', rt := Q } (L2.start N__law_adds vs) H :=
  pure_of (fun x F D E hr _ hp po => by subst hr; exact walk_adds hp.1 hp.2.1 hp.2.2 po) h
theorem len__law_adds (K : PySem.W.Frag) : ∀ vs H Q E, sp__law_adds K vs H Q E → vs.length = 3 := fsp_len fun _ => rfl

/-! ### _law_orders -/
theorem one_of (a b : Rat) : ([PyData.bool (decide (a < b)), .bool (decide (b < a)), .bool (decide (a = b))].countP fun z => PyData.eqv z (.bool true)) = 1 := by
  have e : ∀ x : Bool, PyData.eqv (.bool x) (.bool true) = x := by decide
  simp only [List.countP_cons, List.countP_nil, e]
  by_cases h1 : a < b
  · have h2 : ¬ b < a := by grind
    have h3 : ¬ a = b := by grind
    simp [h1, h2, h3]
  · by_cases h2 : b < a
    · have h3 : ¬ a = b := by grind
      simp [h1, h2, h3]
    · have h3 : a = b := by grind
      subst h3
      simp [h1]
theorem ne_b {a b : Bool} (ha : Ev ta G D0 (DB K a) D1) (hb : Ev tb G D1 (DB K b) D2) (h : a = b) : EvT (tTest (tOp (qNe K) ta tb)) G D0 false D2 := evT_b (evT_test (ne_B ha hb)) (by subst h; simp)
theorem less_add (a b c : Rat) : decide (a + c < b + c) = decide (a < b) := decide_eq_decide.mpr ⟨fun h => by grind, fun h => by grind⟩
theorem less_mul (a b : Rat) {c : Rat} (h : 0 < c) : decide (a * c < b * c) = decide (a < b) := decide_eq_decide.mpr (Rat.mul_lt_mul_right h)
theorem less_neg (a b : Rat) {c : Rat} (h : c < 0) : decide (a * c < b * c) = decide (b < a) := by
  refine decide_eq_decide.mpr ?_
  have := Rat.mul_lt_mul_right (a := b) (b := a) (c := -c) (by grind)
  rw [← this]
  constructor <;> intro h <;> grind
theorem and_ff {tt tu : TT} {a : Bool} (h1 : EvT tt G D0 a D1) (h2 : a = true → EvT tu G D1 false D1) : EvT (tAnd tt tu) G D0 false D1 := evT_b (evT_and (b := false) h1 h2) (by simp)
theorem walk_orders {a b c : Rat} (ha : Nu.Bd 60 a) (hb : Nu.Bd 60 b) (hc : Nu.Bd 60 c) (k : GoV E.rt F0 (DB K true) D0) : Go (t__law_orders K X E) F0 [some (DQ K a), some (DQ K b), some (DQ K c), none, none] D0 := by
  have va : EvB K (tVar 0) [some (DQ K a), some (DQ K b), some (DQ K c), none, none] D0 60 a D0 := ⟨ev_var rfl, ha⟩
  have vb : EvB K (tVar 1) [some (DQ K a), some (DQ K b), some (DQ K c), none, none] D0 60 b D0 := ⟨ev_var rfl, hb⟩
  have vc : EvB K (tVar 2) [some (DQ K a), some (DQ K b), some (DQ K c), none, none] D0 60 c D0 := ⟨ev_var rfl, hc⟩
  try dsimp only
  refine go_seq (go_if (b := false) (evT_b (evT_test (ne_I (ev_count (ev_lst (ds := [.bool (decide (a < b)), .bool (decide (b < a)), .bool (decide (a = b))]) (evD_cons (eb_less va vb) (evD_cons (eb_less vb va) (evD_cons (eq_Q va.1 vb.1) evD_nil))) (by simp)) ev_bl rfl rfl) ev_int)) (by rw [one_of]; rfl)) (fun z => nomatch z) fun _ => go_next ?_)
  try dsimp only
  refine go_seq (go_if (b := false) (ne_b (eb_less (eb_plus va vc) (eb_plus vb vc)) (eb_less va vb) (less_add a b c)) (fun z => nomatch z) fun _ => go_next ?_)
  try dsimp only
  refine go_seq (go_set (eb_times va vc).1 ?_)
  dsimp only
  have bl := Nu.times_bd ha hc
  have br := Nu.times_bd hb hc
  try dsimp only
  refine go_seq (go_set (ev_times (ev_var rfl) (ev_var rfl) (hb.mono (by decide)) (hc.mono (by decide))) ?_)
  dsimp only
  have va : EvB K (tVar 0) [some (DQ K a), some (DQ K b), some (DQ K c), some (DQ K (a * c)), some (DQ K (b * c))] D0 60 a D0 := ⟨ev_var rfl, ha⟩
  have vb : EvB K (tVar 1) [some (DQ K a), some (DQ K b), some (DQ K c), some (DQ K (a * c)), some (DQ K (b * c))] D0 60 b D0 := ⟨ev_var rfl, hb⟩
  have vc : EvB K (tVar 2) [some (DQ K a), some (DQ K b), some (DQ K c), some (DQ K (a * c)), some (DQ K (b * c))] D0 60 c D0 := ⟨ev_var rfl, hc⟩
  have vl : EvB K (tVar 3) [some (DQ K a), some (DQ K b), some (DQ K c), some (DQ K (a * c)), some (DQ K (b * c))] D0 120 (a * c) D0 := ⟨ev_var rfl, bl⟩
  have vr : EvB K (tVar 4) [some (DQ K a), some (DQ K b), some (DQ K c), some (DQ K (a * c)), some (DQ K (b * c))] D0 120 (b * c) D0 := ⟨ev_var rfl, br⟩
  try dsimp only
  refine go_seq (go_if (b := false) (and_ff (evT_B (eb_less eb_nought vc)) fun h => ne_b (eb_less vl vr) (eb_less va vb) (less_mul a b (of_decide_eq_true h))) (fun z => nomatch z) fun _ => go_next ?_)
  try dsimp only
  refine go_seq (go_if (b := false) (and_ff (evT_B (eb_less vc eb_nought)) fun h => ne_b (eb_less vl vr) (eb_less vb va) (less_neg a b (of_decide_eq_true h))) (fun z => nomatch z) fun _ => go_next ?_)
  try dsimp only
  refine go_ret (ev_d (ev_orV (ev_notV (eb_less va vb)) fun _ => ev_orV (ev_notV (eb_less vb vc)) fun _ => eb_less va vc) ?_) k
  by_cases h1 : a < b
  · by_cases h2 : b < c
    · have h3 : a < c := by grind
      simp [h1, h2, h3]
    · simp [h2]
  · simp [h1]
theorem pure__law_orders (T : Txt K mg) (vs : List V) (H : Hp) (Q : VK) (X : XK) (h : sp__law_orders K vs H Q X) : t__law_orders K X { nx := fun _ H' => Q .non H', rt := Q } (L2.start N__law_orders vs) H :=
  pure_of (fun x F D E hr _ hp po => by subst hr; exact walk_orders hp.1 hp.2.1 hp.2.2 po) h
theorem len__law_orders (K : PySem.W.Frag) : ∀ vs H Q E, sp__law_orders K vs H Q E → vs.length = 3 := fsp_len fun _ => rfl

/-! ### law -/
theorem ev_adds {a b c : Rat} (ha : EvB K ta G D0 60 a D0) (hb : EvB K tb G D0 60 b D0) (hc : EvB K te G D0 60 c D0) : Ev (tCall (sp__law_adds K) [] X (tCons ta (tCons tb (tCons te tNil)))) G D0 (DB K true) D0 :=
  ev_call0 (args := fun x : Rat × Rat × Rat => [DQ K x.1, DQ K x.2.1, DQ K x.2.2]) (a, b, c) (evA_cons ha.1 (evA_cons hb.1 (evA_cons hc.1 evA_nil))) ⟨ha.2, hb.2, hc.2⟩ rfl
theorem ev_orders {a b c : Rat} (ha : EvB K ta G D0 60 a D0) (hb : EvB K tb G D0 60 b D0) (hc : EvB K te G D0 60 c D0) : Ev (tCall (sp__law_orders K) [] X (tCons ta (tCons tb (tCons te tNil)))) G D0 (DB K true) D0 :=
  ev_call0 (args := fun x : Rat × Rat × Rat => [DQ K x.1, DQ K x.2.1, DQ K x.2.2]) (a, b, c) (evA_cons ha.1 (evA_cons hb.1 (evA_cons hc.1 evA_nil))) ⟨ha.2, hb.2, hc.2⟩ rfl
theorem bd_2 {w : We} : Nu.Bd 60 (numR w) := numR_bd w
/-- one turn over three numbers -/
theorem walk_turn {a b c : Rat} {x8 : Option Ty} (g0 g1 g2 x3 x4 : Option Ty) (ha : Nu.Bd 60 a) (hb : Nu.Bd 60 b) (hc : Nu.Bd 60 c)
    (k : Go E.nx F0 [g0, g1, g2, x3, x4, some (DQ K a), some (DQ K b), some (DQ K c), some (DI K (1 + (c.den : Int).fmod 9))] D0) :
    Go (tSeq (tIfS (tOr (tNot (tB (tCall (sp__law_adds K) [] X (tCons (tVar 5) (tCons (tVar 6) (tCons (tVar 7) tNil)))))) (tNot (tB (tCall (sp__law_orders K) [] X (tCons (tVar 5) (tCons (tVar 6) (tCons (tVar 7) tNil)))))))
  (tRet (tC (.bl false)))
  tNext)
  (tSeq (tAsg (tOp (qAdd K) (tC (.int 1)) (tOp rModI (tOp (rIx K) (tVar 7) (tC (.int 1))) (tC (.int 9)))) (gName 8))
  (tSeq (tIfS (tOr (tTest (tOp (qNe K) (tCall (sp_number_of K) [] X (tCons (tOp (rIx K) (tVar 5) (tC (.int 0))) (tCons (tOp (rIx K) (tVar 5) (tC (.int 1))) tNil))) (tVar 5))) (tTest (tOp (qNe K) (tCall (sp_number_of K) [] X (tCons (tOp (qMul K) (tOp (rIx K) (tVar 5) (tC (.int 0))) (tVar 8)) (tCons (tOp (qMul K) (tOp (rIx K) (tVar 5) (tC (.int 1))) (tVar 8)) tNil))) (tVar 5))))
  (tRet (tC (.bl false)))
  tNext)
  (tIfS (tOr (tTest (tOp (qNe K) (tCall (sp_number_of K) [] X (tCons (tOp rSubI (tC (.int 0)) (tOp (rIx K) (tVar 5) (tC (.int 0)))) (tCons (tOp rSubI (tC (.int 0)) (tOp (rIx K) (tVar 5) (tC (.int 1)))) tNil))) (tVar 5))) (tTest (tOp (qNe K) (tCall (sp_minus K) [] X (tCons (tVar 5) (tCons (tVar 5) tNil))) (tTup (tCons (tC (.int 0)) (tCons (tC (.int 1)) tNil))))))
  (tRet (tC (.bl false)))
  tNext))) E) F0 [g0, g1, g2, x3, x4, some (DQ K a), some (DQ K b), some (DQ K c), x8] D0 := by
  have m0 := Int.fmod_nonneg_of_pos (c.den : Int) (b := 9) (by decide)
  have m1 := Int.fmod_lt_of_pos (c.den : Int) (b := 9) (by decide)
  try dsimp only
  refine go_seq (go_if (b := false) (or_ff (evT_b (evT_not (evT_B (ev_adds ⟨ev_var rfl, ha⟩ ⟨ev_var rfl, hb⟩ ⟨ev_var rfl, hc⟩))) rfl) (evT_b (evT_not (evT_B (ev_orders ⟨ev_var rfl, ha⟩ ⟨ev_var rfl, hb⟩ ⟨ev_var rfl, hc⟩))) rfl)) (fun z => nomatch z) fun _ => go_next ?_)
  try dsimp only
  refine go_seq (go_set (ev_add ev_int (ev_mod (ev_q1 (ev_var rfl)) ev_int (by decide))) ?_)
  dsimp only
  generalize (c.den : Int).fmod 9 = m at *
  have mn : (1 + m).natAbs < 2 ^ 4 := by
    have : (2:Nat) ^ 4 = 16 := by decide
    omega
  have d64 : ((a.den : Int) * (1 + m)).natAbs < 2 ^ 8000 := Nu.lt_pow_mono (Nu.natAbs_mul_lt (Nu.den_abs ha) mn) (by decide)
  have m2 : (1 + m) ≠ 0 := by omega
  try dsimp only
  refine go_seq (go_if (b := false) (or_ff (ne_q (ev_num2 (ev_q0 (ev_var rfl)) (ev_q1 (ev_var rfl)) (Nu.den_ne a) (bd_small (Nu.den_abs ha) (by decide))) (ev_var rfl) (Nu.q_self a))
    (ne_q (ev_num2 (ev_mul (ev_q0 (ev_var rfl)) (ev_var rfl) (cq ha.1 mn (by decide) (by decide))) (ev_mul (ev_q1 (ev_var rfl)) (ev_var rfl) (cq (Nu.den_abs ha) mn (by decide) (by decide))) (Int.mul_ne_zero (Nu.den_ne a) m2) d64) (ev_var rfl) ((Rat.divInt_mul_right m2).trans (Nu.q_self a)))) (fun z => nomatch z) fun _ => go_next ?_)
  have dn : (0 - (a.den : Int)).natAbs < 2 ^ 8000 := by
    have := bd_small (Nu.den_abs ha) (by decide : 60 ≤ 8000)
    rw [Int.zero_sub, Int.natAbs_neg]
    exact this
  have d0 : (0 - (a.den : Int)) ≠ 0 := by
    have := Nu.den_ne a
    omega
  try dsimp only
  refine go_if (b := false) (or_ff (ne_q (ev_num2 (ev_sub ev_int (ev_q0 (ev_var rfl))) (ev_sub ev_int (ev_q1 (ev_var rfl))) d0 dn) (ev_var rfl) (Nu.q_neg.trans (Nu.q_self a)))
    (ne_q (eb_minus (EvB.mk (ev_var rfl) ha) (EvB.mk (ev_var rfl) ha)).1 eb_nought.1 (m10 a))) (fun z => nomatch z) fun _ => go_next k
/-- the three orders of three numbers -/
theorem walk_three {a b c : Rat} {p : Addr} {x5 x6 x7 x8 : Option Ty} (g0 g1 g2 x4 : Option Ty) (ha : Nu.Bd 60 a) (hb : Nu.Bd 60 b) (hc : Nu.Bd 60 c) (hD : D0[0]? = some (p, OL K [qD a, qD b, qD c]))
    (k : Go E.nx F0 [g0, g1, g2, none, x4, none, none, none, none] (D0.eraseIdx 0)) :
    Go (tFor (iSeq K (tLst (tCons (tVar 3) (tCons (tRevL K (tVar 3)) (tCons (tOp (qAdd K) (tSl (rSlL K) (tVar 3) (tPart (tC (.int 1))) tNoPart) (tSl (rSlL K) (tVar 3) tNoPart (tPart (tC (.int 1))))) tNil))))) (gLst K 3 (gCons (gName 5) (gCons (gName 6) (gCons (gName 7) gNil))))
  (tSeq (tIfS (tOr (tNot (tB (tCall (sp__law_adds K) [] X (tCons (tVar 5) (tCons (tVar 6) (tCons (tVar 7) tNil)))))) (tNot (tB (tCall (sp__law_orders K) [] X (tCons (tVar 5) (tCons (tVar 6) (tCons (tVar 7) tNil)))))))
  (tRet (tC (.bl false)))
  tNext)
  (tSeq (tAsg (tOp (qAdd K) (tC (.int 1)) (tOp rModI (tOp (rIx K) (tVar 7) (tC (.int 1))) (tC (.int 9)))) (gName 8))
  (tSeq (tIfS (tOr (tTest (tOp (qNe K) (tCall (sp_number_of K) [] X (tCons (tOp (rIx K) (tVar 5) (tC (.int 0))) (tCons (tOp (rIx K) (tVar 5) (tC (.int 1))) tNil))) (tVar 5))) (tTest (tOp (qNe K) (tCall (sp_number_of K) [] X (tCons (tOp (qMul K) (tOp (rIx K) (tVar 5) (tC (.int 0))) (tVar 8)) (tCons (tOp (qMul K) (tOp (rIx K) (tVar 5) (tC (.int 1))) (tVar 8)) tNil))) (tVar 5))))
  (tRet (tC (.bl false)))
  tNext)
  (tIfS (tOr (tTest (tOp (qNe K) (tCall (sp_number_of K) [] X (tCons (tOp rSubI (tC (.int 0)) (tOp (rIx K) (tVar 5) (tC (.int 0)))) (tCons (tOp rSubI (tC (.int 0)) (tOp (rIx K) (tVar 5) (tC (.int 1)))) tNil))) (tVar 5))) (tTest (tOp (qNe K) (tCall (sp_minus K) [] X (tCons (tVar 5) (tCons (tVar 5) tNil))) (tTup (tCons (tC (.int 0)) (tCons (tC (.int 1)) tNil))))))
  (tRet (tC (.bl false)))
  tNext)))) E) F0 [g0, g1, g2, some (Is (.ref p)), x4, x5, x6, x7, x8] D0 := by
  refine go_freeze (k := 0) (i := 3) hD rfl ?_
  dsimp only [List.set]
  have it : EvIt K (iSeq K (tLst (tCons (tVar 3) (tCons (tRevL K (tVar 3)) (tCons (tOp (qAdd K) (tSl (rSlL K) (tVar 3) (tPart (tC (.int 1))) tNoPart) (tSl (rSlL K) (tVar 3) tNoPart (tPart (tC (.int 1))))) tNil))))) [g0, g1, g2, some (DLs K [qD a, qD b, qD c]), x4, x5, x6, x7, x8] (D0.eraseIdx 0)
      [.list [qD a, qD b, qD c], .list [qD c, qD b, qD a], .list [qD b, qD c, qD a]] (D0.eraseIdx 0) := by
    refine evIt_seqL (ev_lst (evD_cons (ev_dls (ev_var rfl)) (evD_cons (ev_dls (ev_d2 (ev_revL (ev_dls (ev_var rfl))) rfl)) (evD_cons (ev_dls (ev_d2 (ev_catL (ev_slL (ev_dls (ev_var rfl)) (evO_some (K := K) ev_int) evO_none) (ev_slL (ev_dls (ev_var rfl)) evO_none (evO_some (K := K) ev_int)) ?_) ?_)) evD_nil))) (by simp))
    · exact cut_len
    · exact cut_is
  try dsimp only
  refine go_for (K := K) (S := Unit) it (fun _ _ => True) (fun _ => [g0, g1, g2, none, x4, none, none, none, none]) (fun _ => D0.eraseIdx 0) () trivial (by walk_at "sle") (List.Sublist.refl _) ?_ fun _ _ => k
  intro F1 s1 j _ d hd _
  have cs : ∃ x y z : Rat, Nu.Bd 60 x ∧ Nu.Bd 60 y ∧ Nu.Bd 60 z ∧ d = .list [qD x, qD y, qD z] := by
    have mem := List.mem_of_getElem? hd
    simp only [List.mem_cons, List.not_mem_nil, or_false] at mem
    rcases mem with rfl | rfl | rfl
    · exact ⟨a, b, c, ha, hb, hc, rfl⟩
    · exact ⟨c, b, a, hc, hb, ha, rfl⟩
    · exact ⟨b, c, a, hb, hc, ha, rfl⟩
  obtain ⟨x, y, z, hx, hy, hz, rfl⟩ := cs
  refine ⟨_, evG_lst (evGs_cons evG_name (evGs_cons evG_name (evGs_cons evG_name evGs_nil))) rfl, fun Nx hN => ?_⟩
  refine walk_turn _ _ _ _ _ hx hy hz ?_
  exact (hN () trivial).weak (by walk_at "sle") (List.Sublist.refl _)
def ws (w : We) : Nat → We
  | 0 => w
  | k + 1 => numW (ws w k)
theorem ws_ok {w : We} {n : Nat} (h : w.ok n) : ∀ k, (ws w k).ok (n + 3 * k)
  | 0 => h
  | k + 1 => numW_ok (ws_ok h k)
theorem ev_some {w : We} {p : Addr} {g1 g3 g5 g6 g7 g8 : Option Ty} {gs : Option Ty} (h : w.ok 1100) : EvN (tLc (iRng1 (tCons (tC (.int 3)) tNil)) (gName 4) tYes (tCall (sp__law_number K) [] E0 (tCons (tVar 2) tNil)) [4]) [gs, g1, some (Is (.ref p)), g3, none, g5, g6, g7, g8] ((p, OL K w.d) :: D0) (OL K [qD (numR w), qD (numR (numW w)), qD (numR (numW (numW w)))]) ((p, OL K (ws w 3).d) :: D0) := by
  refine evN_lc (S := Nat) (evIt_rng1 ev_int (by decide)) (fun k s acc => s = k ∧ acc = (List.range k).map fun j => qD (numR (ws w j))) (fun k => (p, OL K (ws w k).d) :: D0) 0 ⟨rfl, rfl⟩ (List.Sublist.refl _) (by rw [rangeD_len]; decide) ?_ ?_
  · rintro k s acc d q hd ⟨rfl, rfl⟩
    have h3 := (rangeD_get hd).1
    have lk : s < 3 := h3
    refine ⟨_, evW_name (by simp), true, s, evT_yes, fun _ => ⟨qD (numR (ws w s)), s + 1, ?_, rfl, ?_⟩, fun z => nomatch z⟩
    · refine ev_number (k := 1) (D := (q, OL K ((List.range s).map fun j => qD (numR (ws w j)))) :: (p, OL K (ws w s).d) :: D0) (1100 + 3 * s) (by simp) (ev_var rfl) (ws_ok h s) ?_
      have : (2:Nat) ^ 39 = 549755813888 := by decide
      omega
    · rw [List.range_succ, List.map_append]
      rfl
  · rintro s acc ⟨rfl, rfl⟩
    exact ⟨rfl, rfl⟩
theorem walk_law {ns : List Int} (hl : ns.length ≤ 63) (k : GoV E.rt F0 (DB K true) D0) : Go (t_law K X E) F0 [some (D K (.list (ns.map .int))), none, none, none, none, none, none, none, none] D0 := by
  have hn : -(2 ^ 62) ≤ (if (if (30 : Int) < ((ns.map PyData.int).length : Int) then (30 : Int) else ((ns.map PyData.int).length : Int)) > 1 then (if (30 : Int) < ((ns.map PyData.int).length : Int) then (30 : Int) else ((ns.map PyData.int).length : Int)) else 1) ∧ (if (if (30 : Int) < ((ns.map PyData.int).length : Int) then (30 : Int) else ((ns.map PyData.int).length : Int)) > 1 then (if (30 : Int) < ((ns.map PyData.int).length : Int) then (30 : Int) else ((ns.map PyData.int).length : Int)) else 1) ≤ 30 := by
    rw [List.length_map]
    split <;> split <;> omega
  try dsimp only
  refine go_seq (go_for (K := K) (S := Unit) (evIt_rng1 (ev_max2 ev_int (ev_min2 (ev_lenL (ev_var rfl)) ev_int)) ⟨hn.1, by have := hn.2; omega⟩) (fun _ _ => True) (fun _ => [some (D K (.list (ns.map .int))), none, none, none, none, none, none, none, none]) (fun _ => D0) () trivial (SLe.refl _) (List.Sublist.refl _) ?_ ?_)
  · intro F1 s1 j s d hd _
    obtain ⟨hj, rfl⟩ := rangeD_get hd
    refine ⟨_, evG_name, fun Nx hN => ?_⟩
    have i0 : (0 : Int) ≤ 0 + (j : Int) := by omega
    have i1 : (0 : Int) + (j : Int) ≤ 30 := by have := hn.2; omega
    generalize (0 : Int) + (j : Int) = i at *
    have w0 : (well ns i).ok 1100 := We.well_ok i0 (by omega)
    try dsimp only
    refine go_seq (go_setN (evN_call0 (args := fun x : List Int × Int => [D K (.list (x.1.map .int)), DI K x.2]) (pre := fun x => 0 ≤ x.2 ∧ x.2 ≤ 63) (out := fun x => .new (OL K (well x.1 x.2).d)) (ns, i) (evA_cons (ev_var rfl) (evA_cons (ev_var rfl) evA_nil)) ⟨i0, by show i ≤ 63; omega⟩ rfl) fun p => ?_)
    generalize well ns i = w at *
    dsimp only
    refine go_seq (go_setN (ev_some w0) fun q => ?_)
    have w3 := ws_ok w0 3
    have b0 := numR_bd w
    have b1 := numR_bd (numW w)
    have b2 := numR_bd (numW (numW w))
    generalize ws w 3 = u at *
    generalize numR w = a at *
    generalize numR (numW w) = b at *
    generalize numR (numW (numW w)) = c at *
    dsimp only
    refine go_seq (go_if (evT_test (eq_I (ev_take (k := 1) (D := (q, OL K [qD a, qD b, qD c]) :: (p, OL K u.d) :: D0) _ (by simp) (ev_var rfl) ev_int w3 (by decide) (by decide) (by decide)) ev_int)) (fun _ => ?_) fun _ => go_next ?_)
    · have u1 : (u.nx 4).ok _ := We.nx_ok (m := 4) w3
      have tk := We.val_ok (w := u.nx 4) (m := 2) (by decide)
      try dsimp only
      refine go_setO (k := 0) (j := ((u.nx 4).val 2).toNat) (ds := [qD a, qD b, qD c]) (ix_O (k := 0) (d := qD c) (ev_var rfl) ev_int rfl rfl) (ev_var rfl) (ev_take (k := 1) (D := (q, OL K [qD a, qD b, qD c]) :: (p, OL K (u.nx 4).d) :: D0) _ (by simp) (ev_var rfl) ev_int u1 (by decide) (by decide) (by decide)) rfl ?_ ?_
      · unfold ixN
        rw [if_pos tk.1, if_pos]
        show (u.nx 4).val 2 < 3
        omega
      · have cs : ((u.nx 4).val 2).toNat = 0 ∨ ((u.nx 4).val 2).toNat = 1 := by omega
        rcases cs with e | e
        · rw [e]
          exact walk_three (a := c) (b := b) (c := c) _ _ _ _ b2 b1 b2 rfl ((hN () trivial).weak (by walk_at "sle") (List.sublist_cons_self _ _))
        · rw [e]
          exact walk_three (a := a) (b := c) (c := c) _ _ _ _ b0 b2 b2 rfl ((hN () trivial).weak (by walk_at "sle") (List.sublist_cons_self _ _))
    · exact walk_three (a := a) (b := b) (c := c) _ _ _ _ b0 b1 b2 rfl ((hN () trivial).weak (by walk_at "sle") (List.sublist_cons_self _ _))
  · intro s _
    try dsimp only
    exact go_ret ev_bl k
theorem pure_law (T : Txt K mg) (vs : List V) (H : Hp) (Q : VK) (X : XK) (h : sp_law K vs H Q X) : t_law K X { nx := fun _ H' => Q .non H', rt := Q } (L2.start N_law vs) H :=
  pure_of (fun x F D E hr _ hp po => by subst hr; exact walk_law hp po) h
theorem len_law (K : PySem.W.Frag) : ∀ vs H Q E, sp_law K vs H Q E → vs.length = 1 := fsp_len fun _ => rfl
end
end K03

set_option Elab.async false
set_option linter.all false
set_option maxRecDepth 100000
set_option maxHeartbeats 4000000
open PySem PySem.Spec L2 TL
namespace K03
section
variable {P : Program} {w : World} {K : PySem.W.Frag} {mg : Str → Option Value} {base : Heap}
theorem ok_is_whole (T : Txt K mg) {f : Addr} {fd : FuncData} (FD : FunD K "is_whole" "is_whole" (defArgs s_is_whole) (defBody s_is_whole) (defScope s_is_whole) [] [] f fd) : FnOk P w K mg base (L2.CX P w) 1 f fd ["thing"] (sp_is_whole K) :=
  FD.ok sc_is_whole (len_is_whole K) fun cdv A outer s H vs Q X hr h => ⟨t_is_whole K X, body_is_whole T hr, pure_is_whole T vs H Q X h⟩
theorem ok_common (T : Txt K mg) {f : Addr} {fd : FuncData} (FD : FunD K "common" "common" (defArgs s_common) (defBody s_common) (defScope s_common) [] [] f fd) : FnOk P w K mg base (L2.CX P w) 1 f fd ["one", "other"] (sp_common K) :=
  FD.ok sc_common (len_common K) fun cdv A outer s H vs Q X hr h => ⟨t_common K X, body_common T hr, pure_common T vs H Q X h⟩
theorem ok_number_of (T : Txt K mg) (F_common : Fo P w K mg base "common" ["one", "other"] [] 1 (sp_common K)) (F_is_whole : Fo P w K mg base "is_whole" ["thing"] [] 1 (sp_is_whole K)) {f : Addr} {fd : FuncData} (FD : FunD K "number_of" "number_of" (defArgs s_number_of) (defBody s_number_of) (defScope s_number_of) [.int 1] [] f fd) : FnOk P w K mg base (L2.CX P w) 2 f fd ["top", "bottom"] (sp_number_of K) :=
  FD.ok sc_number_of (len_number_of K) fun cdv A outer s H vs Q X hr h => ⟨t_number_of K X, body_number_of T F_common F_is_whole hr, pure_number_of T vs H Q X h⟩
theorem ok_plus (T : Txt K mg) (F_number_of : Fo P w K mg base "number_of" ["top", "bottom"] [] 2 (sp_number_of K)) {f : Addr} {fd : FuncData} (FD : FunD K "plus" "plus" (defArgs s_plus) (defBody s_plus) (defScope s_plus) [] [] f fd) : FnOk P w K mg base (L2.CX P w) 3 f fd ["a", "b"] (sp_plus K) :=
  FD.ok sc_plus (len_plus K) fun cdv A outer s H vs Q X hr h => ⟨t_plus K X, body_plus T F_number_of hr, pure_plus T vs H Q X h⟩
theorem ok_minus (T : Txt K mg) (F_number_of : Fo P w K mg base "number_of" ["top", "bottom"] [] 2 (sp_number_of K)) {f : Addr} {fd : FuncData} (FD : FunD K "minus" "minus" (defArgs s_minus) (defBody s_minus) (defScope s_minus) [] [] f fd) : FnOk P w K mg base (L2.CX P w) 3 f fd ["a", "b"] (sp_minus K) :=
  FD.ok sc_minus (len_minus K) fun cdv A outer s H vs Q X hr h => ⟨t_minus K X, body_minus T F_number_of hr, pure_minus T vs H Q X h⟩
theorem ok_times (T : Txt K mg) (F_number_of : Fo P w K mg base "number_of" ["top", "bottom"] [] 2 (sp_number_of K)) {f : Addr} {fd : FuncData} (FD : FunD K "times" "times" (defArgs s_times) (defBody s_times) (defScope s_times) [] [] f fd) : FnOk P w K mg base (L2.CX P w) 3 f fd ["a", "b"] (sp_times K) :=
  FD.ok sc_times (len_times K) fun cdv A outer s H vs Q X hr h => ⟨t_times K X, body_times T F_number_of hr, pure_times T vs H Q X h⟩
theorem ok_over (T : Txt K mg) (F_number_of : Fo P w K mg base "number_of" ["top", "bottom"] [] 2 (sp_number_of K)) {f : Addr} {fd : FuncData} (FD : FunD K "over" "over" (defArgs s_over) (defBody s_over) (defScope s_over) [] [] f fd) : FnOk P w K mg base (L2.CX P w) 3 f fd ["a", "b"] (sp_over K) :=
  FD.ok sc_over (len_over K) fun cdv A outer s H vs Q X hr h => ⟨t_over K X, body_over T F_number_of hr, pure_over T vs H Q X h⟩
theorem ok_is_less (T : Txt K mg) {f : Addr} {fd : FuncData} (FD : FunD K "is_less" "is_less" (defArgs s_is_less) (defBody s_is_less) (defScope s_is_less) [] [] f fd) : FnOk P w K mg base (L2.CX P w) 1 f fd ["a", "b"] (sp_is_less K) :=
  FD.ok sc_is_less (len_is_less K) fun cdv A outer s H vs Q X hr h => ⟨t_is_less K X, body_is_less T hr, pure_is_less T vs H Q X h⟩
theorem ok__law_well (T : Txt K mg) {f : Addr} {fd : FuncData} (FD : FunD K "_law_well" "_law_well" (defArgs s__law_well) (defBody s__law_well) (defScope s__law_well) [] [] f fd) : FnOk P w K mg base (L2.CX P w) 1 f fd ["_law_script", "_law_k"] (sp__law_well K) :=
  FD.ok sc__law_well (len__law_well K) fun cdv A outer s H vs Q X hr h => ⟨t__law_well K X, body__law_well T hr, pure__law_well T vs H Q X h⟩
theorem ok__law_take (T : Txt K mg) {f : Addr} {fd : FuncData} (FD : FunD K "_law_take" "_law_take" (defArgs s__law_take) (defBody s__law_take) (defScope s__law_take) [] [] f fd) : FnOk P w K mg base (L2.CX P w) 1 f fd ["_law_well_here", "_law_many"] (sp__law_take K) :=
  FD.ok sc__law_take (len__law_take K) fun cdv A outer s H vs Q X hr h => ⟨t__law_take K X, body__law_take T hr, pure__law_take T vs H Q X h⟩
theorem ok__law_common (T : Txt K mg) {f : Addr} {fd : FuncData} (FD : FunD K "_law_common" "_law_common" (defArgs s__law_common) (defBody s__law_common) (defScope s__law_common) [] [] f fd) : FnOk P w K mg base (L2.CX P w) 1 f fd ["_law_one", "_law_other"] (sp__law_common K) :=
  FD.ok sc__law_common (len__law_common K) fun cdv A outer s H vs Q X hr h => ⟨t__law_common K X, body__law_common T hr, pure__law_common T vs H Q X h⟩
theorem ok__law_num (T : Txt K mg) (F__law_common : Fo P w K mg base "_law_common" ["_law_one", "_law_other"] [] 1 (sp__law_common K)) {f : Addr} {fd : FuncData} (FD : FunD K "_law_num" "_law_num" (defArgs s__law_num) (defBody s__law_num) (defScope s__law_num) [] [] f fd) : FnOk P w K mg base (L2.CX P w) 2 f fd ["_law_top", "_law_bottom"] (sp__law_num K) :=
  FD.ok sc__law_num (len__law_num K) fun cdv A outer s H vs Q X hr h => ⟨t__law_num K X, body__law_num T F__law_common hr, pure__law_num T vs H Q X h⟩
theorem ok__law_number (T : Txt K mg) (F__law_num : Fo P w K mg base "_law_num" ["_law_top", "_law_bottom"] [] 2 (sp__law_num K)) (F__law_take : Fo P w K mg base "_law_take" ["_law_well_here", "_law_many"] [] 1 (sp__law_take K)) {f : Addr} {fd : FuncData} (FD : FunD K "_law_number" "_law_number" (defArgs s__law_number) (defBody s__law_number) (defScope s__law_number) [] [] f fd) : FnOk P w K mg base (L2.CX P w) 3 f fd ["_law_well_here"] (sp__law_number K) :=
  FD.ok sc__law_number (len__law_number K) fun cdv A outer s H vs Q X hr h => ⟨t__law_number K X, body__law_number T F__law_num F__law_take hr, pure__law_number T vs H Q X h⟩
theorem ok__law_adds (T : Txt K mg) (F_minus : Fo P w K mg base "minus" ["a", "b"] [] 3 (sp_minus K)) (F_over : Fo P w K mg base "over" ["a", "b"] [] 3 (sp_over K)) (F_plus : Fo P w K mg base "plus" ["a", "b"] [] 3 (sp_plus K)) (F_times : Fo P w K mg base "times" ["a", "b"] [] 3 (sp_times K)) {f : Addr} {fd : FuncData} (FD : FunD K "_law_adds" "_law_adds" (defArgs s__law_adds) (defBody s__law_adds) (defScope s__law_adds) [] [] f fd) : FnOk P w K mg base (L2.CX P w) 4 f fd ["_law_one", "_law_other", "_law_third"] (sp__law_adds K) :=
  FD.ok sc__law_adds (len__law_adds K) fun cdv A outer s H vs Q X hr h => ⟨t__law_adds K X, body__law_adds T F_minus F_over F_plus F_times hr, pure__law_adds T vs H Q X h⟩
theorem ok__law_orders (T : Txt K mg) (F_is_less : Fo P w K mg base "is_less" ["a", "b"] [] 1 (sp_is_less K)) (F_plus : Fo P w K mg base "plus" ["a", "b"] [] 3 (sp_plus K)) (F_times : Fo P w K mg base "times" ["a", "b"] [] 3 (sp_times K)) {f : Addr} {fd : FuncData} (FD : FunD K "_law_orders" "_law_orders" (defArgs s__law_orders) (defBody s__law_orders) (defScope s__law_orders) [] [] f fd) : FnOk P w K mg base (L2.CX P w) 4 f fd ["_law_one", "_law_other", "_law_third"] (sp__law_orders K) :=
  FD.ok sc__law_orders (len__law_orders K) fun cdv A outer s H vs Q X hr h => ⟨t__law_orders K X, body__law_orders T F_is_less F_plus F_times hr, pure__law_orders T vs H Q X h⟩
theorem ok_law (T : Txt K mg) (F__law_adds : Fo P w K mg base "_law_adds" ["_law_one", "_law_other", "_law_third"] [] 4 (sp__law_adds K)) (F__law_number : Fo P w K mg base "_law_number" ["_law_well_here"] [] 3 (sp__law_number K)) (F__law_orders : Fo P w K mg base "_law_orders" ["_law_one", "_law_other", "_law_third"] [] 4 (sp__law_orders K)) (F__law_take : Fo P w K mg base "_law_take" ["_law_well_here", "_law_many"] [] 1 (sp__law_take K)) (F__law_well : Fo P w K mg base "_law_well" ["_law_script", "_law_k"] [] 1 (sp__law_well K)) (F_minus : Fo P w K mg base "minus" ["a", "b"] [] 3 (sp_minus K)) (F_number_of : Fo P w K mg base "number_of" ["top", "bottom"] [] 2 (sp_number_of K)) {f : Addr} {fd : FuncData} (FD : FunD K "law" "law" (defArgs s_law) (defBody s_law) (defScope s_law) [] [] f fd) : FnOk P w K mg base (L2.CX P w) 5 f fd ["_law_script"] (sp_law K) :=
  FD.ok sc_law (len_law K) fun cdv A outer s H vs Q X hr h => ⟨t_law K X, body_law T F__law_adds F__law_number F__law_orders F__law_take F__law_well F_minus F_number_of hr, pure_law T vs H Q X h⟩
end
def d0 : He.DefD := ⟨("is_whole", none), "is_whole", "is_whole", defArgs s_is_whole, defBody s_is_whole, defScope s_is_whole, [], []⟩
def d1 : He.DefD := ⟨("common", none), "common", "common", defArgs s_common, defBody s_common, defScope s_common, [], []⟩
def d2 : He.DefD := ⟨("number_of", none), "number_of", "number_of", defArgs s_number_of, defBody s_number_of, defScope s_number_of, [(.int 1 : He.Dv)], []⟩
def d3 : He.DefD := ⟨("plus", none), "plus", "plus", defArgs s_plus, defBody s_plus, defScope s_plus, [], []⟩
def d4 : He.DefD := ⟨("minus", none), "minus", "minus", defArgs s_minus, defBody s_minus, defScope s_minus, [], []⟩
def d5 : He.DefD := ⟨("times", none), "times", "times", defArgs s_times, defBody s_times, defScope s_times, [], []⟩
def d6 : He.DefD := ⟨("over", none), "over", "over", defArgs s_over, defBody s_over, defScope s_over, [], []⟩
def d7 : He.DefD := ⟨("is_less", none), "is_less", "is_less", defArgs s_is_less, defBody s_is_less, defScope s_is_less, [], []⟩
def d8 : He.DefD := ⟨("_law_well", none), "_law_well", "_law_well", defArgs s__law_well, defBody s__law_well, defScope s__law_well, [], []⟩
def d9 : He.DefD := ⟨("_law_take", none), "_law_take", "_law_take", defArgs s__law_take, defBody s__law_take, defScope s__law_take, [], []⟩
def d10 : He.DefD := ⟨("_law_common", none), "_law_common", "_law_common", defArgs s__law_common, defBody s__law_common, defScope s__law_common, [], []⟩
def d11 : He.DefD := ⟨("_law_num", none), "_law_num", "_law_num", defArgs s__law_num, defBody s__law_num, defScope s__law_num, [], []⟩
def d12 : He.DefD := ⟨("_law_number", none), "_law_number", "_law_number", defArgs s__law_number, defBody s__law_number, defScope s__law_number, [], []⟩
def d13 : He.DefD := ⟨("_law_adds", none), "_law_adds", "_law_adds", defArgs s__law_adds, defBody s__law_adds, defScope s__law_adds, [], []⟩
def d14 : He.DefD := ⟨("_law_orders", none), "_law_orders", "_law_orders", defArgs s__law_orders, defBody s__law_orders, defScope s__law_orders, [], []⟩
def d15 : He.DefD := ⟨("law", none), "law", "law", defArgs s_law, defBody s_law, defScope s_law, [], []⟩
def fn : List He.DefD := [d0, d1, d2, d3, d4, d5, d6, d7, d8, d9, d10, d11, d12, d13, d14, d15]
def fa : List He.Fa := [.free "abs", .free "bool", .free "int", .free "isinstance", .free "len", .free "max", .free "min", .free "range", .glo "NoNumber", .glo "is_whole", .glo "common", .glo "number_of", .glo "plus", .glo "minus", .glo "times", .glo "over", .glo "is_less", .glo "_law_well", .glo "_law_take", .glo "_law_common", .glo "_law_num", .glo "_law_number", .glo "_law_adds", .glo "_law_orders", .glo "law"]
def ex (K : PySem.W.Frag) : Bool := (excB K (He.ga K "NoNumber") && true)
abbrev R : PySem.W.OpenRow := PySem.W.OpenLaw.row PySem.Challenge.rw_fitwhatever_k03_whole_numbers_of_any_siz
abbrev hk : PySem.W.Hook := hookZ 5 fa fn ex
def ob (s : PySem.W.SharedT) : AlZ := obsZG 5 fa fn ex (HandSHeadRun.getT s)
theorem ob_eq (s : PySem.W.SharedT) : ob s = hk.obs s.abs := obsZG_eq (HandSHeadRun.getT_eq s)
theorem run (w : World) : HandSHeadRun.RunEq R (PySem.W.view R.prog [20]) hk ob 4000 ((["FitError", "NoNumber", "is_whole", "common", "number_of", "plus", "minus", "times", "over", "is_less", "_law_well", "_law_take", "_law_common", "_law_num", "_law_number", "_law_adds", "_law_orders"] : List PySem.Str)) w := by
  intro os
  kernel_rfl
theorem facts {P : Program} {w : World} {K : PySem.W.Frag} {h : Heap} {mg : Str → Option Value} {f : Addr} (KX : K.In h) (G : h.Ns mainGlobals mg) (hfa : mg ("law" : Str) = some (.ref f)) (c : SaysZ fa fn ex K) :
    ∃ fd : FuncData, (∀ (s : Shared) (v : Value), BindsTo s fd ⟨[v], []⟩ [("_law_script", v)]) ∧ ∀ base : Heap, K.In base → base.Ns mainGlobals mg → FnOk P w K mg base L2.CX0 5 f fd ["_law_script"] (sp_law K) := by
  have ce := c.2
  unfold ex at ce
  simp only [Bool.and_eq_true] at ce
  obtain ⟨x0, _⟩ := ce
  have T : Txt K mg := {
    b_abs := He.free_ok KX G (c.1.fact 0 rfl)
    b_bool := He.free_ok KX G (c.1.fact 1 rfl)
    b_int := He.free_ok KX G (c.1.fact 2 rfl)
    b_isinstance := He.free_ok KX G (c.1.fact 3 rfl)
    b_len := He.free_ok KX G (c.1.fact 4 rfl)
    b_max := He.free_ok KX G (c.1.fact 5 rfl)
    b_min := He.free_ok KX G (c.1.fact 6 rfl)
    b_range := He.free_ok KX G (c.1.fact 7 rfl)
    g_NoNumber := He.glo_ok KX G (c.1.fact 8 rfl)
    e_NoNumber := excB_ok x0 }
  obtain ⟨fd0, FD0⟩ := c.1.def_ 0 (d := d0) rfl
  have hg0 : mg "is_whole" = some (.ref (He.ga K "is_whole")) := He.glo_ok KX G (c.1.fact 9 (f := .glo "is_whole") rfl)
  obtain ⟨fd1, FD1⟩ := c.1.def_ 1 (d := d1) rfl
  have hg1 : mg "common" = some (.ref (He.ga K "common")) := He.glo_ok KX G (c.1.fact 10 (f := .glo "common") rfl)
  obtain ⟨fd2, FD2⟩ := c.1.def_ 2 (d := d2) rfl
  have hg2 : mg "number_of" = some (.ref (He.ga K "number_of")) := He.glo_ok KX G (c.1.fact 11 (f := .glo "number_of") rfl)
  obtain ⟨fd3, FD3⟩ := c.1.def_ 3 (d := d3) rfl
  have hg3 : mg "plus" = some (.ref (He.ga K "plus")) := He.glo_ok KX G (c.1.fact 12 (f := .glo "plus") rfl)
  obtain ⟨fd4, FD4⟩ := c.1.def_ 4 (d := d4) rfl
  have hg4 : mg "minus" = some (.ref (He.ga K "minus")) := He.glo_ok KX G (c.1.fact 13 (f := .glo "minus") rfl)
  obtain ⟨fd5, FD5⟩ := c.1.def_ 5 (d := d5) rfl
  have hg5 : mg "times" = some (.ref (He.ga K "times")) := He.glo_ok KX G (c.1.fact 14 (f := .glo "times") rfl)
  obtain ⟨fd6, FD6⟩ := c.1.def_ 6 (d := d6) rfl
  have hg6 : mg "over" = some (.ref (He.ga K "over")) := He.glo_ok KX G (c.1.fact 15 (f := .glo "over") rfl)
  obtain ⟨fd7, FD7⟩ := c.1.def_ 7 (d := d7) rfl
  have hg7 : mg "is_less" = some (.ref (He.ga K "is_less")) := He.glo_ok KX G (c.1.fact 16 (f := .glo "is_less") rfl)
  obtain ⟨fd8, FD8⟩ := c.1.def_ 8 (d := d8) rfl
  have hg8 : mg "_law_well" = some (.ref (He.ga K "_law_well")) := He.glo_ok KX G (c.1.fact 17 (f := .glo "_law_well") rfl)
  obtain ⟨fd9, FD9⟩ := c.1.def_ 9 (d := d9) rfl
  have hg9 : mg "_law_take" = some (.ref (He.ga K "_law_take")) := He.glo_ok KX G (c.1.fact 18 (f := .glo "_law_take") rfl)
  obtain ⟨fd10, FD10⟩ := c.1.def_ 10 (d := d10) rfl
  have hg10 : mg "_law_common" = some (.ref (He.ga K "_law_common")) := He.glo_ok KX G (c.1.fact 19 (f := .glo "_law_common") rfl)
  obtain ⟨fd11, FD11⟩ := c.1.def_ 11 (d := d11) rfl
  have hg11 : mg "_law_num" = some (.ref (He.ga K "_law_num")) := He.glo_ok KX G (c.1.fact 20 (f := .glo "_law_num") rfl)
  obtain ⟨fd12, FD12⟩ := c.1.def_ 12 (d := d12) rfl
  have hg12 : mg "_law_number" = some (.ref (He.ga K "_law_number")) := He.glo_ok KX G (c.1.fact 21 (f := .glo "_law_number") rfl)
  obtain ⟨fd13, FD13⟩ := c.1.def_ 13 (d := d13) rfl
  have hg13 : mg "_law_adds" = some (.ref (He.ga K "_law_adds")) := He.glo_ok KX G (c.1.fact 22 (f := .glo "_law_adds") rfl)
  obtain ⟨fd14, FD14⟩ := c.1.def_ 14 (d := d14) rfl
  have hg14 : mg "_law_orders" = some (.ref (He.ga K "_law_orders")) := He.glo_ok KX G (c.1.fact 23 (f := .glo "_law_orders") rfl)
  obtain ⟨fd15, FD15⟩ := c.1.def_ 15 (d := d15) rfl
  have e := hfa.symm.trans (He.glo_ok KX G (c.1.fact 24 (f := .glo "law") rfl))
  cases e
  have b := FunD.bindsA (ps := ["_law_script"]) FD15 fun _ _ _ _ _ _ us hl => match us, hl with | [_], _ => rfl
  refine ⟨fd15, fun s v => b s [v] rfl, fun base _ _ => ?_⟩
  have O0 := ok_is_whole (P := P) (w := w) (base := base) T FD0
  have F_is_whole := fo_mk FD0 hg0 O0 (fun _ _ _ _ _ _ us hl => match us, hl with | [_], _ => rfl)
  have O1 := ok_common (P := P) (w := w) (base := base) T FD1
  have F_common := fo_mk FD1 hg1 O1 (fun _ _ _ _ _ _ us hl => match us, hl with | [_, _], _ => rfl)
  have O2 := ok_number_of (P := P) (w := w) (base := base) T F_common F_is_whole FD2
  have F_number_of := fo_mkD FD2 hg2 O2 2 1 (List.cons_ne_nil _ _) rfl (fun _ _ _ _ _ _ _ us its hl hl2 => match us, its, hl, hl2 with | [_, _], [_], _, _ => ⟨_, rfl, rfl⟩)
  have O3 := ok_plus (P := P) (w := w) (base := base) T F_number_of FD3
  have F_plus := fo_mk FD3 hg3 O3 (fun _ _ _ _ _ _ us hl => match us, hl with | [_, _], _ => rfl)
  have O4 := ok_minus (P := P) (w := w) (base := base) T F_number_of FD4
  have F_minus := fo_mk FD4 hg4 O4 (fun _ _ _ _ _ _ us hl => match us, hl with | [_, _], _ => rfl)
  have O5 := ok_times (P := P) (w := w) (base := base) T F_number_of FD5
  have F_times := fo_mk FD5 hg5 O5 (fun _ _ _ _ _ _ us hl => match us, hl with | [_, _], _ => rfl)
  have O6 := ok_over (P := P) (w := w) (base := base) T F_number_of FD6
  have F_over := fo_mk FD6 hg6 O6 (fun _ _ _ _ _ _ us hl => match us, hl with | [_, _], _ => rfl)
  have O7 := ok_is_less (P := P) (w := w) (base := base) T FD7
  have F_is_less := fo_mk FD7 hg7 O7 (fun _ _ _ _ _ _ us hl => match us, hl with | [_, _], _ => rfl)
  have O8 := ok__law_well (P := P) (w := w) (base := base) T FD8
  have F__law_well := fo_mk FD8 hg8 O8 (fun _ _ _ _ _ _ us hl => match us, hl with | [_, _], _ => rfl)
  have O9 := ok__law_take (P := P) (w := w) (base := base) T FD9
  have F__law_take := fo_mk FD9 hg9 O9 (fun _ _ _ _ _ _ us hl => match us, hl with | [_, _], _ => rfl)
  have O10 := ok__law_common (P := P) (w := w) (base := base) T FD10
  have F__law_common := fo_mk FD10 hg10 O10 (fun _ _ _ _ _ _ us hl => match us, hl with | [_, _], _ => rfl)
  have O11 := ok__law_num (P := P) (w := w) (base := base) T F__law_common FD11
  have F__law_num := fo_mk FD11 hg11 O11 (fun _ _ _ _ _ _ us hl => match us, hl with | [_, _], _ => rfl)
  have O12 := ok__law_number (P := P) (w := w) (base := base) T F__law_num F__law_take FD12
  have F__law_number := fo_mk FD12 hg12 O12 (fun _ _ _ _ _ _ us hl => match us, hl with | [_], _ => rfl)
  have O13 := ok__law_adds (P := P) (w := w) (base := base) T F_minus F_over F_plus F_times FD13
  have F__law_adds := fo_mk FD13 hg13 O13 (fun _ _ _ _ _ _ us hl => match us, hl with | [_, _, _], _ => rfl)
  have O14 := ok__law_orders (P := P) (w := w) (base := base) T F_is_less F_plus F_times FD14
  have F__law_orders := fo_mk FD14 hg14 O14 (fun _ _ _ _ _ _ us hl => match us, hl with | [_, _, _], _ => rfl)
  exact calm_fn (ok_law T F__law_adds F__law_number F__law_orders F__law_take F__law_well F_minus F_number_of FD15) lawSp_E
end K03
open PySem PySem.W PySem.Calls PyProof.Rows
set_option maxRecDepth 100000 in
set_option maxHeartbeats 0 in
theorem PySem.Challenge.cw_fitwhatever_k03_whole_numbers_of_any_siz_holds : PySem.Challenge.rw_fitwhatever_k03_whole_numbers_of_any_siz.Holds := by
  w_on; o_law
  refine HandSHeadRun.head_any (r := OpenLaw.row PySem.Challenge.rw_fitwhatever_k03_whole_numbers_of_any_siz) (q := view (OpenLaw.row PySem.Challenge.rw_fitwhatever_k03_whole_numbers_of_any_siz).prog [20]) (H := K03.hk) (ob := K03.ob) (M := 4000) (loose := (["FitError", "NoNumber", "is_whole", "common", "number_of", "plus", "minus", "times", "over", "is_less", "_law_well", "_law_take", "_law_common", "_law_num", "_law_number", "_law_adds", "_law_orders"] : List PySem.Str)) (d := HandSHeadRun.topDef (OpenLaw.row PySem.Challenge.rw_fitwhatever_k03_whole_numbers_of_any_siz).prog 20) (kwd := []) K03.ob_eq
    (by kernel_rfl) (fun s => by kernel_rfl) K03.run (by kernel_rfl) (by kernel_rfl) (by kernel_rfl) (by rfl) (by first | assumption | decide +kernel) (by decide +kernel) ⟨rfl, rfl, rfl, rfl, rfl, by decide +kernel⟩ ?hw ?hc
  case hw => w_witness2
  case hc =>
    refine L2.walk_ofE (l := PySem.Challenge.rw_fitwhatever_k03_whole_numbers_of_any_siz) (n := 63) (k := 5) (x := "_law_script") (CX := L2.CX0) rfl (by decide) (by kernel_rfl) ⟨rfl, by decide, by decide⟩ ?F ?X
    case X => exact fun _ _ _ _ z => z
    case F =>
      intro w mg fa h Y G hmg0
      obtain ⟨K, KX, c⟩ := Y
      have hmg : mg ("law" : PySem.Str) = some (.ref fa) := by
        have e : (HandSHeadRun.topDef (OpenLaw.row PySem.Challenge.rw_fitwhatever_k03_whole_numbers_of_any_siz).prog 20).name = ("law" : PySem.Str) := by kernel_rfl
        rw [← e]
        exact hmg0
      obtain ⟨fd, hb, hF⟩ := K03.facts (P := (PySem.Challenge.rw_fitwhatever_k03_whole_numbers_of_any_siz).prog) (w := w) KX G hmg c
      exact ⟨K, fd, K03.sp_law K, KX, hb, fun H a ns hl _ hS => TL.law_sp hl hS, hF⟩
