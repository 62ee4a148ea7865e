import PyProof.Rows.All
import Wide.All
import OpenK.AllK
import Wide.FinOn
import HandS.Base
import HandS.Call
import HandS.List
import HandS.Comp
import HandS.Ends
import HandS.Exc
import HandS.ExcOwn
import HandS.Words
import HandS.WordsList
import HandS.WordsExc
import HandS.IsInst
import HandS.Wide
import HandS.Flow
import HandS.Defaults
import HandS.ExcValue
import HandS.ExcIs
import HandS.TryOnly
import HandS.Dict
import HandS.Head0
import HandS.Head1
import HandS.Head2
import HandS.HeadEnd
import HandS.HeadHook1
import HandS.HeadHook2
import HandS.Deep
import HandS.Style
import HandS.More
import HandS.Text
import HandS.Zip
import PyProof.StrLawsJoin
import PySem.Challenge.RW_fitwhatever_k04_sums_made
import KE.KStateDown
import Lean
set_option Elab.async false
set_option linter.all false
set_option maxRecDepth 100000
set_option maxHeartbeats 1000000
namespace TL
open PySem PySem.Spec L2

/-! ## kinds of values, of owned things -/
structure Ty where
  p : V → Hp → Prop
  mono : ∀ {v : V} {F F' : Hp}, Same F F' → p v F → p v F'
structure OTy where
  p : HO → Hp → Prop
  mono : ∀ {o : HO} {F F' : Hp}, Same F F' → p o F → p o F'
abbrev Sto := List (Option Ty)
abbrev Own := List (Addr × OTy)

theorem same_new {H : Hp} {p : Addr} {o : HO} (h : H p = none) : Same H (upd H p o) := fun b u e => by
  rw [upd_ne (ne_of_none e h)]
  exact e

/-- F, the frozen part, and what is owned, in H -/
structure HS (D : Own) (H F : Hp) : Prop where
  sub : Same F H
  own : ∀ a O, (a, O) ∈ D → F a = none ∧ ∃ o, H a = some o ∧ O.p o F
  nd : (D.map (·.1)).Nodup

theorem HS.free {D : Own} {H F : Hp} (h : HS D H F) {p : Addr} (e : H p = none) : F p = none := h.sub.free e
theorem HS.notin {D : Own} {H F : Hp} (h : HS D H F) {p : Addr} (e : H p = none) : ∀ O, (p, O) ∉ D := fun O m => by
  obtain ⟨_, o, q, _⟩ := h.own p O m
  rw [e] at q; cases q
theorem HS.new {D : Own} {H F : Hp} (h : HS D H F) {p : Addr} {o : HO} {O : OTy} (e : H p = none) (q : O.p o F) : HS ((p, O) :: D) (upd H p o) F where
  sub := h.sub.trans (same_new e)
  own := fun a O' m => by
    rcases List.mem_cons.mp m with z | z
    · cases z
      exact ⟨h.free e, o, upd_same, q⟩
    · obtain ⟨n, u, hu, hp⟩ := h.own a O' z
      exact ⟨n, u, (same_new e) a u hu, hp⟩
  nd := by
    rw [List.map_cons, List.nodup_cons]
    refine ⟨fun m => ?_, h.nd⟩
    obtain ⟨⟨a, O'⟩, m1, m2⟩ := List.mem_map.mp m
    cases m2
    exact h.notin e O' m1
theorem HS.frz {D : Own} {H F : Hp} (h : HS D H F) {p : Addr} {o : HO} (e : H p = none) : HS D (upd H p o) (upd F p o) where
  sub := fun b u q => by
    by_cases z : b = p
    · subst z
      rw [upd_same] at q ⊢
      exact q
    · rw [upd_ne z] at q ⊢
      exact h.sub b u q
  own := fun a O' m => by
    obtain ⟨n, u, hu, hp⟩ := h.own a O' m
    have z : a ≠ p := ne_of_none hu e
    refine ⟨by rw [upd_ne z]; exact n, u, by rw [upd_ne z]; exact hu, O'.mono (same_new (h.free e)) hp⟩
  nd := h.nd
theorem HS.at {D : Own} {H F : Hp} (h : HS D H F) {k : Nat} {a : Addr} {O : OTy} (e : D[k]? = some (a, O)) : ∃ o, H a = some o ∧ O.p o F := (h.own a O (List.mem_of_getElem? e)).2
theorem own_uniq {D : Own} (nd : (D.map (·.1)).Nodup) {k j : Nat} {a : Addr} {O O' : OTy} (e : D[k]? = some (a, O)) (e' : D[j]? = some (a, O')) : k = j :=
  nd_ix nd (x := a) (by rw [List.getElem?_map, e]; rfl) (by rw [List.getElem?_map, e']; rfl)
theorem HS.put {D : Own} {H F : Hp} (h : HS D H F) {k : Nat} {a : Addr} {O O' : OTy} {o : HO} (e : D[k]? = some (a, O)) (q : O'.p o F) : HS (D.set k (a, O')) (upd H a o) F where
  sub := fun b u z => by
    have n := (h.own a O (List.mem_of_getElem? e)).1
    have z2 : b ≠ a := ne_of_none z n
    rw [upd_ne z2]
    exact h.sub b u z
  own := fun b O2 m => by
    obtain ⟨j, hj⟩ := List.getElem?_of_mem m
    by_cases z : j = k
    · subst z
      have lt : j < D.length := (List.getElem?_eq_some_iff.mp e).1
      rw [List.getElem?_set_self lt] at hj
      cases hj
      exact ⟨(h.own _ O (List.mem_of_getElem? e)).1, o, upd_same, q⟩
    · rw [List.getElem?_set_ne (Ne.symm z)] at hj
      obtain ⟨n, u, hu, hp⟩ := h.own b O2 (List.mem_of_getElem? hj)
      have nz : b ≠ a := fun q => by
        subst q
        exact z (own_uniq h.nd hj e)
      exact ⟨n, u, by rw [upd_ne nz]; exact hu, hp⟩
  nd := by
    have : (D.set k (a, O')).map (·.1) = D.map (·.1) := by
      rw [List.map_set]
      refine List.ext_getElem? fun i => ?_
      by_cases z : i = k
      · subst z
        have lt : i < (D.map (·.1)).length := by rw [List.length_map]; exact (List.getElem?_eq_some_iff.mp e).1
        rw [List.getElem?_set_self lt, List.getElem?_map, e]
        rfl
      · rw [List.getElem?_set_ne (Ne.symm z)]
    rw [this]
    exact h.nd
theorem HS.drop {D D' : Own} {H F : Hp} (h : HS D H F) (s : D'.Sublist D) : HS D' H F where
  sub := h.sub
  own := fun a O m => h.own a O (s.subset m)
  nd := (s.map _).nodup h.nd
/-- an owned thing is frozen -/
theorem HS.freeze {D : Own} {H F : Hp} (h : HS D H F) {k : Nat} {a : Addr} {O : OTy} (e : D[k]? = some (a, O)) : ∃ o, O.p o F ∧ HS (D.eraseIdx k) H (upd F a o) ∧ Same F (upd F a o) := by
  obtain ⟨n, o, ho, hp⟩ := h.own a O (List.mem_of_getElem? e)
  refine ⟨o, hp, ?_, same_new n⟩
  have sl : (D.eraseIdx k).Sublist D := List.eraseIdx_sublist _ _
  refine ⟨fun b u q => ?_, fun b O2 m => ?_, (sl.map _).nodup h.nd⟩
  · by_cases z : b = a
    · subst z
      rw [upd_same] at q
      rw [← q]; exact ho
    · rw [upd_ne z] at q
      exact h.sub b u q
  · obtain ⟨n2, u, hu, hp2⟩ := h.own b O2 (sl.subset m)
    have nz : b ≠ a := fun q => by
      subst q
      obtain ⟨j, hj⟩ := List.getElem?_of_mem m
      rw [List.getElem?_eraseIdx] at hj
      split at hj
      · rename_i lt
        have := own_uniq h.nd hj e
        omega
      · rename_i lt
        have := own_uniq h.nd hj e
        omega
    exact ⟨by rw [upd_ne nz]; exact n2, u, hu, O2.mono (same_new n) hp2⟩

/-- the slots -/
inductive SS (F : Hp) : Sto → St → Prop
  | nil : SS F [] []
  | non {G : Sto} {σ : St} {x : Option V} : SS F G σ → SS F (none :: G) (x :: σ)
  | som {G : Sto} {σ : St} {R : Ty} {v : V} : R.p v F → SS F G σ → SS F (some R :: G) (some v :: σ)
theorem SS.mono {F F' : Hp} {G : Sto} {σ : St} (h : SS F G σ) (s : Same F F') : SS F' G σ := by
  induction h with
  | nil => exact .nil
  | non _ ih => exact .non ih
  | som r _ ih => exact .som (Ty.mono _ s r) ih
theorem SS.get {F : Hp} {G : Sto} {σ : St} (h : SS F G σ) : ∀ {i : Nat} {R : Ty}, G[i]? = some (some R) → ∃ v, σ[i]? = some (some v) ∧ R.p v F := by
  induction h with
  | nil => intro i R e; simp at e
  | non _ ih =>
    intro i R e
    cases i with
    | zero => simp at e
    | succ i => simpa using ih (by simpa using e)
  | som r _ ih =>
    intro i R e
    cases i with
    | zero =>
      simp at e
      subst e
      exact ⟨_, by simp, r⟩
    | succ i => simpa using ih (by simpa using e)
theorem SS.set {F : Hp} {G : Sto} {σ : St} {R : Ty} {v : V} (h : SS F G σ) (r : R.p v F) : ∀ (i : Nat), SS F (G.set i (some R)) (σ.set i (some v)) := by
  induction h with
  | nil => intro i; exact .nil
  | non h ih =>
    intro i
    cases i with
    | zero => exact .som r h
    | succ i => exact .non (ih i)
  | som q h ih =>
    intro i
    cases i with
    | zero => exact .som r h
    | succ i => exact .som q (ih i)
theorem SS.unset {F : Hp} {G : Sto} {σ : St} {x : Option V} (h : SS F G σ) : ∀ (i : Nat), SS F (G.set i none) (σ.set i x) := by
  induction h with
  | nil => intro i; exact .nil
  | non h ih =>
    intro i
    cases i with
    | zero => exact .non h
    | succ i => exact .non (ih i)
  | som q h ih =>
    intro i
    cases i with
    | zero => exact .non h
    | succ i => exact .som q (ih i)
/-- G' says less than G -/
inductive SLe : Sto → Sto → Prop
  | nil : SLe [] []
  | drop {G G' : Sto} {x : Option Ty} : SLe G G' → SLe (x :: G) (none :: G')
  | imp {G G' : Sto} {R R' : Ty} : (∀ v F, R.p v F → R'.p v F) → SLe G G' → SLe (some R :: G) (some R' :: G')
theorem SLe.refl : ∀ (G : Sto), SLe G G
  | [] => .nil
  | none :: G => .drop (SLe.refl G)
  | some R :: G => .imp (fun _ _ h => h) (SLe.refl G)
theorem SS.weak {F : Hp} {G G' : Sto} (l : SLe G G') : ∀ {σ : St}, SS F G σ → SS F G' σ := by
  induction l with
  | nil => intro σ h; exact h
  | drop _ ih =>
    intro σ h
    cases h with
    | non h => exact .non (ih h)
    | som r h => exact .non (ih h)
  | imp f _ ih =>
    intro σ h
    cases h with
    | som r h => exact .som (f _ _ r) (ih h)
theorem SS.len {F : Hp} {G : Sto} {σ : St} (h : SS F G σ) : σ.length = G.length := by
  induction h with
  | nil => rfl
  | non _ ih => simp [ih]
  | som _ _ ih => simp [ih]

inductive AllP (F : Hp) : List Ty → List V → Prop
  | nil : AllP F [] []
  | cons {R : Ty} {Rs : List Ty} {v : V} {vs : List V} : R.p v F → AllP F Rs vs → AllP F (R :: Rs) (v :: vs)
theorem AllP.mono {F F' : Hp} {Rs : List Ty} {vs : List V} (h : AllP F Rs vs) (s : Same F F') : AllP F' Rs vs := by
  induction h with
  | nil => exact .nil
  | cons r _ ih => exact .cons (Ty.mono _ s r) ih
theorem AllP.len {F : Hp} {Rs : List Ty} {vs : List V} (h : AllP F Rs vs) : vs.length = Rs.length := by
  induction h with
  | nil => rfl
  | cons _ _ ih => simp [ih]
theorem AllP.get {F : Hp} {Rs : List Ty} {vs : List V} (h : AllP F Rs vs) : ∀ {i : Nat} {R : Ty}, Rs[i]? = some R → ∃ v, vs[i]? = some v ∧ R.p v F := by
  induction h with
  | nil => intro i R e; simp at e
  | cons r _ ih =>
    intro i R e
    cases i with
    | zero => simp at e; subst e; exact ⟨_, by simp, r⟩
    | succ i => simpa using ih (by simpa using e)
theorem AllP.append {F : Hp} {Rs Rs' : List Ty} {vs vs' : List V} (h : AllP F Rs vs) (h' : AllP F Rs' vs') : AllP F (Rs ++ Rs') (vs ++ vs') := by
  induction h with
  | nil => exact h'
  | cons r _ ih => exact .cons r ih
theorem SS.start {F : Hp} {Rs : List Ty} {vs : List V} {N : List Str} (h : AllP F Rs vs) : SS F (Rs.map some ++ List.replicate (N.length - vs.length) none) (L2.start N vs) := by
  unfold L2.start
  generalize N.length - vs.length = m
  induction h with
  | nil =>
    induction m with
    | zero => exact .nil
    | succ m ih => exact .non ih
  | cons r _ ih => exact .som r ih

/-! ## judgements -/
def Ev (te : TE) (G : Sto) (D : Own) (R : Ty) (D' : Own) : Prop :=
  ∀ (σ : St) (H F : Hp), HS D H F → SS F G σ → ∀ Q : VK, (∀ v H' F', Same F F' → HS D' H' F' → R.p v F' → Q v H') → te σ H Q
def EvT (tt : TT) (G : Sto) (D : Own) (b : Bool) (D' : Own) : Prop :=
  ∀ (σ : St) (H F : Hp), HS D H F → SS F G σ → ∀ Q : Bool → Hp → Prop, (∀ H' F', Same F F' → HS D' H' F' → Q b H') → tt σ H Q
def EvA (ta : TA) (G : Sto) (D : Own) (Rs : List Ty) (D' : Own) : Prop :=
  ∀ (σ : St) (H F : Hp), HS D H F → SS F G σ → ∀ Q : List V → Hp → Prop, (∀ vs H' F', Same F F' → HS D' H' F' → AllP F' Rs vs → Q vs H') → ta σ H Q
/-- a new owned thing at p -/
def EvN (te : TE) (G : Sto) (D : Own) (O : OTy) (D' : Own) : Prop :=
  ∀ (σ : St) (H F : Hp), HS D H F → SS F G σ → ∀ Q : VK, (∀ p H' F', Same F F' → HS ((p, O) :: D') H' F' → Q (.ref p) H') → te σ H Q

def StP (F0 : Hp) (G : Sto) (D : Own) : St → Hp → Prop := fun σ H => ∃ F, Same F0 F ∧ HS D H F ∧ SS F G σ
/-- from G, D: P -/
def Go (P : St → Hp → Prop) (F0 : Hp) (G : Sto) (D : Own) : Prop := ∀ σ H F, Same F0 F → HS D H F → SS F G σ → P σ H
def GoV (P : VK) (F0 : Hp) (R : Ty) (D : Own) : Prop := ∀ v H F, Same F0 F → HS D H F → R.p v F → P v H
/-- an exception of the class c leaves -/
def GoX (P : XK) (F0 : Hp) (c : Value) (D : Own) : Prop := ∀ H F, Same F0 F → HS D H F → P c none H
theorem Go.of_sp {F0 : Hp} {G : Sto} {D : Own} : Go (StP F0 G D) F0 G D := fun σ H F s h ss => ⟨F, s, h, ss⟩
theorem Go.weak {P : St → Hp → Prop} {F0 : Hp} {G G' : Sto} {D D' : Own} (h : Go P F0 G' D') (l : SLe G G') (d : D'.Sublist D) : Go P F0 G D :=
  fun σ H F s hs ss => h σ H F s (hs.drop d) (ss.weak l)
theorem Go.mono {P P' : St → Hp → Prop} {F0 : Hp} {G : Sto} {D : Own} (h : Go P F0 G D) (f : ∀ σ H, P σ H → P' σ H) : Go P' F0 G D := fun σ H F s hs ss => f _ _ (h σ H F s hs ss)

/-! ## data -/
mutual
theorem dp_mono {K : PySem.W.Frag} {F F' : Hp} (s : Same F F') : ∀ (d : PyData) (v : V), Dp K F v d → Dp K F' v d
  | .none, _, h => by cases h; exact .non
  | .bool b, _, h => by cases h; exact .bl b
  | .int i, _, h => by cases h; exact .int i
  | .str x, _, h => by cases h; exact .str x
  | .list ds, _, h => by
    cases h with
    | lst h1 h2 => exact .lst (s.seq h1) (dpAll_mono s ds _ h2)
  | .tuple ds, _, h => by
    cases h with
    | tup h1 h2 =>
      refine .tup ?_ (dpAll_mono s ds _ h2)
      rcases h1 with (h1 | ⟨o, h1⟩) | h1
      · exact .inl (.inl (s _ _ h1))
      · exact .inl (.inr ⟨o, s _ _ h1⟩)
      · exact .inr h1
  | .dict _, _, h => by cases h
theorem dpAll_mono {K : PySem.W.Frag} {F F' : Hp} (s : Same F F') : ∀ (ds : List PyData) (vs : List V), DpAll K F vs ds → DpAll K F' vs ds
  | [], _, h => by cases h; exact .nil
  | d :: ds, _, h => by
    cases h with
    | cons h1 h2 => exact .cons (dp_mono s d _ h1) (dpAll_mono s ds _ h2)
end
/-- v is the data d -/
def D (K : PySem.W.Frag) (d : PyData) : Ty := ⟨fun v F => Dp K F v d, fun s h => dp_mono s d _ h⟩
abbrev DI (K : PySem.W.Frag) (i : Int) : Ty := D K (.int i)
abbrev DB (K : PySem.W.Frag) (b : Bool) : Ty := D K (.bool b)
abbrev DS (K : PySem.W.Frag) (x : Str) : Ty := D K (.str x)
abbrev DN (K : PySem.W.Frag) : Ty := D K .none
/-- any value -/
def Any : Ty := ⟨fun _ _ => True, fun _ _ => trivial⟩
/-- just this value -/
def Is (v : V) : Ty := ⟨fun w _ => w = v, fun _ h => h⟩
/-- an owned list of data -/
def OL (K : PySem.W.Frag) (ds : List PyData) : OTy := ⟨fun o F => ∃ xs, o = .lst xs ∧ DpAll K F xs ds, fun s ⟨xs, e, h⟩ => ⟨xs, e, dpAll_mono s ds xs h⟩⟩
section
variable {K : PySem.W.Frag} {F : Hp} {v : V}
theorem dp_int {i : Int} (h : (DI K i).p v F) : v = .int i := by cases h; rfl
theorem dp_bl {b : Bool} (h : (DB K b).p v F) : v = .bl b := by cases h; rfl
theorem dp_str {x : Str} (h : (DS K x).p v F) : v = .str x := by cases h; rfl
theorem dp_non (h : (DN K).p v F) : v = .non := by cases h; rfl
theorem dp_tup {ds : List PyData} (h : (D K (.tuple ds)).p v F) : ∃ a xs, v = .ref a ∧ SqT K F a xs ∧ DpAll K F xs ds := by
  cases h with
  | tup h1 h2 => exact ⟨_, _, rfl, h1, h2⟩
theorem dp_lst {ds : List PyData} (h : (D K (.list ds)).p v F) : ∃ a xs, v = .ref a ∧ SqL K F a xs ∧ DpAll K F xs ds := by
  cases h with
  | lst h1 h2 => exact ⟨_, _, rfl, h1, h2⟩
theorem same_sqT {F F' : Hp} {a : Addr} {xs : List V} (s : Same F F') (h : SqT K F a xs) : SqT K F' a xs := by
  rcases h with (h1 | ⟨o, h1⟩) | h1
  · exact .inl (.inl (s _ _ h1))
  · exact .inl (.inr ⟨o, s _ _ h1⟩)
  · exact .inr h1
theorem dpAll_get : ∀ {ds : List PyData} {vs : List V}, DpAll K F vs ds → ∀ {i : Nat} {d : PyData}, ds[i]? = some d → ∃ v, vs[i]? = some v ∧ Dp K F v d
  | [], _, h, i, d, e => by simp at e
  | a :: ds, _, h, i, d, e => by
    cases h with
    | cons h1 h2 =>
      cases i with
      | zero => simp at e; subst e; exact ⟨_, by simp, h1⟩
      | succ i =>
        obtain ⟨v, h3, h4⟩ := dpAll_get h2 (i := i) (d := d) (by simpa using e)
        exact ⟨v, by simpa using h3, h4⟩
theorem dpAll_len : ∀ {ds : List PyData} {vs : List V}, DpAll K F vs ds → vs.length = ds.length
  | [], _, h => by cases h; rfl
  | a :: ds, _, h => by
    cases h with
    | cons h1 h2 => simp [dpAll_len h2]
theorem dpAll_append : ∀ {ds : List PyData} {vs : List V} {es : List PyData} {ws : List V}, DpAll K F vs ds → DpAll K F ws es → DpAll K F (vs ++ ws) (ds ++ es)
  | [], _, _, _, h, h' => by cases h; exact h'
  | a :: ds, _, _, _, h, h' => by
    cases h with
    | cons h1 h2 => exact .cons h1 (dpAll_append h2 h')
theorem dpAll_set {d : PyData} {v : V} (hv : Dp K F v d) : ∀ {ds : List PyData} {vs : List V}, DpAll K F vs ds → ∀ (i : Nat), DpAll K F (vs.set i v) (ds.set i d)
  | [], _, h, i => by cases h; exact .nil
  | a :: ds, _, h, i => by
    cases h with
    | cons h1 h2 =>
      cases i with
      | zero => exact .cons hv h2
      | succ i => exact .cons h1 (dpAll_set hv h2 i)
theorem allP_dp : ∀ {ds : List PyData} {vs : List V}, AllP F (ds.map (D K)) vs → DpAll K F vs ds
  | [], _, h => by cases h; exact .nil
  | a :: ds, _, h => by
    cases h with
    | cons h1 h2 => exact .cons h1 (allP_dp h2)
end
end TL

set_option Elab.async false
set_option linter.all false
set_option maxRecDepth 100000
set_option maxHeartbeats 1000000
namespace TL
open PySem PySem.Spec L2
section
variable {K : PySem.W.Frag} {G : Sto} {D0 D1 D2 D3 : Own} {te ta tb tc : TE} {tt tu : TT} {R Ra Rb : Ty}

/-! ## expressions -/
theorem ev_var {i : Nat} (h : G[i]? = some (some R)) : Ev (tVar i) G D0 R D0 := fun σ H F hs ss Q q => by
  obtain ⟨v, e, r⟩ := ss.get h
  exact ⟨v, e, q v H F (Same.refl _) hs r⟩
theorem ev_c {v : V} (h : ∀ F, R.p v F) : Ev (tC v) G D0 R D0 := fun σ H F hs ss Q q => q v H F (Same.refl _) hs (h F)
theorem ev_int {i : Int} : Ev (tC (.int i)) G D0 (DI K i) D0 := ev_c fun _ => .int i
theorem ev_bl {b : Bool} : Ev (tC (.bl b)) G D0 (DB K b) D0 := ev_c fun _ => .bl b
theorem ev_str {x : Str} : Ev (tC (.str x)) G D0 (DS K x) D0 := ev_c fun _ => .str x
theorem ev_non : Ev (tC .non) G D0 (DN K) D0 := ev_c fun _ => .non
theorem ev_imp (h : Ev te G D0 R D1) (f : ∀ v F, R.p v F → Ra.p v F) : Ev te G D0 Ra D1 := fun σ H F hs ss Q q =>
  h σ H F hs ss Q fun v H' F' s hs' r => q v H' F' s hs' (f v F' r)
theorem ev_eq (h : Ev te G D0 R D1) (e : R = Ra) : Ev te G D0 Ra D1 := e ▸ h
theorem ev_d {d e : PyData} (h : Ev te G D0 (D K d) D1) (q : d = e) : Ev te G D0 (D K e) D1 := q ▸ h
theorem evT_b {b c : Bool} (h : EvT tt G D0 b D1) (q : b = c) : EvT tt G D0 c D1 := q ▸ h
/-- two in a row -/
theorem ev2 {r : R2} (ha : Ev ta G D0 Ra D1) (hb : Ev tb G D1 Rb D2) (hr : ∀ x y H F, HS D2 H F → Ra.p x F → Rb.p y F → ∀ Q : VK, (∀ v H' F', Same F F' → HS D3 H' F' → R.p v F' → Q v H') → r x y H Q) : Ev (tOp r ta tb) G D0 R D3 := fun σ H F hs ss Q q =>
  ha σ H F hs ss _ fun x H1 F1 s1 hs1 r1 => hb σ H1 F1 hs1 (ss.mono s1) _ fun y H2 F2 s2 hs2 r2 =>
    hr x y H2 F2 hs2 (Ra.mono s2 r1) r2 Q fun v H3 F3 s3 => q v H3 F3 ((s1.trans s2).trans s3)
theorem ev1 {r : V → Hp → VK → Prop} (ha : Ev ta G D0 Ra D1) (hr : ∀ x H F, HS D1 H F → Ra.p x F → ∀ Q : VK, (∀ v H' F', Same F F' → HS D3 H' F' → R.p v F' → Q v H') → r x H Q) : Ev (tUn r ta) G D0 R D3 := fun σ H F hs ss Q q =>
  ha σ H F hs ss _ fun x H1 F1 s1 hs1 r1 => hr x H1 F1 hs1 r1 Q fun v H3 F3 s3 => q v H3 F3 (s1.trans s3)
theorem ev_opI0 {g : Int → Int → Int} {i j : Int} (ha : Ev ta G D0 (DI K i) D1) (hb : Ev tb G D1 (DI K j) D2) : Ev (tOp (rI0 fun i j => .int (g i j)) ta tb) G D0 (DI K (g i j)) D2 :=
  ev2 ha hb fun x y H F hs rx ry Q q => by
    rw [dp_int rx, dp_int ry]
    exact ⟨i, j, rfl, rfl, q _ H F (Same.refl _) hs (.int _)⟩
theorem ev_opI {C : Int → Int → Prop} {g : Int → Int → Int} {i j : Int} (ha : Ev ta G D0 (DI K i) D1) (hb : Ev tb G D1 (DI K j) D2) (c : C i j) : Ev (tOp (rI C fun i j => .int (g i j)) ta tb) G D0 (DI K (g i j)) D2 :=
  ev2 ha hb fun x y H F hs rx ry Q q => by
    rw [dp_int rx, dp_int ry]
    exact ⟨i, j, rfl, rfl, c, q _ H F (Same.refl _) hs (.int _)⟩
theorem ev_opB0 {g : Int → Int → Bool} {i j : Int} (ha : Ev ta G D0 (DI K i) D1) (hb : Ev tb G D1 (DI K j) D2) : Ev (tOp (rI0 fun i j => .bl (g i j)) ta tb) G D0 (DB K (g i j)) D2 :=
  ev2 ha hb fun x y H F hs rx ry Q q => by
    rw [dp_int rx, dp_int ry]
    exact ⟨i, j, rfl, rfl, q _ H F (Same.refl _) hs (.bl _)⟩
theorem ev_unI {g : Int → Int} {i : Int} (ha : Ev ta G D0 (DI K i) D1) : Ev (tUn (rU fun i => .int (g i)) ta) G D0 (DI K (g i)) D1 :=
  ev1 ha fun x H F hs rx Q q => by
    rw [dp_int rx]
    exact ⟨i, rfl, q _ H F (Same.refl _) hs (.int _)⟩
/-! == of plain things -/
theorem ev_eqI {i j : Int} (ha : Ev ta G D0 (DI K i) D1) (hb : Ev tb G D1 (DI K j) D2) : Ev (tOp rEq ta tb) G D0 (DB K (decide (i = j))) D2 :=
  ev2 ha hb fun x y H F hs rx ry Q q => by
    rw [dp_int rx, dp_int ry]
    refine ⟨rfl, ?_⟩
    rw [dec_int, Bool.beq_eq_decide_eq]
    exact q _ H F (Same.refl _) hs (.bl _)
theorem ev_neI {i j : Int} (ha : Ev ta G D0 (DI K i) D1) (hb : Ev tb G D1 (DI K j) D2) : Ev (tOp rNe ta tb) G D0 (DB K (!decide (i = j))) D2 :=
  ev2 ha hb fun x y H F hs rx ry Q q => by
    rw [dp_int rx, dp_int ry]
    refine ⟨rfl, ?_⟩
    rw [dec_int, Bool.beq_eq_decide_eq]
    exact q _ H F (Same.refl _) hs (.bl _)
theorem ev_eqS {i j : Str} (ha : Ev ta G D0 (DS K i) D1) (hb : Ev tb G D1 (DS K j) D2) : Ev (tOp rEq ta tb) G D0 (DB K (decide (i = j))) D2 :=
  ev2 ha hb fun x y H F hs rx ry Q q => by
    rw [dp_str rx, dp_str ry]
    refine ⟨rfl, ?_⟩
    have e : decide (V.str i = V.str j) = decide (i = j) := by simp
    rw [e]
    exact q _ H F (Same.refl _) hs (.bl _)
theorem ev_neS {i j : Str} (ha : Ev ta G D0 (DS K i) D1) (hb : Ev tb G D1 (DS K j) D2) : Ev (tOp rNe ta tb) G D0 (DB K (!decide (i = j))) D2 :=
  ev2 ha hb fun x y H F hs rx ry Q q => by
    rw [dp_str rx, dp_str ry]
    refine ⟨rfl, ?_⟩
    have e : decide (V.str i = V.str j) = decide (i = j) := by simp
    rw [e]
    exact q _ H F (Same.refl _) hs (.bl _)
theorem ev_eqB {i j : Bool} (ha : Ev ta G D0 (DB K i) D1) (hb : Ev tb G D1 (DB K j) D2) : Ev (tOp rEq ta tb) G D0 (DB K (i == j)) D2 :=
  ev2 ha hb fun x y H F hs rx ry Q q => by
    rw [dp_bl rx, dp_bl ry]
    refine ⟨rfl, ?_⟩
    rw [dec_bl]
    exact q _ H F (Same.refl _) hs (.bl _)
theorem ev_neB {i j : Bool} (ha : Ev ta G D0 (DB K i) D1) (hb : Ev tb G D1 (DB K j) D2) : Ev (tOp rNe ta tb) G D0 (DB K (!(i == j))) D2 :=
  ev2 ha hb fun x y H F hs rx ry Q q => by
    rw [dp_bl rx, dp_bl ry]
    refine ⟨rfl, ?_⟩
    rw [dec_bl]
    exact q _ H F (Same.refl _) hs (.bl _)
/-! == of data -/
theorem dp_up {H F : Hp} {D : Own} (hs : HS D H F) {d : PyData} {v : V} (h : Dp K F v d) : Dp K H v d := dp_mono hs.sub d v h
theorem ev_eqD {d e : PyData} (ha : Ev ta G D0 (D K d) D1) (hb : Ev tb G D1 (D K e) D2) (sd : SeqAt.shaped d = true) (se : SeqAt.shaped e = true) : Ev (tOp (rEqD K) ta tb) G D0 (DB K (PyData.eqv d e)) D2 :=
  ev2 ha hb fun x y H F hs rx ry Q q => ⟨d, e, dp_up hs rx, dp_up hs ry, sd, se, q _ H F (Same.refl _) hs (.bl _)⟩
theorem ev_neD {d e : PyData} (ha : Ev ta G D0 (D K d) D1) (hb : Ev tb G D1 (D K e) D2) (sd : SeqAt.shaped d = true) (se : SeqAt.shaped e = true) : Ev (tOp (rNeD K) ta tb) G D0 (DB K (!PyData.eqv d e)) D2 :=
  ev2 ha hb fun x y H F hs rx ry Q q => ⟨d, e, dp_up hs rx, dp_up hs ry, sd, se, q _ H F (Same.refl _) hs (.bl _)⟩
/-! truth values -/
theorem ev_andV {a b : Bool} (ha : Ev ta G D0 (DB K a) D1) (hb : a = true → Ev tb G D1 (DB K b) D1) : Ev (tAndV ta tb) G D0 (DB K (a && b)) D1 := fun σ H F hs ss Q q =>
  ha σ H F hs ss _ fun x H1 F1 s1 hs1 r1 => by
    refine ⟨a, dp_bl r1, ?_⟩
    cases a with
    | true => exact hb rfl σ H1 F1 hs1 (ss.mono s1) Q fun v H2 F2 s2 h2 r2 => q v H2 F2 (s1.trans s2) h2 r2
    | false => exact q _ H1 F1 s1 hs1 (.bl _)
theorem ev_orV {a b : Bool} (ha : Ev ta G D0 (DB K a) D1) (hb : a = false → Ev tb G D1 (DB K b) D1) : Ev (tOrV ta tb) G D0 (DB K (a || b)) D1 := fun σ H F hs ss Q q =>
  ha σ H F hs ss _ fun x H1 F1 s1 hs1 r1 => by
    refine ⟨a, dp_bl r1, ?_⟩
    cases a with
    | false => exact hb rfl σ H1 F1 hs1 (ss.mono s1) Q fun v H2 F2 s2 h2 r2 => q v H2 F2 (s1.trans s2) h2 r2
    | true => exact q _ H1 F1 s1 hs1 (.bl _)
theorem ev_notV {a : Bool} (ha : Ev ta G D0 (DB K a) D1) : Ev (tNotV ta) G D0 (DB K (!a)) D1 := fun σ H F hs ss Q q =>
  ha σ H F hs ss _ fun x H1 F1 s1 hs1 r1 => ⟨a, dp_bl r1, q _ H1 F1 s1 hs1 (.bl _)⟩
theorem evT_test {b : Bool} (h : Ev te G D0 (DB K b) D1) : EvT (tTest te) G D0 b D1 := fun σ H F hs ss Q q =>
  h σ H F hs ss _ fun v H' F' s hs' r => ⟨b, dp_bl r, q H' F' s hs'⟩
theorem evT_B {b : Bool} (h : Ev te G D0 (DB K b) D1) : EvT (tB te) G D0 b D1 := fun σ H F hs ss Q q =>
  h σ H F hs ss _ fun v H' F' s hs' r => ⟨b, dp_bl r, q H' F' s hs'⟩
theorem evT_and {a b : Bool} (ha : EvT tt G D0 a D1) (hb : a = true → EvT tu G D1 b D1) : EvT (tAnd tt tu) G D0 (a && b) D1 := fun σ H F hs ss Q q =>
  ha σ H F hs ss _ fun H1 F1 s1 hs1 => by
    cases a with
    | true => exact hb rfl σ H1 F1 hs1 (ss.mono s1) Q fun H2 F2 s2 h2 => q H2 F2 (s1.trans s2) h2
    | false => exact q H1 F1 s1 hs1
theorem evT_or {a b : Bool} (ha : EvT tt G D0 a D1) (hb : a = false → EvT tu G D1 b D1) : EvT (tOr tt tu) G D0 (a || b) D1 := fun σ H F hs ss Q q =>
  ha σ H F hs ss _ fun H1 F1 s1 hs1 => by
    cases a with
    | false => exact hb rfl σ H1 F1 hs1 (ss.mono s1) Q fun H2 F2 s2 h2 => q H2 F2 (s1.trans s2) h2
    | true => exact q H1 F1 s1 hs1
theorem evT_not {a : Bool} (ha : EvT tt G D0 a D1) : EvT (tNot tt) G D0 (!a) D1 := fun σ H F hs ss Q q =>
  ha σ H F hs ss _ fun H1 F1 s1 hs1 => q H1 F1 s1 hs1
theorem ev_if {b : Bool} (hc : EvT tt G D0 b D1) (h1 : b = true → Ev ta G D1 R D2) (h2 : b = false → Ev tb G D1 R D2) : Ev (tIf tt ta tb) G D0 R D2 := fun σ H F hs ss Q q =>
  hc σ H F hs ss _ fun H1 F1 s1 hs1 => by
    cases b with
    | true => exact h1 rfl σ H1 F1 hs1 (ss.mono s1) Q fun v H2 F2 s2 h2 r2 => q v H2 F2 (s1.trans s2) h2 r2
    | false => exact h2 rfl σ H1 F1 hs1 (ss.mono s1) Q fun v H2 F2 s2 h2 r2 => q v H2 F2 (s1.trans s2) h2 r2
theorem ev_isN (h : Ev te G D0 (DN K) D1) : Ev (tIsN te) G D0 (DB K true) D1 := fun σ H F hs ss Q q =>
  h σ H F hs ss _ fun v H' F' s hs' r => by
    rw [dp_non r]
    exact q _ H' F' s hs' (.bl true)
theorem ev_isNot (h : Ev te G D0 R D1) (n : ∀ F, ¬ R.p .non F) : Ev (tIsN te) G D0 (DB K false) D1 := fun σ H F hs ss Q q =>
  h σ H F hs ss _ fun v H' F' s hs' r => by
    have e : decide (v = V.non) = false := decide_eq_false fun z => n F' (z ▸ r)
    show Q (.bl (decide (v = V.non))) H'
    rw [e]
    exact q _ H' F' s hs' (.bl false)
theorem ev_notN0 (h : Ev te G D0 (DN K) D1) : Ev (tNotN te) G D0 (DB K false) D1 := fun σ H F hs ss Q q =>
  h σ H F hs ss _ fun v H' F' s hs' r => by
    rw [dp_non r]
    exact q _ H' F' s hs' (.bl false)
theorem ev_notN (h : Ev te G D0 R D1) (n : ∀ F, ¬ R.p .non F) : Ev (tNotN te) G D0 (DB K true) D1 := fun σ H F hs ss Q q =>
  h σ H F hs ss _ fun v H' F' s hs' r => by
    have e : decide (v = V.non) = false := decide_eq_false fun z => n F' (z ▸ r)
    show Q (.bl (!decide (v = V.non))) H'
    rw [e]
    exact q _ H' F' s hs' (.bl true)

/-! ## arguments, displays -/
theorem evA_nil : EvA tNil G D0 [] D0 := fun σ H F hs ss Q q => q [] H F (Same.refl _) hs .nil
theorem evA_cons {tr : TA} {Rs : List Ty} (h : Ev te G D0 R D1) (hr : EvA tr G D1 Rs D2) : EvA (tCons te tr) G D0 (R :: Rs) D2 := fun σ H F hs ss Q q =>
  h σ H F hs ss _ fun v H1 F1 s1 hs1 r1 => hr σ H1 F1 hs1 (ss.mono s1) _ fun vs H2 F2 s2 hs2 r2 => q _ H2 F2 (s1.trans s2) hs2 (.cons (R.mono s2 r1) r2)
/-- data in arguments -/
def EvDs (K : PySem.W.Frag) (ta : TA) (G : Sto) (D0 : Own) (ds : List PyData) (D1 : Own) : Prop := EvA ta G D0 (ds.map (D K)) D1
theorem evD_nil : EvDs K tNil G D0 [] D0 := evA_nil
theorem evD_cons {tr : TA} {d : PyData} {ds : List PyData} (h : Ev te G D0 (D K d) D1) (hr : EvDs K tr G D1 ds D2) : EvDs K (tCons te tr) G D0 (d :: ds) D2 := evA_cons h hr
theorem sizeLine_big : 100000 ≤ sizeLine := by decide
theorem ev_tup {t : TA} {ds : List PyData} (h : EvDs K t G D0 ds D1) (hl : ds.length ≤ 100000) : Ev (tTup t) G D0 (D K (.tuple ds)) D1 := fun σ H F hs ss Q q =>
  h σ H F hs ss _ fun vs H1 F1 s1 hs1 r1 => by
    have r2 := allP_dp r1
    refine ⟨by rw [dpAll_len r2]; exact Nat.le_trans hl sizeLine_big, fun p hp => ?_⟩
    have s2 : Same F1 (upd F1 p (.tup vs)) := same_new (hs1.free hp)
    exact q _ _ _ (s1.trans s2) (hs1.frz hp) (.tup (SqT.of upd_same) (dpAll_mono s2 ds vs r2))
/-- a list that nobody changes -/
theorem ev_lst {t : TA} {ds : List PyData} (h : EvDs K t G D0 ds D1) (hl : ds.length ≤ 100000) : Ev (tLst t) G D0 (D K (.list ds)) D1 := fun σ H F hs ss Q q =>
  h σ H F hs ss _ fun vs H1 F1 s1 hs1 r1 => by
    have r2 := allP_dp r1
    refine ⟨by rw [dpAll_len r2]; exact Nat.le_trans hl sizeLine_big, fun p hp => ?_⟩
    have s2 : Same F1 (upd F1 p (.lst vs)) := same_new (hs1.free hp)
    exact q _ _ _ (s1.trans s2) (hs1.frz hp) (.lst (SqL.of upd_same) (dpAll_mono s2 ds vs r2))
/-- a list of one's own -/
theorem evN_lst {t : TA} {ds : List PyData} (h : EvDs K t G D0 ds D1) (hl : ds.length ≤ 100000) : EvN (tLst t) G D0 (OL K ds) D1 := fun σ H F hs ss Q q =>
  h σ H F hs ss _ fun vs H1 F1 s1 hs1 r1 => by
    have r2 := allP_dp r1
    refine ⟨by rw [dpAll_len r2]; exact Nat.le_trans hl sizeLine_big, fun p hp => ?_⟩
    exact q _ _ _ s1 (hs1.new hp ⟨vs, rfl, r2⟩)
/-- a new thing of one's own is frozen -/
theorem ev_of_N {ds : List PyData} (h : EvN te G D0 (OL K ds) D1) : Ev te G D0 (D K (.list ds)) D1 := fun σ H F hs ss Q q =>
  h σ H F hs ss _ fun p H1 F1 s1 hs1 => by
    obtain ⟨o, ⟨xs, e, hx⟩, hs2, s2⟩ := hs1.freeze (k := 0) rfl
    subst e
    exact q _ _ _ (s1.trans s2) hs2 (.lst (SqL.of upd_same) (dpAll_mono s2 ds xs hx))

/-! ## items -/
theorem sqT_up {H F : Hp} {D : Own} (hs : HS D H F) {a : Addr} {xs : List V} (h : SqT K F a xs) : SqT K H a xs := same_sqT hs.sub h
theorem sqL_up {H F : Hp} {D : Own} (hs : HS D H F) {a : Addr} {xs : List V} (h : SqL K F a xs) : SqL K H a xs := hs.sub.seq h
theorem atI_map {ds : List PyData} {vs : List V} {F : Hp} (h : DpAll K F vs ds) {i : Int} {d : PyData} (e : atI ds i = some d) : ∃ v, atI vs i = some v ∧ Dp K F v d := by
  unfold atI at e ⊢
  rw [dpAll_len h]
  cases q : ixN ds.length i with
  | none => rw [q] at e; cases e
  | some j =>
    rw [q] at e
    exact dpAll_get h e
theorem ev_ixT {ds : List PyData} {i : Int} {d : PyData} (ha : Ev ta G D0 (D K (.tuple ds)) D1) (hb : Ev tb G D1 (DI K i) D2) (e : atI ds i = some d) : Ev (tOp (rIxT K) ta tb) G D0 (D K d) D2 :=
  ev2 ha hb fun x y H F hs rx ry Q q => by
    obtain ⟨a, xs, rfl, h1, h2⟩ := dp_tup rx
    rw [dp_int ry]
    obtain ⟨v, e1, e2⟩ := atI_map h2 e
    exact ⟨a, xs, i, v, rfl, rfl, sqT_up hs h1, e1, q _ H F (Same.refl _) hs e2⟩
theorem ev_ixL {ds : List PyData} {i : Int} {d : PyData} (ha : Ev ta G D0 (D K (.list ds)) D1) (hb : Ev tb G D1 (DI K i) D2) (e : atI ds i = some d) : Ev (tOp (rIxL K) ta tb) G D0 (D K d) D2 :=
  ev2 ha hb fun x y H F hs rx ry Q q => by
    obtain ⟨a, xs, rfl, h1, h2⟩ := dp_lst rx
    rw [dp_int ry]
    obtain ⟨v, e1, e2⟩ := atI_map h2 e
    exact ⟨a, xs, i, v, rfl, rfl, sqL_up hs h1, e1, q _ H F (Same.refl _) hs e2⟩
/-- of an owned list, at k -/
theorem ev_ixO {ds : List PyData} {i : Int} {d : PyData} {k : Nat} {a : Addr} (ha : Ev ta G D0 (Is (.ref a)) D1) (hb : Ev tb G D1 (DI K i) D2) (hk : D2[k]? = some (a, OL K ds)) (e : atI ds i = some d) : Ev (tOp (rIxL K) ta tb) G D0 (D K d) D2 :=
  ev2 ha hb fun x y H F hs rx ry Q q => by
    have ex : x = .ref a := rx
    subst ex
    rw [dp_int ry]
    obtain ⟨o, ho, xs, rfl, h2⟩ := hs.at hk
    obtain ⟨v, e1, e2⟩ := atI_map h2 e
    exact ⟨a, xs, i, v, rfl, rfl, SqL.of ho, e1, q _ H F (Same.refl _) hs e2⟩
theorem atI_nil {α : Type} {i : Int} : atI ([] : List α) i = none := by
  unfold atI
  cases ixN ([] : List α).length i <;> simp

/-! ## built-ins -/
theorem evCB {r : List V → Hp → VK → Prop} {t : TA} {Rs : List Ty} (h : EvA t G D0 Rs D1) (hr : ∀ vs H F, HS D1 H F → AllP F Rs vs → ∀ Q : VK, (∀ v H' F', Same F F' → HS D2 H' F' → R.p v F' → Q v H') → r vs H Q) : Ev (tCB r t) G D0 R D2 := fun σ H F hs ss Q q =>
  h σ H F hs ss _ fun vs H1 F1 s1 hs1 r1 => hr vs H1 F1 hs1 r1 Q fun v H2 F2 s2 => q v H2 F2 (s1.trans s2)
theorem allP1 {F : Hp} {vs : List V} (h : AllP F [R] vs) : ∃ v, vs = [v] ∧ R.p v F := by
  cases h with
  | cons h1 h2 => cases h2; exact ⟨_, rfl, h1⟩
theorem allP2 {F : Hp} {vs : List V} (h : AllP F [Ra, Rb] vs) : ∃ v w, vs = [v, w] ∧ Ra.p v F ∧ Rb.p w F := by
  cases h with
  | cons h1 h2 =>
    obtain ⟨w, rfl, h3⟩ := allP1 h2
    exact ⟨_, _, rfl, h1, h3⟩
abbrev cAbs : List V → Hp → VK → Prop := fun xs H Q => ∃ i, xs = [.int i] ∧ Q (.int (if i < 0 then -i else i)) H
abbrev cMax2 : List V → Hp → VK → Prop := fun xs H Q => ∃ i j, xs = [.int i, .int j] ∧ Q (.int (if j > i then j else i)) H
abbrev cMin2 : List V → Hp → VK → Prop := fun xs H Q => ∃ i j, xs = [.int i, .int j] ∧ Q (.int (if j < i then j else i)) H
abbrev cInt1 : List V → Hp → VK → Prop := fun xs H Q => (∃ i, xs = [.int i] ∧ Q (.int i) H) ∨ ∃ k, xs = [.bl k] ∧ Q (.int (if k then 1 else 0)) H
abbrev cLen (K : PySem.W.Frag) : List V → Hp → VK → Prop := fun xs H Q => ∃ x n, xs = [x] ∧ LenV K x H n ∧ Q (.int n) H
theorem ev_abs {i : Int} (h : Ev te G D0 (DI K i) D1) : Ev (tCB cAbs (tCons te tNil)) G D0 (DI K (if i < 0 then -i else i)) D1 :=
  evCB (evA_cons h evA_nil) fun vs H F hs r Q q => by
    obtain ⟨v, rfl, h1⟩ := allP1 r
    rw [dp_int h1]
    exact ⟨i, rfl, q _ H F (Same.refl _) hs (.int _)⟩
theorem ev_max2 {i j : Int} (ha : Ev ta G D0 (DI K i) D1) (hb : Ev tb G D1 (DI K j) D2) : Ev (tCB cMax2 (tCons ta (tCons tb tNil))) G D0 (DI K (if j > i then j else i)) D2 :=
  evCB (evA_cons ha (evA_cons hb evA_nil)) fun vs H F hs r Q q => by
    obtain ⟨v, w, rfl, h1, h2⟩ := allP2 r
    rw [dp_int h1, dp_int h2]
    exact ⟨i, j, rfl, q _ H F (Same.refl _) hs (.int _)⟩
theorem ev_min2 {i j : Int} (ha : Ev ta G D0 (DI K i) D1) (hb : Ev tb G D1 (DI K j) D2) : Ev (tCB cMin2 (tCons ta (tCons tb tNil))) G D0 (DI K (if j < i then j else i)) D2 :=
  evCB (evA_cons ha (evA_cons hb evA_nil)) fun vs H F hs r Q q => by
    obtain ⟨v, w, rfl, h1, h2⟩ := allP2 r
    rw [dp_int h1, dp_int h2]
    exact ⟨i, j, rfl, q _ H F (Same.refl _) hs (.int _)⟩
theorem ev_intB {b : Bool} (h : Ev te G D0 (DB K b) D1) : Ev (tCB cInt1 (tCons te tNil)) G D0 (DI K (if b then 1 else 0)) D1 :=
  evCB (evA_cons h evA_nil) fun vs H F hs r Q q => by
    obtain ⟨v, rfl, h1⟩ := allP1 r
    rw [dp_bl h1]
    exact .inr ⟨b, rfl, q _ H F (Same.refl _) hs (.int _)⟩
theorem ev_lenT {ds : List PyData} (h : Ev te G D0 (D K (.tuple ds)) D1) : Ev (tCB (cLen K) (tCons te tNil)) G D0 (DI K ds.length) D1 :=
  evCB (evA_cons h evA_nil) fun vs H F hs r Q q => by
    obtain ⟨v, rfl, h1⟩ := allP1 r
    obtain ⟨a, xs, rfl, h2, h3⟩ := dp_tup h1
    exact ⟨_, ds.length, rfl, .inr ⟨xs, sqT_up hs h2, (dpAll_len h3).symm⟩, q _ H F (Same.refl _) hs (.int _)⟩
theorem ev_lenL {ds : List PyData} (h : Ev te G D0 (D K (.list ds)) D1) : Ev (tCB (cLen K) (tCons te tNil)) G D0 (DI K ds.length) D1 :=
  evCB (evA_cons h evA_nil) fun vs H F hs r Q q => by
    obtain ⟨v, rfl, h1⟩ := allP1 r
    obtain ⟨a, xs, rfl, h2, h3⟩ := dp_lst h1
    exact ⟨_, ds.length, rfl, .inl ⟨xs, sqL_up hs h2, (dpAll_len h3).symm⟩, q _ H F (Same.refl _) hs (.int _)⟩
end
end TL

set_option Elab.async false
set_option linter.all false
set_option maxRecDepth 100000
set_option maxHeartbeats 1000000
namespace TL
open PySem PySem.Spec L2
section
variable {K : PySem.W.Frag} {G G1 G2 : Sto} {D0 D1 D2 D3 : Own} {te ta tb tc : TE} {tt tu : TT} {R Ra Rb : Ty} {E En : Ends} {F0 F1 : Hp} {t u : TS}

theorem Go.up {P : St → Hp → Prop} (h : Go P F0 G D0) (s : Same F0 F1) : Go P F1 G D0 := fun σ H F s1 => h σ H F (s.trans s1)
theorem GoV.up {P : VK} (h : GoV P F0 R D0) (s : Same F0 F1) : GoV P F1 R D0 := fun v H F s1 => h v H F (s.trans s1)
theorem GoX.up {P : XK} {c : Value} (h : GoX P F0 c D0) (s : Same F0 F1) : GoX P F1 c D0 := fun H F s1 => h H F (s.trans s1)
theorem GoV.imp {P : VK} (h : GoV P F0 R D0) (f : ∀ v F, Ra.p v F → R.p v F) : GoV P F0 Ra D0 := fun v H F s hs r => h v H F s hs (f v F r)
theorem GoV.drop {P : VK} (h : GoV P F0 R D1) (s : D1.Sublist D0) : GoV P F0 R D0 := fun v H F s1 hs r => h v H F s1 (hs.drop s) r
theorem Ev.drop (h : Ev te G D0 R D1) (s : D2.Sublist D1) : Ev te G D0 R D2 := fun σ H F hs ss Q q => h σ H F hs ss Q fun v H' F' s1 hs' r => q v H' F' s1 (hs'.drop s) r

/-! ## statements -/
theorem go_seq (h : Go (t { E with nx := u E }) F0 G D0) : Go (tSeq t u E) F0 G D0 := h
theorem go_next (h : Go E.nx F0 G D0) : Go (tNext E) F0 G D0 := h
theorem go_brk (h : Go E.bk F0 G D0) : Go (tBreak E) F0 G D0 := h
theorem go_cont (h : Go E.ct F0 G D0) : Go (tCont E) F0 G D0 := h
theorem go_if {b : Bool} (hc : EvT tt G D0 b D1) (h1 : b = true → Go (t E) F0 G D1) (h2 : b = false → Go (u E) F0 G D1) : Go (tIfS tt t u E) F0 G D0 := fun σ H F s hs ss =>
  hc σ H F hs ss _ fun H1 F2 s1 hs1 => by
    cases b with
    | true => exact h1 rfl σ H1 F2 (s.trans s1) hs1 (ss.mono s1)
    | false => exact h2 rfl σ H1 F2 (s.trans s1) hs1 (ss.mono s1)
theorem go_ret (h : Ev te G D0 R D1) (k : GoV E.rt F0 R D1) : Go (tRet te E) F0 G D0 := fun σ H F s hs ss =>
  h σ H F hs ss _ fun v H1 F1 s1 hs1 r1 => k v H1 F1 (s.trans s1) hs1 r1
theorem go_retN (k : GoV E.rt F0 (DN K) D0) : Go (tRetN E) F0 G D0 := fun σ H F s hs ss => k _ H F s hs .non
theorem go_drop (h : Ev te G D0 R D1) (k : Go E.nx F0 G D1) : Go (tDrop te E) F0 G D0 := fun σ H F s hs ss =>
  h σ H F hs ss _ fun v H1 F1 s1 hs1 r1 => k σ H1 F1 (s.trans s1) hs1 (ss.mono s1)
/-- what a target does with a value of a kind -/
def EvG (g : TG) (G : Sto) (R : Ty) (G1 : Sto) : Prop := ∀ (v : V) (σ : St) (H F : Hp) (D : Own), HS D H F → SS F G σ → R.p v F → ∀ Q : St → Hp → Prop, (∀ σ', SS F G1 σ' → Q σ' H) → g v σ H Q
def EvGs (K : PySem.W.Frag) (g : TGs) (G : Sto) (ds : List PyData) (G1 : Sto) : Prop := ∀ (vs : List V) (σ : St) (H F : Hp) (D : Own), HS D H F → SS F G σ → DpAll K F vs ds → ∀ Q : St → Hp → Prop, (∀ σ', SS F G1 σ' → Q σ' H) → g vs σ H Q
theorem evG_name {i : Nat} : EvG (gName i) G R (G.set i (some R)) := fun v σ H F D hs ss r Q q => q _ (ss.set r i)
theorem evGs_nil : EvGs K gNil G [] G := fun vs σ H F D hs ss r Q q => by
  cases r
  exact ⟨rfl, q _ ss⟩
theorem evGs_cons {g : TG} {gs : TGs} {d : PyData} {ds : List PyData} (h1 : EvG g G (TL.D K d) G1) (h2 : EvGs K gs G1 ds G2) : EvGs K (gCons g gs) G (d :: ds) G2 := fun vs σ H F D hs ss r Q q => by
  cases r with
  | cons r1 r2 => exact ⟨_, _, rfl, h1 _ σ H F D hs ss r1 _ fun σ' ss' => h2 _ σ' H F D hs ss' r2 Q q⟩
theorem evG_tup {gs : TGs} {ds : List PyData} {n : Nat} (h : EvGs K gs G ds G1) (hn : ds.length = n) : EvG (gTup K n gs) G (TL.D K (.tuple ds)) G1 := fun v σ H F D hs ss r Q q => by
  obtain ⟨a, xs, rfl, h1, h2⟩ := dp_tup r
  exact ⟨a, xs, rfl, sqT_up hs h1, (dpAll_len h2).trans hn, h xs σ H F D hs ss h2 Q q⟩
theorem go_asg {g : TG} (h : Ev te G D0 R D1) (hg : EvG g G R G1) (k : Go E.nx F0 G1 D1) : Go (tAsg te g E) F0 G D0 := fun σ H F s hs ss =>
  h σ H F hs ss _ fun v H1 F1 s1 hs1 r1 => hg v σ H1 F1 D1 hs1 (ss.mono s1) r1 _ fun σ' ss' => k σ' H1 F1 (s.trans s1) hs1 ss'
theorem go_set {i : Nat} (h : Ev te G D0 R D1) (k : Go E.nx F0 (G.set i (some R)) D1) : Go (tAsg te (gName i) E) F0 G D0 := go_asg h evG_name k
/-- a new owned thing at a name -/
theorem go_setN {i : Nat} {O : OTy} (h : EvN te G D0 O D1) (k : ∀ p, Go E.nx F0 (G.set i (some (Is (.ref p)))) ((p, O) :: D1)) : Go (tAsg te (gName i) E) F0 G D0 := fun σ H F s hs ss =>
  h σ H F hs ss _ fun p H1 F1 s1 hs1 => k p _ H1 F1 (s.trans s1) hs1 ((ss.mono s1).set (R := Is (.ref p)) rfl i)
theorem go_par {i j : Nat} {t : TA} (h : EvA t G D0 [Ra, Rb] D1) (k : Go E.nx F0 ((G.set i (some Ra)).set j (some Rb)) D1) : Go (tPar i j t E) F0 G D0 := fun σ H F s hs ss =>
  h σ H F hs ss _ fun vs H1 F1 s1 hs1 r1 => by
    obtain ⟨v, w, rfl, r2, r3⟩ := allP2 r1
    exact ⟨v, w, rfl, k _ H1 F1 (s.trans s1) hs1 (((ss.mono s1).set r2 i).set r3 j)⟩
/-- xs[i] = e, xs owned -/
theorem go_setO {ds : List PyData} {i : Int} {j k : Nat} {a : Addr} {d : PyData} (h : Ev te G D0 (TL.D K d) D1) (ho : Ev ta G D1 (Is (.ref a)) D2) (hi : Ev tb G D2 (DI K i) D3) (hk : D3[k]? = some (a, OL K ds)) (hj : ixN ds.length i = some j)
    (q : Go E.nx F0 G (D3.set k (a, OL K (ds.set j d)))) : Go (tAsg te (gSub ta tb rSetL) E) F0 G D0 := fun σ H F s hs ss =>
  h σ H F hs ss _ fun v H1 F1 s1 hs1 r1 => ho σ H1 F1 hs1 (ss.mono s1) _ fun x H2 F2 s2 hs2 r2 => hi σ H2 F2 hs2 ((ss.mono s1).mono s2) _ fun y H3 F3 s3 hs3 r3 => by
    have ex : x = .ref a := r2
    subst ex
    rw [dp_int r3]
    obtain ⟨o, ho, xs, rfl, h2⟩ := hs3.at hk
    refine ⟨a, xs, i, j, rfl, rfl, ho, by rw [dpAll_len h2]; exact hj, ?_⟩
    exact q σ _ F3 (((s.trans s1).trans s2).trans s3) (hs3.put hk ⟨_, rfl, dpAll_set (dp_mono (s2.trans s3) d v r1) h2 j⟩) (((ss.mono s1).mono s2).mono s3)
/-- xs.append(e), xs owned -/
theorem go_app {ds : List PyData} {k : Nat} {a : Addr} {d : PyData} (ho : Ev ta G D0 (Is (.ref a)) D1) (h : Ev te G D1 (TL.D K d) D2) (hk1 : ∃ (k1 : Nat) (ds1 : List PyData), D1[k1]? = some (a, OL K ds1)) (hk : D2[k]? = some (a, OL K ds)) (hz : ds.length < 100000)
    (q : Go E.nx F0 G (D2.set k (a, OL K (ds ++ [d])))) : Go (tDrop (tBM K "list" rAppend ta (tCons te tNil)) E) F0 G D0 := fun σ H F s hs ss =>
  ho σ H F hs ss _ fun x H1 F1 s1 hs1 r1 => by
    have ex : x = .ref a := r1
    subst ex
    obtain ⟨k1, ds1, hk1⟩ := hk1
    obtain ⟨o1, ho1, xs1, rfl, h21⟩ := hs1.at hk1
    refine ⟨.inl ⟨rfl, xs1, SqL.of ho1⟩, h σ H1 F1 hs1 (ss.mono s1) _ fun v H2 F2 s2 hs2 r2 => ?_⟩
    obtain ⟨o, ho, xs, rfl, h2⟩ := hs2.at hk
    refine ⟨a, xs, v, rfl, rfl, ho, by rw [dpAll_len h2]; exact Nat.lt_of_lt_of_le hz sizeLine_big, ?_⟩
    exact q σ _ F2 ((s.trans s1).trans s2) (hs2.put hk ⟨_, rfl, dpAll_append h2 (.cons r2 .nil)⟩) ((ss.mono s1).mono s2)

/-! ## loops -/
def ItOk (K : PySem.W.Frag) (J : It) (ds : List PyData) (F0 : Hp) : Prop := ∀ (D : Own) (H F : Hp), Same F0 F → HS D H F → ∀ i : Nat,
  (∀ d, ds[i]? = some d → J.go i H ∧ ∀ x H', J.yld i H x H' → ∃ F2, Same F F2 ∧ HS D H' F2 ∧ Dp K F2 x d) ∧ (ds.length ≤ i → J.stop i H)
def EvIt (K : PySem.W.Frag) (wi : TI) (G : Sto) (D0 : Own) (ds : List PyData) (D1 : Own) : Prop := ∀ (σ : St) (H F : Hp), HS D0 H F → SS F G σ → ∀ R : It → Hp → Prop,
  (∀ J H' F', Same F F' → HS D1 H' F' → ItOk K J ds F' → R J H') → wi σ H R
theorem go_for {S : Type} {wi : TI} {g : TG} {tb : TS} {ds : List PyData} (hi : EvIt K wi G D0 ds D1) (I : Nat → S → Prop) (Gs : S → Sto) (Ds : S → Own) (s0 : S) (h0 : I 0 s0) (w0 : SLe G (Gs s0)) (d0 : (Ds s0).Sublist D1)
    (step : ∀ F1, Same F0 F1 → ∀ k s d, ds[k]? = some d → I k s → ∃ G', EvG g (Gs s) (TL.D K d) G' ∧ ∀ Nx : St → Hp → Prop, (∀ s', I (k + 1) s' → Go Nx F1 (Gs s') (Ds s')) → Go (tb { E with nx := Nx, ct := Nx, bk := E.nx }) F1 G' (Ds s))
    (done : ∀ s, I ds.length s → Go E.nx F0 (Gs s) (Ds s)) : Go (tFor wi g tb E) F0 G D0 := fun σ H F s hs ss =>
  hi σ H F hs ss _ fun J H1 F1 s1 hs1 ok => by
    refine ⟨fun i m σ H => m = ds.length - i ∧ i ≤ ds.length ∧ ∃ x, I i x ∧ StP F1 (Gs x) (Ds x) σ H, ⟨ds.length, by simp, Nat.zero_le _, s0, h0, F1, Same.refl _, hs1.drop d0, (ss.mono s1).weak w0⟩, ?_⟩
    rintro i m σ2 H2 ⟨rfl, hle, x, hx, F2, s2, hs2, ss2⟩
    by_cases hlt : i < ds.length
    · have hd : ds[i]? = some ds[i] := by simp [hlt]
      obtain ⟨go, yl⟩ := (ok (Ds x) H2 F2 s2 hs2 i).1 _ hd
      refine .inr ⟨go, fun σ' H' => ∃ x', I (i + 1) x' ∧ StP F1 (Gs x') (Ds x') σ' H', fun σ' H' p => ⟨ds.length - (i + 1), by omega, rfl, hlt, p⟩, fun v H3 hy => ?_⟩
      obtain ⟨F3, s3, hs3, r3⟩ := yl v H3 hy
      obtain ⟨G', hg, hb⟩ := step F1 (s.trans s1) i x _ hd hx
      exact hg v σ2 H3 F3 (Ds x) hs3 (ss2.mono s3) r3 _ fun σ4 ss4 => hb _ (fun x' hx' σ5 H5 F5 s5 hs5 ss5 => ⟨x', hx', F5, s5, hs5, ss5⟩) σ4 H3 F3 (s2.trans s3) hs3 ss4
    · have e : i = ds.length := by omega
      subst e
      exact .inl ⟨(ok (Ds x) H2 F2 s2 hs2 _).2 (Nat.le_refl _), done x hx σ2 H2 F2 ((s.trans s1).trans s2) hs2 ss2⟩
theorem evIt_list {tl : TE} {ds : List PyData} (h : Ev tl G D0 (TL.D K (.list ds)) D1) : EvIt K (iList K tl) G D0 ds D1 := fun σ H F hs ss R q =>
  h σ H F hs ss _ fun v H1 F1 s1 hs1 r1 => by
    obtain ⟨a, xs, rfl, h1, h2⟩ := dp_lst r1
    refine ⟨a, rfl, ⟨xs, sqL_up hs1 h1⟩, q _ H1 F1 s1 hs1 fun D H2 F2 s2 hs2 i => ⟨fun d hd => ?_, fun hl => ?_⟩⟩
    · obtain ⟨v, e1, e2⟩ := dpAll_get h2 hd
      have sq : SqL K H2 a xs := sqL_up hs2 (s2.seq h1)
      refine ⟨⟨xs, v, sq, e1⟩, fun x H' hy => ?_⟩
      obtain ⟨e3, e4⟩ := hy
      subst e3
      have e5 := e4 xs sq
      rw [e1] at e5
      cases e5
      exact ⟨F2, Same.refl _, hs2, dp_mono s2 d v e2⟩
    · exact ⟨xs, sqL_up hs2 (s2.seq h1), by rw [dpAll_len h2]; exact hl⟩
theorem evIt_tup {tl : TE} {ds : List PyData} (h : Ev tl G D0 (TL.D K (.tuple ds)) D1) : EvIt K (iTup K tl) G D0 ds D1 := fun σ H F hs ss R q =>
  h σ H F hs ss _ fun v H1 F1 s1 hs1 r1 => by
    obtain ⟨a, xs, rfl, h1, h2⟩ := dp_tup r1
    refine ⟨a, rfl, ⟨xs, sqT_up hs1 h1⟩, q _ H1 F1 s1 hs1 fun D H2 F2 s2 hs2 i => ⟨fun d hd => ?_, fun hl => ?_⟩⟩
    · obtain ⟨v, e1, e2⟩ := dpAll_get h2 hd
      have sq : SqT K H2 a xs := sqT_up hs2 (same_sqT s2 h1)
      refine ⟨⟨xs, v, sq, e1⟩, fun x H' hy => ?_⟩
      obtain ⟨e3, e4⟩ := hy
      subst e3
      have e5 := e4 xs sq
      rw [e1] at e5
      cases e5
      exact ⟨F2, Same.refl _, hs2, dp_mono s2 d v e2⟩
    · exact ⟨xs, sqT_up hs2 (same_sqT s2 h1), by rw [dpAll_len h2]; exact hl⟩
def rangeD (lo : Int) (n : Nat) : List PyData := (List.range n).map fun i : Nat => PyData.int (lo + (i : Int))
theorem rangeD_len {lo : Int} {n : Nat} : (rangeD lo n).length = n := by simp [rangeD]
theorem rangeD_get {lo : Int} {n i : Nat} {d : PyData} (h : (rangeD lo n)[i]? = some d) : i < n ∧ d = .int (lo + (i : Int)) := by
  unfold rangeD at h
  rw [List.getElem?_map] at h
  by_cases hi : i < n
  · rw [List.getElem?_range hi] at h
    cases h
    exact ⟨hi, rfl⟩
  · rw [List.getElem?_eq_none (by simpa using hi)] at h
    cases h
theorem itr_ok {lo : Int} {n : Nat} {F : Hp} : ItOk K (Itr lo n) (rangeD lo n) F := fun D H2 F2 s2 hs2 i => ⟨fun d hd => by
    obtain ⟨h1, rfl⟩ := rangeD_get hd
    refine ⟨h1, fun x H' hy => ?_⟩
    obtain ⟨e1, e2⟩ := hy
    subst e1 e2
    exact ⟨F2, Same.refl _, hs2, .int _⟩, fun hl => by rw [rangeD_len] at hl; exact hl⟩
theorem evIt_rng1 {n : Int} (h : Ev te G D0 (DI K n) D1) (hn : -(2 ^ 62) ≤ n ∧ n < 2 ^ 62) : EvIt K (iRng1 (tCons te tNil)) G D0 (rangeD 0 n.toNat) D1 := fun σ H F hs ss R q =>
  h σ H F hs ss _ fun v H1 F1 s1 hs1 r1 => ⟨n, by rw [dp_int r1], hn.1, hn.2, q _ H1 F1 s1 hs1 itr_ok⟩
theorem evIt_rng2 {lo n : Int} (ha : Ev ta G D0 (DI K lo) D1) (h : Ev te G D1 (DI K n) D2) (hn : -(2 ^ 62) ≤ lo ∧ lo < 2 ^ 62 ∧ -(2 ^ 62) ≤ n ∧ n < 2 ^ 62) : EvIt K (iRng2 (tCons ta (tCons te tNil))) G D0 (rangeD lo (n - lo).toNat) D2 := fun σ H F hs ss R q =>
  ha σ H F hs ss _ fun v H1 F1 s1 hs1 r1 => h σ H1 F1 hs1 (ss.mono s1) _ fun w H2 F2 s2 hs2 r2 => ⟨lo, n, by rw [dp_int r1, dp_int r2], hn, q _ H2 F2 (s1.trans s2) hs2 itr_ok⟩
theorem go_while {S : Type} {tb : TS} (I : S → Prop) (Gs : S → Sto) (Ds : S → Own) (μ : S → Nat) (bv : S → Bool) (s0 : S) (h0 : I s0) (w0 : SLe G (Gs s0)) (d0 : (Ds s0).Sublist D0)
    (hc : ∀ s, I s → EvT tt (Gs s) (Ds s) (bv s) (Ds s))
    (step : ∀ s, I s → bv s = true → ∀ Nx : St → Hp → Prop, (∀ s', I s' → μ s' < μ s → Go Nx F0 (Gs s') (Ds s')) → Go (tb { E with nx := Nx, ct := Nx, bk := E.nx }) F0 (Gs s) (Ds s))
    (done : ∀ s, I s → bv s = false → Go E.nx F0 (Gs s) (Ds s)) : Go (tWhile tt tb E) F0 G D0 := fun σ H F s hs ss => by
  refine ⟨fun m σ H => ∃ x, m = μ x ∧ I x ∧ StP F0 (Gs x) (Ds x) σ H, ⟨_, s0, rfl, h0, F, s, hs.drop d0, ss.weak w0⟩, ?_⟩
  rintro m σ2 H2 ⟨x, rfl, hx, F2, s2, hs2, ss2⟩
  refine hc x hx σ2 H2 F2 hs2 ss2 _ fun H3 F3 s3 hs3 => ?_
  cases e : bv x with
  | true =>
    refine ⟨fun σ' H' => ∃ x', I x' ∧ μ x' < μ x ∧ StP F0 (Gs x') (Ds x') σ' H', fun σ' H' ⟨x', h1, h2, h3⟩ => ⟨μ x', h2, x', rfl, h1, h3⟩, ?_⟩
    exact step x hx e _ (fun x' h1 h2 σ5 H5 F5 s5 hs5 ss5 => ⟨x', h1, h2, F5, s5, hs5, ss5⟩) σ2 H3 F3 (s2.trans s3) hs3 (ss2.mono s3)
  | false => exact done x hx e σ2 H3 F3 (s2.trans s3) hs3 (ss2.mono s3)

/-! ## calls -/
inductive Out where
  | ok (R : Ty)
  | err (c : Value)
  | new (O : OTy)
/-- a new owned thing is handed back -/
def GoN (P : VK) (F0 : Hp) (O : OTy) (D : Own) : Prop := ∀ p H F, Same F0 F → HS ((p, O) :: D) H F → P (.ref p) H
def Post (o : Out) (rt : VK) (X : XK) (F : Hp) (D : Own) : Prop := match o with
  | .ok R => GoV rt F R D
  | .err c => GoX X F c D
  | .new O => GoN rt F O D
theorem GoN.up {P : VK} {O : OTy} (h : GoN P F0 O D0) (s : Same F0 F1) : GoN P F1 O D0 := fun p H F s1 => h p H F (s.trans s1)
theorem go_retO {O : OTy} (h : EvN te G D0 O D1) (k : GoN E.rt F0 O D1) : Go (tRet te E) F0 G D0 := fun σ H F s hs ss =>
  h σ H F hs ss _ fun p H1 F1 s1 hs1 => k p H1 F1 (s.trans s1) hs1
theorem Post.up {o : Out} {rt : VK} {X : XK} (h : Post o rt X F0 D0) (s : Same F0 F1) : Post o rt X F1 D0 := by
  cases o with
  | ok R => exact GoV.up h s
  | err c => exact GoX.up h s
  | new O => exact GoN.up h s
theorem Post.new {rt : VK} {X : XK} {o : Out} {O : OTy} (h : Post o rt X F0 D0) (e : o = .new O) : GoN rt F0 O D0 := by subst e; exact h
theorem Post.ok {rt : VK} {X : XK} {o : Out} (h : Post o rt X F0 D0) (e : o = .ok R) : GoV rt F0 R D0 := by subst e; exact h
theorem Post.err {rt : VK} {X : XK} {o : Out} {c : Value} (h : Post o rt X F0 D0) (e : o = .err c) : GoX X F0 c D0 := by subst e; exact h
/-- a def that leaves all that is owned as it is -/
def fsp {T : Type} (args : T → List Ty) (pre : T → Prop) (out : T → Out) : Sp := fun vs H Q X => ∃ (x : T) (F : Hp) (D : Own), HS D H F ∧ AllP F (args x) vs ∧ pre x ∧ Post (out x) Q X F D
/-- a def whose first argument is owned, and changes from O to O1 -/
def fspM {T : Type} (O O1 : T → OTy) (args : T → List Ty) (pre : T → Prop) (out : T → Out) : Sp := fun vs H Q X => ∃ (x : T) (F : Hp) (D : Own) (k : Nat) (a : Addr), HS D H F ∧ D[k]? = some (a, O x) ∧ AllP F (Is (.ref a) :: args x) vs ∧ pre x ∧
  Post (out x) Q X F (D.set k (a, O1 x))
theorem ev_call {T : Type} {args : T → List Ty} {pre : T → Prop} {out : T → Out} {dvs : List V} {X : XK} {t : TA} {Rs Rd : List Ty} (x : T) (h : EvA t G D0 Rs D1) (hd : ∀ F, AllP F Rd dvs) (ea : args x = Rs ++ Rd) (hp : pre x) (ho : out x = .ok R) :
    Ev (tCall (fsp args pre out) dvs X t) G D0 R D1 := fun σ H F hs ss Q q =>
  h σ H F hs ss _ fun vs H1 F1 s1 hs1 r1 => ⟨x, F1, D1, hs1, by rw [ea]; exact r1.append (hd F1), hp, by rw [ho]; exact fun v H2 F2 s2 hs2 r2 => q v H2 F2 (s1.trans s2) hs2 r2⟩
theorem ev_call0 {T : Type} {args : T → List Ty} {pre : T → Prop} {out : T → Out} {X : XK} {t : TA} (x : T) (h : EvA t G D0 (args x) D1) (hp : pre x) (ho : out x = .ok R) : Ev (tCall (fsp args pre out) [] X t) G D0 R D1 :=
  ev_call x h (Rd := []) (fun _ => .nil) (by simp) hp ho
theorem ev_callM {T : Type} {O O1 : T → OTy} {args : T → List Ty} {pre : T → Prop} {out : T → Out} {X : XK} {t : TA} {k : Nat} {a : Addr} (x : T) (h : EvA t G D0 (Is (.ref a) :: args x) D1) (hk : D1[k]? = some (a, O x)) (hp : pre x) (ho : out x = .ok R) :
    Ev (tCall (fspM O O1 args pre out) [] X t) G D0 R (D1.set k (a, O1 x)) := fun σ H F hs ss Q q =>
  h σ H F hs ss _ fun vs H1 F1 s1 hs1 r1 => ⟨x, F1, D1, k, a, hs1, hk, by rw [List.append_nil]; exact r1, hp, by rw [ho]; exact fun v H2 F2 s2 hs2 r2 => q v H2 F2 (s1.trans s2) hs2 r2⟩
theorem evN_call0 {T : Type} {args : T → List Ty} {pre : T → Prop} {out : T → Out} {X : XK} {t : TA} {O : OTy} (x : T) (h : EvA t G D0 (args x) D1) (hp : pre x) (ho : out x = .new O) : EvN (tCall (fsp args pre out) [] X t) G D0 O D1 := fun σ H F hs ss Q q =>
  h σ H F hs ss _ fun vs H1 F1 s1 hs1 r1 => ⟨x, F1, D1, hs1, by rw [List.append_nil]; exact r1, hp, by rw [ho]; exact fun p H2 F2 s2 hs2 => q p H2 F2 (s1.trans s2) hs2⟩
/-- the owned argument is made in the call -/
theorem ev_callMN {T : Type} {O O1 : T → OTy} {args : T → List Ty} {pre : T → Prop} {out : T → Out} {X : XK} {t : TA} (x : T) (h : EvN te G D0 (O x) D1) (hr : ∀ p, EvA t G ((p, O x) :: D1) (args x) ((p, O x) :: D1)) (hp : pre x) (ho : out x = .ok R) :
    Ev (tCall (fspM O O1 args pre out) [] X (tCons te t)) G D0 R D1 := fun σ H F hs ss Q q =>
  h σ H F hs ss _ fun p H1 F1 s1 hs1 => hr p σ H1 F1 hs1 (ss.mono s1) _ fun vs H2 F2 s2 hs2 r2 => ⟨x, F2, (p, O x) :: D1, 0, p, hs2, rfl, by rw [List.append_nil]; exact .cons rfl r2, hp, by
    rw [ho]
    exact fun v H3 F3 s3 hs3 r3 => q v H3 F3 ((s1.trans s2).trans s3) (hs3.drop (List.sublist_cons_self _ _)) r3⟩
/-- a def's reading from its walk -/
theorem pure_of {T : Type} {args : T → List Ty} {pre : T → Prop} {out : T → Out} {N : List Str} {tf : TS} {vs : List V} {H : Hp} {Q : VK} {X : XK}
    (walk : ∀ (x : T) (F : Hp) (D : Own) (E : Ends), E.rt = Q → (∀ (K : PySem.W.Frag) G D1, GoV Q F (DN K) D1 → Go E.nx F G D1) → pre x → Post (out x) Q X F D → Go (tf E) F ((args x).map some ++ List.replicate (N.length - (args x).length) none) D)
    (h : fsp args pre out vs H Q X) : tf { nx := fun _ H' => Q .non H', rt := Q } (L2.start N vs) H := by
  obtain ⟨x, F, D, hs, ha, hp, po⟩ := h
  have z := SS.start (N := N) ha
  rw [ha.len] at z
  exact walk x F D { nx := fun _ H' => Q .non H', rt := Q } rfl (fun K G D1 k σ H F1 s hs ss => k _ H F1 s hs .non) hp po _ H F (Same.refl _) hs z
theorem pure_ofM {T : Type} {O O1 : T → OTy} {args : T → List Ty} {pre : T → Prop} {out : T → Out} {N : List Str} {tf : TS} {vs : List V} {H : Hp} {Q : VK} {X : XK}
    (walk : ∀ (x : T) (F : Hp) (D : Own) (k : Nat) (a : Addr) (E : Ends), D[k]? = some (a, O x) → E.rt = Q → (∀ (K : PySem.W.Frag) G D1, GoV Q F (DN K) D1 → Go E.nx F G D1) → pre x → Post (out x) Q X F (D.set k (a, O1 x)) →
      Go (tf E) F (some (Is (.ref a)) :: ((args x).map some ++ List.replicate (N.length - ((args x).length + 1)) none)) D)
    (h : fspM O O1 args pre out vs H Q X) : tf { nx := fun _ H' => Q .non H', rt := Q } (L2.start N vs) H := by
  obtain ⟨x, F, D, k, a, hs, hk, ha, hp, po⟩ := h
  have z := SS.start (N := N) ha
  rw [ha.len] at z
  exact walk x F D k a { nx := fun _ H' => Q .non H', rt := Q } hk rfl (fun K G D1 k σ H F1 s hs ss => k _ H F1 s hs .non) hp po _ H F (Same.refl _) hs z
theorem fsp_len {T : Type} {args : T → List Ty} {pre : T → Prop} {out : T → Out} {n : Nat} (e : ∀ x, (args x).length = n) : ∀ vs H Q E, fsp args pre out vs H Q E → vs.length = n := fun vs H Q E ⟨x, F, D, _, ha, _⟩ => by rw [ha.len, e]
theorem fspM_len {T : Type} {O O1 : T → OTy} {args : T → List Ty} {pre : T → Prop} {out : T → Out} {n : Nat} (e : ∀ x, (args x).length + 1 = n) : ∀ vs H Q E, fspM O O1 args pre out vs H Q E → vs.length = n := fun vs H Q E ⟨x, F, D, k, a, _, _, ha, _⟩ => by rw [ha.len, ← e x]; rfl
end
end TL

set_option Elab.async false
set_option linter.all false
set_option maxRecDepth 100000
set_option maxHeartbeats 1000000
namespace TL
open PySem PySem.Spec L2
open PyProof.Rows (AllBare)

/-! ## an exception that stands as a value: of the class cls, at a -/
def ExT (cls : Value) (a : Addr) : HO := .ext fun h => ∃ (oe : Obj) (vs : Array Value), h.get? a = some oe ∧ Zc cls none oe ∧ oe.data = .fields vs
theorem exT_ok {P : Program} {w : World} {H : Hp} {h : Heap} {a : Addr} {cls : Value} {oe : Obj} {vs : Array Value} (e : h.get? a = some oe) (z : Zc cls none oe) (d : oe.data = .fields vs) : ObjOk P w H h a (ExT cls a) :=
  ⟨⟨oe, vs, e, z, d⟩, ⟨oe, e⟩, fun h1 h2 ⟨o1, v1, a1, a2, a3⟩ k => ⟨o1, v1, k o1 a1, a2, a3⟩⟩
/-- as Inv.landed, the exception's object is tracked too -/
theorem landedT {X : Cx} {pins : List (Addr × Obj)} {σ : St} {H : Hp} {sI s' : Shared} {B : Heap} {a : Addr} {o : HO} (I : Inv X pins σ H sI) (nb : ∀ b o, sI.heap.get? b = some o → b ∉ frs X.stack → B.get? b = some o) (st : B.StaysIn s'.heap) (up : sI.heap.UpToSlots s'.heap) (os : s'.os = sI.os) (ag : AllBare s'.gens)
    (na : H a = none) (ga : sI.heap.get? a = none) (new : ObjOk X.prog X.w (upd H a o) s'.heap a o) : Inv X pins σ (upd H a o) s' := by
  have nf : ∀ b ∈ frs X.stack, ∀ o, sI.heap.get? b = some o → ∃ sl, s'.heap.get? b = some { o with slots := sl } := fun b hb o e =>
    let ⟨_, o2, e2, hd⟩ := I.stack.mem hb
    up b o e (by
      have z : o = o2 := Option.some.inj (e.symm.trans e2)
      rw [z]
      exact hd)
  have ne : ∀ b u, sI.heap.get? b = some u → b ≠ a := fun b u e z => by rw [z, ga] at e; cases e
  have ne2 : ∀ b u, H b = some u → b ≠ a := fun b u e z => by rw [z, na] at e; cases e
  have J := I.call (ch := []) (h' := s'.heap) (g' := s'.gens) (t' := s'.toks) (d' := s'.drawn) (H' := upd H a o)
    ⟨fun b o e _ hb _ => st b o (nb b o e hb), fun b o e _ hb _ => nf b hb o e, fun b u e n _ => (upd_ne (ne b u e)).trans n, fun b o e _ => by
      by_cases hb : b ∈ frs X.stack
      · obtain ⟨sl, q⟩ := nf b hb o e
        exact ⟨_, q⟩
      · exact ⟨o, st b o (nb b o e hb)⟩, fun b xs e => (upd_ne (ne2 b _ e)).trans e, fun b _ _ e => (upd_ne (ne2 b _ e)).trans e, fun b ps e => ⟨#[], by rw [upd_ne (ne2 b _ e), e]; simp⟩⟩
    ((I.inGround nb).laidN st na new) ag (fun _ z => nomatch z)
  obtain ⟨a1, a2, a3, a4, a5⟩ := s'
  have e5 : a5 = sI.os := os
  subst e5
  exact J
theorem suiteT {X : Cx} {pins : List (Addr × Obj)} {σ : St} {H : Hp} {s : Shared} {a : Addr} (I : Inv X pins σ H s) : Inv (X.suite a (X.pn ++ pins)) [] σ H s :=
  ⟨I.ok.suite _ _, I.os, I.bare, I.base, I.loc, I.cell, I.free, I.freeC, fun p hp => I.pin p (by rw [List.append_nil] at hp; exact hp), I.hok, I.len⟩
theorem unsuiteT {X : Cx} {pins pn' : List (Addr × Obj)} {σ : St} {H : Hp} {s : Shared} {a : Addr} (I : Inv (X.suite a (X.pn ++ pins)) pn' σ H s) (ok : X.Ok) : Inv X pins σ H s :=
  ⟨ok, I.os, I.bare, I.base, I.loc, I.cell, I.free, I.freeC, fun p hp => I.pin p (List.mem_append_left _ hp), I.hok, I.len⟩
/-- what the clause 'except x as n' wishes, the exception tracked -/
def wAsT (K : PySem.W.Frag) (c : Value) (i : Nat) (ts : TS) (Wout : WX) (D : Ends) : WX := fun cls d σ H =>
  ∃ b, PySem.W.exmOne K cls c = some b ∧ (b = true → d = none ∧ ∀ a, H a = none → ts { nx := fun σ' H' => D.nx (σ'.set i none) H', rt := D.rt, bk := fun σ' H' => D.bk (σ'.set i none) H', ct := fun σ' H' => D.ct (σ'.set i none) H' } (σ.set i (some (.ref a))) (upd H a (ExT cls a))) ∧
    (b = false → Wout cls d σ H)
section
variable {X : Cx} {x n : Str} {c : Value} {i : Nat} {body suite : List Stmt} {b0 : Stmt} {np pos pos' : Pos} {tb : WX → TS} {ts : TS} {Wout : WX}
/-- an exception's record is none of the frames -/
theorem off_frames {B h : Heap} {l : List Env} {a : Addr} {o : Obj} {vs : Array Value} (ff : h.FunFrames B l) (e : h.get? a = some o) (q : o.data = .fields vs) : a ∉ frs l := fun m => by
  obtain ⟨_, o2, e2, no⟩ := ff.mem m
  rw [e] at e2
  cases e2
  exact no _ q
/-- the class that the clause names, read in the suite's surroundings -/
theorem clause_names {pins : List (Addr × Obj)} {σ : St} {H : Hp} {s : Shared} {a : Addr} (I : Inv (X.suite a (X.pn ++ pins)) [] σ H s) (hc : Names X x c) {Q : Value → Shared → Prop} {E : Value → Shared → Prop} (q : Q c s) :
    wpAny (model X.prog X.w) (X.A.mark (some (.ref a))) (eval (.Name x np) X.env) Q E s := by
  obtain ⟨g, nd, m | ⟨m, bt, nn⟩⟩ := hc
  · exact ld_glob (X := X.suite a (X.pn ++ pins)) I g m q nd
  · exact ld_blt (X := X.suite a (X.pn ++ pins)) I g m bt q nn nd
/-- no clause takes it: on it goes -/
theorem goes_on {pins pins' : List (Addr × Obj)} {σ : St} {H : Hp} {sI s1 : Shared} {B : Heap} {a : Addr} {cls : Value} {d : Option Addr} {D : Ends} (hs : X.stack = X.env :: X.outer) (hf : X.env.frame = some X.env.locals) (tk : Takes X Wout)
    (J : Inv X pins' σ H sI) (nb : ∀ b o, sI.heap.get? b = some o → b ∉ frs X.stack → B.get? b = some o) (fl : HandSPX.FlyingZ B (X.env :: X.outer) a (Zc cls d) s1.heap) (up : sI.heap.UpToSlots s1.heap) (na : H a = none) (os : s1.os = sI.os) (ag : AllBare s1.gens) (w : Wout cls d σ H) :
    wpAny (model X.prog X.w) X.A (handleBy (.ref a) X.env []) (L2.SP X pins D) X.xe s1 := by
  refine wpAny_handleBy_nil ?_
  obtain ⟨_, _, _, oe, vs, t, ot, us, he, hz, hd, h1, _⟩ := id fl
  unfold PySem.passOn
  have last : wpAny (model X.prog X.w) X.A (setFlight (.ref a) X.env.frame) (fun _ z => wpAny (model X.prog X.w) X.A (throw (.ref a) : Sem Flow) (L2.SP X pins D) X.xe z) X.xe s1 := by
    rw [hf]
    exact HandSPX.setFlight_upZ fl fun h2 fl2 up2 => wpAny_throw (tk _ _ ⟨a, B, sI, pins', σ, H, cls, d, rfl, J, nb, up.trans up2, .inr (.inr (by rw [hs]; exact fl2)), na, os, ag, w⟩)
  refine wpAny_bind (wpAny_field he hd h1 ?_)
  have nn : ¬ ((Value.ref t == Value.none) = true) := by simp
  rw [if_neg nn]
  first
    | exact wpAny_bind last
    | exact wpAny_bind (wpAny_pure (wpAny_bind last))
theorem ps_try_asT (hs : X.stack = X.env :: X.outer) (hf : X.env.frame = some X.env.locals) (hN : X.N.Nodup) (hi : X.N[i]? = some n) (hln : X.env.kindOf n = some .local) (hc : Names X x c) (tk : Takes X Wout)
    (hb : ∀ (W : WX) (pn : List (Addr × Obj)) (xe : Value → Shared → Prop), Takes (X.tr pn xe) W → PassesOwn (model X.prog X.w) X.A X.env xe → PSs (X.tr pn xe) body (tb W))
    (hsu : ∀ (a : Addr) (pn : List (Addr × Obj)), PSs (X.suite a pn) (b0 :: suite) ts) :
    PS X (.Try body [.ExceptHandler (some (.Name x np)) (some n) (b0 :: suite) pos'] [] [] pos) (fun D σ H => tb (wAsT X.K c i ts Wout D) D σ H) := by
  refine ⟨fun pins s σ H D I h => wpAny_Try_except ?_⟩
  have ok := I.ok
  have frames : X.A.frames = some (X.env :: X.outer) := by rw [ok.frames, hs]
  let after : Value → Shared → Prop := fun e s1 => wpAny (model X.prog X.w) X.A (noteFrame e X.env) (fun _ s2 => wpAny (model X.prog X.w) X.A (setFlight e none) (fun _ s3 =>
    wpAny (model X.prog X.w) X.A (handleBy e X.env [.ExceptHandler (some (.Name x np)) (some n) (b0 :: suite) pos']) (L2.SP X pins D) X.xe s3) X.xe s2) X.xe s1
  have takes : Takes (X.tr (X.pn ++ pins) after) (wAsT X.K c i ts Wout D) := by
    rintro u s1 ⟨a, B, sI, pins2, σ2, H2, cls, d, rfl, J0, nb, up, sky, na, os, ag, k, hk, yes, no⟩
    have J : Inv X pins σ2 H2 sI := J0.ofTry ok
    rw [show (X.tr (X.pn ++ pins) after).stack = X.env :: X.outer from hs] at sky
    refine Sky.land Zc.steady frames hf sky fun h3 fl3 up3 => ?_
    have J3 : Inv X pins σ2 H2 { s1 with heap := h3 } := J.landed nb fl3.1 (up.trans up3) os ag
    obtain ⟨o3, v3, e3, z3, d3⟩ := fl3.there
    have off := off_frames fl3.2.2.1 e3 d3
    have away : sI.heap.get? a = none := by
      cases q : sI.heap.get? a with
      | none => rfl
      | some u =>
        have z := nb a u q (by rw [show (X.tr (X.pn ++ pins) after).stack = X.env :: X.outer from hs]; exact off)
        rw [fl3.2.1] at z
        cases z
    have cl : PySem.W.Looks (model X.prog X.w) h3 (typeOf (.ref a)) cls := fun A Q E s kp q => wpAny_typeOf_ref (kp _ _ e3) (by rw [z3.1]; exact q)
    refine wpAny_handleBy_cons (codeAny_handlers_test (clause_names (suiteT (a := a) J3) hc ((PySem.W.exm_one (M := model X.prog X.w) J3.kIn cl hk).here ?_))) (by intro q; cases q)
    cases k with
    | false => exact goes_on hs hf tk J nb fl3 (up.trans up3) na os ag (no rfl)
    | true =>
      obtain ⟨rfl, yes2⟩ := yes rfl
      refine codeAny_handlers_suite_as (HandSPX.lands_againZ fl3 fun h4 fl4 up4 => ?_)
      obtain ⟨o4, v4, e4, z4, d4⟩ := fl4.there
      have J4 : Inv X pins σ2 (upd H2 a (ExT cls a)) { s1 with heap := h4 } := landedT J nb fl4.1 ((up.trans up3).trans up4) os ag na away (exT_ok e4 z4 d4)
      refine store_ok (X := X.suite a (X.pn ++ pins)) (v := .ref a) (suiteT (a := a) J4) hN hi (.inl hln) rfl (fun s5 S5 => ?_) (.inr hln)
      refine wpAny_mono ((hsu a (X.pn ++ pins)).run [] s5 _ _ _ S5 (yes2 a na)) (fun f s6 out => ?_) (fun _ _ z => False.elim z)
      have fin : ∀ {σ6 : St} {H6 : Hp} {Q : Shared → Prop}, Inv (X.suite a (X.pn ++ pins)) [] σ6 H6 s6 → (∀ s7, Inv X pins (σ6.set i none) H6 s7 → Q s7) →
          wpAny (model X.prog X.w) X.A (do bindName X.env n .none; unbindBehindTheSuite X.env n pos') (fun _ s7 => Q s7) X.xe s6 := fun S6 hq => gone_ok (unsuiteT S6 ok) hN hi hln hq
      match f, out with
      | .next, ⟨σ6, H6, S6, q6⟩ => exact fin S6 fun s7 J7 => ⟨_, H6, J7, q6⟩
      | .brk, ⟨σ6, H6, S6, q6⟩ => exact fin S6 fun s7 J7 => ⟨_, H6, J7, q6⟩
      | .cont, ⟨σ6, H6, S6, q6⟩ => exact fin S6 fun s7 J7 => ⟨_, H6, J7, q6⟩
      | .ret u, ⟨v6, σ6, H6, S6, r6, q6⟩ => exact fin S6 fun s7 J7 => ⟨v6, _, H6, J7, r6, q6⟩
  refine wpAny_mono ((hb _ (X.pn ++ pins) after takes PassesOwn.looking).run [] s σ H D (I.toTry _) h) (fun f s1 out => ?_) (fun e s1 he => he)
  match f, out with
  | .next, ⟨σ2, H2, J, q⟩ => exact wpAny_execs_nil ⟨σ2, H2, J.ofTry ok, q⟩
  | .brk, ⟨σ2, H2, J, q⟩ => exact ⟨σ2, H2, J.ofTry ok, q⟩
  | .cont, ⟨σ2, H2, J, q⟩ => exact ⟨σ2, H2, J.ofTry ok, q⟩
  | .ret u, ⟨v, σ2, H2, J, r, q⟩ => exact ⟨v, σ2, H2, J.ofTry ok, r, q⟩
end

/-! ## isinstance -/
theorem exT_inst {X : Cx} {pins : List (Addr × Obj)} {σ : St} {H : Hp} {s : Shared} {a C : Addr} (I : Inv X pins σ H s) (h : H a = some (ExT (.ref C) a)) : ∃ oe, PySem.W.InstAt s.heap a oe C none := by
  obtain ⟨⟨oe, vs, hget, hz, hv⟩, _, _⟩ := I.hok a _ h
  obtain ⟨oc, od, oda, osl⟩ := oe
  obtain ⟨h1, h2⟩ := hz
  dsimp only at h1 h2 hv
  subst h1 h2 hv
  exact ⟨_, hget, rfl, rfl, trivial⟩
def rIsX (K : PySem.W.Frag) : List V → Hp → VK → Prop := fun xs H Q => ∃ (a C : Addr) (c : V) (u : Value) (b : Bool), xs = [.ref a, c] ∧ H a = some (ExT (.ref C) a) ∧ ExcC K C ∧ ClsV c u ∧ PySem.W.kitOne K (.ref C) u = some b ∧ Q (.bl b) H
def rIsXT (K : PySem.W.Frag) : List V → Hp → VK → Prop := fun xs H Q => ∃ (a C tp : Addr) (cs : List V) (us : List Value) (b : Bool), xs = [.ref a, .ref tp] ∧ H a = some (ExT (.ref C) a) ∧ ExcC K C ∧ SqT K H tp cs ∧ Paired ClsV cs us ∧ PySem.W.kitAny K (.ref C) us = some b ∧ Q (.bl b) H
section
variable {X : Cx}
theorem call_isX : CallR X (.builtin "isinstance") (rIsX X.K) := by
  intro pins s σ H xs us Q I r h
  obtain ⟨a, C, c, u, b, rfl, ha, hC, k, e, q⟩ := h
  obtain ⟨u1, u2, rfl, r1, r2⟩ := vals2 r
  have e2 := k.eq r2
  subst e2
  cases (show u1 = Value.ref a from r1)
  obtain ⟨oe, J⟩ := exT_inst I ha
  exact PySem.W.kia_one (PySem.W.handS_kitx_exc hC.hg hC.hk hC.hs hC.hd hC.ha hC.hn hC.ht hC.hm) I.kIn J e (fun z => nomatch z) fun tk => ⟨.bl b, H, I.tok tk, rfl, q⟩
theorem call_isXT : CallR X (.builtin "isinstance") (rIsXT X.K) := by
  intro pins s σ H xs us Q I r h
  obtain ⟨a, C, tp, cs, ws, b, rfl, ha, hC, hT, k, e, q⟩ := h
  obtain ⟨u1, u2, rfl, r1, r2⟩ := vals2 r
  cases (show u2 = Value.ref tp from r2)
  cases (show u1 = Value.ref a from r1)
  obtain ⟨oe, J⟩ := exT_inst I ha
  obtain ⟨its, rv, ⟨o, h1, h2, n, h3⟩, _⟩ := I.tuple hT
  have e3 := ClsV.all k rv
  subst e3
  obtain ⟨oc, od, dt, sl⟩ := o
  simp only at h2 h3
  subst h2 h3
  exact PySem.W.kia_tup (PySem.W.handS_kitx_exc hC.hg hC.hk hC.hs hC.hd hC.ha hC.hn hC.ht hC.hm) I.kIn J h1 e (fun z => nomatch z) fun tk => ⟨.bl b, H, I.tok tk, rfl, q⟩
/-- a value's class, asked of data: either an exception or data -/
theorem CallR.or {f : Value} {r r' : List V → Hp → VK → Prop} (h : CallR X f r) (h' : CallR X f r') : CallR X f (fun xs H Q => r xs H Q ∨ r' xs H Q) := fun pins s σ H xs us Q I rr z => by
  rcases z with z | z
  · exact h pins s σ H xs us Q I rr z
  · exact h' pins s σ H xs us Q I rr z
def cIsi (K : PySem.W.Frag) : List V → Hp → VK → Prop := fun xs H Q => rIsi K xs H Q ∨ rIsX K xs H Q
def cIsiT (K : PySem.W.Frag) : List V → Hp → VK → Prop := fun xs H Q => rIsiT K xs H Q ∨ rIsXT K xs H Q
theorem call_isiA : CallR X (.builtin "isinstance") (cIsi X.K) := CallR.or call_isi call_isX
theorem call_isiTA : CallR X (.builtin "isinstance") (cIsiT X.K) := CallR.or call_isiT call_isXT
end
def tyN : PyData → String
  | .none => "NoneType" | .bool _ => "bool" | .int _ => "int" | .str _ => "str" | .list _ => "list" | .tuple _ => "tuple" | .dict _ => "dict"
theorem tyX_of {K : PySem.W.Frag} {H : Hp} {v : V} {d : PyData} (h : Dp K H v d) : TyX K H v (.type (tyN d)) := by
  cases h with
  | non => exact .base .non
  | bl b => exact .base (.bl b)
  | int i => exact .base (.int i)
  | str x => exact .base (.str x)
  | lst h1 h2 =>
    rcases h1 with (h1 | ⟨o, h1⟩) | ⟨_, _, _, h1, h2, _⟩
    · exact .base (.lst h1)
    · exact .base (.frz h1)
    · exact .kList h1 h2
  | tup h1 h2 =>
    rcases h1 with (h1 | ⟨o, h1⟩) | ⟨_, _, _, h1, h2, _⟩
    · exact .base (.tup h1)
    · exact .fTuple h1
    · exact .kTuple h1 h2
/-- an exception as a value -/
def IsEx (C : Addr) : Ty := ⟨fun v F => ∃ a, v = .ref a ∧ F a = some (ExT (.ref C) a), fun s ⟨a, e, h⟩ => ⟨a, e, s _ _ h⟩⟩
/-- a tuple of values -/
def TupT (K : PySem.W.Frag) (Rs : List Ty) : Ty := ⟨fun v F => ∃ a xs, v = .ref a ∧ SqT K F a xs ∧ AllP F Rs xs, fun s ⟨a, xs, e, h1, h2⟩ => ⟨a, xs, e, same_sqT s h1, h2.mono s⟩⟩
section
variable {K : PySem.W.Frag} {G G1 G2 : Sto} {D0 D1 D2 D3 : Own} {te ta tb tc : TE} {tt tu : TT} {R Ra Rb : Ty} {E En : Ends} {F0 F1 : Hp} {t u : TS}
theorem ev_tupT {t : TA} {Rs : List Ty} (h : EvA t G D0 Rs D1) (hl : Rs.length ≤ 100000) : Ev (tTup t) G D0 (TupT K Rs) D1 := fun σ H F hs ss Q q =>
  h σ H F hs ss _ fun vs H1 F1 s1 hs1 r1 => by
    refine ⟨by rw [r1.len]; exact Nat.le_trans hl sizeLine_big, fun p hp => ?_⟩
    have s2 : Same F1 (upd F1 p (.tup vs)) := same_new (hs1.free hp)
    exact q _ _ _ (s1.trans s2) (hs1.frz hp) ⟨p, vs, rfl, SqT.of upd_same, r1.mono s2⟩
theorem ev_isi {d : PyData} {n : String} {b : Bool} (h : Ev te G D0 (D K d) D1) (k : kitB (tyN d) n = some b) : Ev (tCB (cIsi K) (tCons te (tCons (tC (.ty n)) tNil))) G D0 (DB K b) D1 :=
  evCB (evA_cons h (evA_cons (ev_c (R := Is (.ty n)) fun _ => rfl) evA_nil)) fun vs H F hs r Q q => by
    obtain ⟨v, w, rfl, h1, h2⟩ := allP2 r
    have e : w = .ty n := h2
    subst e
    exact .inl ⟨v, .ty n, _, _, b, rfl, .ty n, tyX_of (dp_up hs h1), kit_ty k, q _ H F (Same.refl _) hs (.bl _)⟩
/-- data against an own class -/
theorem ev_isiC {d : PyData} {C : Addr} {b : Bool} (h : Ev te G D0 (D K d) D1) (k : PySem.W.kitOne K (.type (tyN d)) (.ref C) = some b) : Ev (tCB (cIsi K) (tCons te (tCons (tC (.ref C)) tNil))) G D0 (DB K b) D1 :=
  evCB (evA_cons h (evA_cons (ev_c (R := Is (.ref C)) fun _ => rfl) evA_nil)) fun vs H F hs r Q q => by
    obtain ⟨v, w, rfl, h1, h2⟩ := allP2 r
    have e : w = .ref C := h2
    subst e
    exact .inl ⟨v, .ref C, _, _, b, rfl, .own C, tyX_of (dp_up hs h1), k, q _ H F (Same.refl _) hs (.bl _)⟩
theorem ev_isX {C : Addr} {c : V} {u : Value} {b : Bool} (h : Ev te G D0 (IsEx C) D1) (hC : ExcC K C) (hc : ClsV c u) (k : PySem.W.kitOne K (.ref C) u = some b) : Ev (tCB (cIsi K) (tCons te (tCons (tC c) tNil))) G D0 (DB K b) D1 :=
  evCB (evA_cons h (evA_cons (ev_c (R := Is c) fun _ => rfl) evA_nil)) fun vs H F hs r Q q => by
    obtain ⟨v, w, rfl, ⟨a, e1, h1⟩, h2⟩ := allP2 r
    have e : w = c := h2
    subst e e1
    exact .inr ⟨a, C, w, u, b, rfl, hs.sub _ _ h1, hC, hc, k, q _ H F (Same.refl _) hs (.bl _)⟩
/-- a written tuple of own classes -/
def tCls : List Addr → TA
  | [] => tNil
  | C :: r => tCons (tC (.ref C)) (tCls r)
theorem evA_cls : ∀ {Cs : List Addr}, EvA (tCls Cs) G D0 (Cs.map fun C => Is (.ref C)) D0
  | [] => evA_nil
  | C :: r => evA_cons (ev_c (R := Is (.ref C)) fun _ => rfl) evA_cls
theorem cls_pair {F : Hp} : ∀ {Cs : List Addr} {cs : List V}, AllP F (Cs.map fun C => Is (.ref C)) cs → Paired ClsV cs (Cs.map Value.ref)
  | [], _, h => by cases h; exact .nil
  | C :: r, _, h => by
    cases h with
    | cons h1 h2 =>
      cases h1
      exact .cons (.own C) (cls_pair h2)
theorem ev_isXT {C : Addr} {Cs : List Addr} {b : Bool} (h : Ev te G D0 (IsEx C) D1) (hC : ExcC K C) (hl : Cs.length ≤ 100000) (k : PySem.W.kitAny K (.ref C) (Cs.map Value.ref) = some b) : Ev (tCB (cIsiT K) (tCons te (tCons (tTup (tCls Cs)) tNil))) G D0 (DB K b) D1 :=
  evCB (evA_cons h (evA_cons (ev_tupT (K := K) evA_cls (by simpa using hl)) evA_nil)) fun vs H F hs r Q q => by
    obtain ⟨v, w, rfl, ⟨a, e1, h1⟩, ⟨tp, cs, e2, h2, h3⟩⟩ := allP2 r
    subst e1 e2
    exact .inr ⟨a, C, tp, cs, Cs.map Value.ref, b, rfl, hs.sub _ _ h1, hC, sqT_up hs h2, cls_pair h3, k, q _ H F (Same.refl _) hs (.bl _)⟩

/-! ## raise, try -/
/-- raise X('..') -/
def tRaiseX (C : Addr) (X : XK) : TS := fun _ _ H => X (.ref C) none H
theorem go_raise {C : Addr} {X : XK} (h : GoX X F0 (.ref C) D0) : Go (tRaiseX C X E) F0 G D0 := fun σ H F s hs ss => h H F s hs
/-- in a try's body: W is what the clauses wish -/
def tRaiseW (C : Addr) (W : WX) : TS := fun _ σ H => W (.ref C) none σ H
/-- a call that gives something -/
theorem ev_callS {T : Type} {args : T → List Ty} {pre : T → Prop} {out : T → Out} {X : St → XK} {t : TA} (x : T) (h : EvA t G D0 (args x) D1) (hp : pre x) (ho : out x = .ok R) : Ev (tCallS (fsp args pre out) X t) G D0 R D1 := fun σ H F hs ss Q q =>
  h σ H F hs ss _ fun vs H1 F1 s1 hs1 r1 => ⟨x, F1, D1, hs1, r1, hp, by rw [ho]; exact fun v H2 F2 s2 hs2 r2 => q v H2 F2 (s1.trans s2) hs2 r2⟩
/-- a call that raises: the whole statement is done -/
def EvX (te : TE) (G : Sto) (D : Own) (P : St → Hp → Prop) (F0 : Hp) : Prop := ∀ σ H F, Same F0 F → HS D H F → SS F G σ → ∀ Q : VK, te σ H Q
theorem evX_callS {T : Type} {args : T → List Ty} {pre : T → Prop} {out : T → Out} {W : WX} {t : TA} {c : Value} (x : T) (h : EvA t G D0 (args x) D1) (hp : pre x) (ho : out x = .err c) (hW : Go (W c none) F0 G D1) {P : St → Hp → Prop} : EvX (tCallS (fsp args pre out) (WE W) t) G D0 P F0 := fun σ H F s hs ss Q =>
  h σ H F hs ss _ fun vs H1 F1 s1 hs1 r1 => ⟨x, F1, D1, hs1, r1, hp, by rw [ho]; exact fun H2 F2 s2 hs2 => hW σ H2 F2 ((s.trans s1).trans s2) hs2 ((ss.mono s1).mono s2)⟩
theorem go_dropX {P : St → Hp → Prop} (h : EvX te G D0 P F0) : Go (tDrop te E) F0 G D0 := fun σ H F s hs ss => h σ H F s hs ss _
theorem go_asgX {P : St → Hp → Prop} {g : TG} (h : EvX te G D0 P F0) : Go (tAsg te g E) F0 G D0 := fun σ H F s hs ss => h σ H F s hs ss _
/-- the clause takes it -/
theorem go_wAsT {C : Addr} {c : Value} {i : Nat} {ts : TS} {Wout : WX} (e : PySem.W.exmOne K (.ref C) c = some true)
    (h : Go (ts { nx := fun σ' H' => E.nx (σ'.set i none) H', rt := E.rt, bk := fun σ' H' => E.bk (σ'.set i none) H', ct := fun σ' H' => E.ct (σ'.set i none) H' }) F0 (G.set i (some (IsEx C))) D0) : Go (wAsT K c i ts Wout E (.ref C) none) F0 G D0 := fun σ H F s hs ss =>
  ⟨true, e, fun _ => ⟨rfl, fun a ha => h _ _ (upd F a (ExT (.ref C) a)) (s.trans (same_new (hs.free ha))) (hs.frz ha) ((ss.mono (same_new (hs.free ha))).set (R := IsEx C) ⟨a, rfl, upd_same⟩ i)⟩, fun z => nomatch z⟩
theorem go_unset {P : St → Hp → Prop} {i : Nat} (h : Go P F0 (G.set i none) D0) : Go (fun σ H => P (σ.set i none) H) F0 G D0 := fun σ H F s hs ss => h _ H F s hs (ss.unset i)
end
end TL

set_option Elab.async false
set_option linter.all false
set_option maxRecDepth 100000
set_option maxHeartbeats 1000000
namespace TL
open PySem PySem.Spec L2
/-! ## operators that take what comes -/
def CDivA (_ j : Int) : Prop := j ≠ 0 ∧ j.natAbs.log2 < 9000
abbrev rAddS : R2 := fun x y H Q => ∃ i j, x = .str i ∧ y = .str j ∧ i.length + j.length ≤ sizeLine ∧ Q (.str (i ++ j)) H
abbrev rAddI : R2 := rI0 fun i j => .int (i + j)
abbrev rSubI : R2 := rI0 fun i j => .int (i - j)
abbrev rMulI : R2 := rI CMulW fun i j => .int (i * j)
abbrev rDivI : R2 := rI CDivA fun i j => .int (i.fdiv j)
abbrev rModI : R2 := rI (fun _ j => j ≠ 0) fun i j => .int (i.fmod j)
abbrev rPowI : R2 := rI CPow fun i j => .int (i ^ j.toNat)
abbrev rLtI : R2 := rI0 fun i j => .bl (decide (i < j))
abbrev rLeI : R2 := rI0 fun i j => .bl (decide (i ≤ j))
abbrev rGtI : R2 := rI0 fun i j => .bl (decide (j < i))
abbrev rGeI : R2 := rI0 fun i j => .bl (decide (j ≤ i))
def qAdd (K : PySem.W.Frag) : R2 := fun x y H Q => rAddI x y H Q ∨ rAddS x y H Q ∨ rCat x y H Q ∨ rCatT K x y H Q
def qMul (K : PySem.W.Frag) : R2 := fun x y H Q => rMulI x y H Q ∨ rRep x y H Q
def qEq (K : PySem.W.Frag) : R2 := fun x y H Q => rEq x y H Q ∨ rEqD K x y H Q
def qNe (K : PySem.W.Frag) : R2 := fun x y H Q => rNe x y H Q ∨ rNeD K x y H Q
def qNegI : V → Hp → VK → Prop := rU fun i => .int (-i)
section
variable {X : Cx}
theorem op_div : OpR X (binaryOp .FloorDiv) rDivI := opI fun i j _ _ _ _ _ hc q => PyProof.Rows.floordiv_int hc.1 q (.inl (PyProof.noPylong_of_log2 hc.2))
theorem op_addU : OpR X (binaryOp .Add) (qAdd X.K) := op_add.or (op_add_str.or (op_cat.or op_catT))
theorem op_mulU : OpR X (binaryOp .Mult) (qMul X.K) := op_mulW.or op_rep
theorem op_eqU (hu : X.A.units + 64 < cLine) : OpR X (compareOp .Eq) (qEq X.K) := op_eq.or (op_eqD hu)
theorem op_neU (hu : X.A.units + 64 < cLine) : OpR X (compareOp .NotEq) (qNe X.K) := op_ne.or (op_neD hu)
theorem un_negU : UnR X (unaryOp .USub) qNegI := un_neg
end
section
variable {K : PySem.W.Frag} {G G1 G2 : Sto} {D0 D1 D2 D3 : Own} {te ta tb tc : TE} {tt tu : TT} {R Ra Rb : Ty}
theorem ev_orL {r r' : R2} (h : Ev (tOp r ta tb) G D0 R D1) : Ev (tOp (fun x y H Q => r x y H Q ∨ r' x y H Q) ta tb) G D0 R D1 → True := fun _ => trivial
theorem ev2l {r r' : R2} (ha : Ev ta G D0 Ra D1) (hb : Ev tb G D1 Rb D2) (hr : ∀ x y H F, HS D2 H F → Ra.p x F → Rb.p y F → ∀ Q : VK, (∀ v H' F', Same F F' → HS D3 H' F' → R.p v F' → Q v H') → r x y H Q ∨ r' x y H Q) : Ev (tOp (fun x y H Q => r x y H Q ∨ r' x y H Q) ta tb) G D0 R D3 := ev2 ha hb hr
theorem ev_add {i j : Int} (ha : Ev ta G D0 (DI K i) D1) (hb : Ev tb G D1 (DI K j) D2) : Ev (tOp (qAdd K) ta tb) G D0 (DI K (i + j)) D2 :=
  ev2 ha hb fun x y H F hs rx ry Q q => by
    rw [dp_int rx, dp_int ry]
    exact .inl ⟨i, j, rfl, rfl, q _ H F (Same.refl _) hs (.int _)⟩
theorem ev_addS {i j : Str} (ha : Ev ta G D0 (DS K i) D1) (hb : Ev tb G D1 (DS K j) D2) (hl : i.length + j.length ≤ 100000) : Ev (tOp (qAdd K) ta tb) G D0 (DS K (i ++ j)) D2 :=
  ev2 ha hb fun x y H F hs rx ry Q q => by
    rw [dp_str rx, dp_str ry]
    exact .inr (.inl ⟨i, j, rfl, rfl, Nat.le_trans hl sizeLine_big, q _ H F (Same.refl _) hs (.str _)⟩)
theorem ev_sub {i j : Int} (ha : Ev ta G D0 (DI K i) D1) (hb : Ev tb G D1 (DI K j) D2) : Ev (tOp rSubI ta tb) G D0 (DI K (i - j)) D2 := ev_opI0 ha hb
theorem ev_mul {i j : Int} (ha : Ev ta G D0 (DI K i) D1) (hb : Ev tb G D1 (DI K j) D2) (c : CMulW i j) : Ev (tOp (qMul K) ta tb) G D0 (DI K (i * j)) D2 :=
  ev2 ha hb fun x y H F hs rx ry Q q => by
    rw [dp_int rx, dp_int ry]
    exact .inl ⟨i, j, rfl, rfl, c, q _ H F (Same.refl _) hs (.int _)⟩
theorem ev_div {i j : Int} (ha : Ev ta G D0 (DI K i) D1) (hb : Ev tb G D1 (DI K j) D2) (c : CDivA i j) : Ev (tOp rDivI ta tb) G D0 (DI K (i.fdiv j)) D2 := ev_opI ha hb c
theorem ev_mod {i j : Int} (ha : Ev ta G D0 (DI K i) D1) (hb : Ev tb G D1 (DI K j) D2) (c : j ≠ 0) : Ev (tOp rModI ta tb) G D0 (DI K (i.fmod j)) D2 := ev_opI (C := fun _ j => j ≠ 0) ha hb c
theorem ev_pow {i j : Int} (ha : Ev ta G D0 (DI K i) D1) (hb : Ev tb G D1 (DI K j) D2) (c : CPow i j) : Ev (tOp rPowI ta tb) G D0 (DI K (i ^ j.toNat)) D2 := ev_opI ha hb c
theorem ev_neg {i : Int} (ha : Ev ta G D0 (DI K i) D1) : Ev (tUn qNegI ta) G D0 (DI K (-i)) D1 := ev_unI ha
theorem ev_lt {i j : Int} (ha : Ev ta G D0 (DI K i) D1) (hb : Ev tb G D1 (DI K j) D2) : Ev (tOp rLtI ta tb) G D0 (DB K (decide (i < j))) D2 := ev_opB0 ha hb
theorem ev_le {i j : Int} (ha : Ev ta G D0 (DI K i) D1) (hb : Ev tb G D1 (DI K j) D2) : Ev (tOp rLeI ta tb) G D0 (DB K (decide (i ≤ j))) D2 := ev_opB0 ha hb
theorem ev_gt {i j : Int} (ha : Ev ta G D0 (DI K i) D1) (hb : Ev tb G D1 (DI K j) D2) : Ev (tOp rGtI ta tb) G D0 (DB K (decide (j < i))) D2 := ev_opB0 (g := fun i j => decide (j < i)) ha hb
theorem ev_ge {i j : Int} (ha : Ev ta G D0 (DI K i) D1) (hb : Ev tb G D1 (DI K j) D2) : Ev (tOp rGeI ta tb) G D0 (DB K (decide (j ≤ i))) D2 := ev_opB0 (g := fun i j => decide (j ≤ i)) ha hb
theorem ev_inl {r r' : R2} (h : Ev (tOp r ta tb) G D0 R D1) (m : True := trivial) : Ev (tOp (fun x y H Q => r x y H Q ∨ r' x y H Q) ta tb) G D0 R D1 → True := fun _ => trivial
theorem eq_I {i j : Int} (ha : Ev ta G D0 (DI K i) D1) (hb : Ev tb G D1 (DI K j) D2) : Ev (tOp (qEq K) ta tb) G D0 (DB K (decide (i = j))) D2 :=
  ev2 ha hb fun x y H F hs rx ry Q q => by
    rw [dp_int rx, dp_int ry]
    refine .inl ⟨rfl, ?_⟩
    rw [dec_int, Bool.beq_eq_decide_eq]
    exact q _ H F (Same.refl _) hs (.bl _)
theorem ne_I {i j : Int} (ha : Ev ta G D0 (DI K i) D1) (hb : Ev tb G D1 (DI K j) D2) : Ev (tOp (qNe K) ta tb) G D0 (DB K (!decide (i = j))) D2 :=
  ev2 ha hb fun x y H F hs rx ry Q q => by
    rw [dp_int rx, dp_int ry]
    refine .inl ⟨rfl, ?_⟩
    rw [dec_int, Bool.beq_eq_decide_eq]
    exact q _ H F (Same.refl _) hs (.bl _)
theorem eq_S {i j : Str} (ha : Ev ta G D0 (DS K i) D1) (hb : Ev tb G D1 (DS K j) D2) : Ev (tOp (qEq K) ta tb) G D0 (DB K (decide (i = j))) D2 :=
  ev2 ha hb fun x y H F hs rx ry Q q => by
    rw [dp_str rx, dp_str ry]
    refine .inl ⟨rfl, ?_⟩
    have e : decide (V.str i = V.str j) = decide (i = j) := by simp
    rw [e]
    exact q _ H F (Same.refl _) hs (.bl _)
theorem ne_S {i j : Str} (ha : Ev ta G D0 (DS K i) D1) (hb : Ev tb G D1 (DS K j) D2) : Ev (tOp (qNe K) ta tb) G D0 (DB K (!decide (i = j))) D2 :=
  ev2 ha hb fun x y H F hs rx ry Q q => by
    rw [dp_str rx, dp_str ry]
    refine .inl ⟨rfl, ?_⟩
    have e : decide (V.str i = V.str j) = decide (i = j) := by simp
    rw [e]
    exact q _ H F (Same.refl _) hs (.bl _)
theorem eq_B {i j : Bool} (ha : Ev ta G D0 (DB K i) D1) (hb : Ev tb G D1 (DB K j) D2) : Ev (tOp (qEq K) ta tb) G D0 (DB K (i == j)) D2 :=
  ev2 ha hb fun x y H F hs rx ry Q q => by
    rw [dp_bl rx, dp_bl ry]
    refine .inl ⟨rfl, ?_⟩
    rw [dec_bl]
    exact q _ H F (Same.refl _) hs (.bl _)
theorem ne_B {i j : Bool} (ha : Ev ta G D0 (DB K i) D1) (hb : Ev tb G D1 (DB K j) D2) : Ev (tOp (qNe K) ta tb) G D0 (DB K (!(i == j))) D2 :=
  ev2 ha hb fun x y H F hs rx ry Q q => by
    rw [dp_bl rx, dp_bl ry]
    refine .inl ⟨rfl, ?_⟩
    rw [dec_bl]
    exact q _ H F (Same.refl _) hs (.bl _)
theorem eq_D {d e : PyData} (ha : Ev ta G D0 (D K d) D1) (hb : Ev tb G D1 (D K e) D2) (sd : SeqAt.shaped d = true) (se : SeqAt.shaped e = true) : Ev (tOp (qEq K) ta tb) G D0 (DB K (PyData.eqv d e)) D2 :=
  ev2 ha hb fun x y H F hs rx ry Q q => .inr ⟨d, e, dp_up hs rx, dp_up hs ry, sd, se, q _ H F (Same.refl _) hs (.bl _)⟩
theorem ne_D {d e : PyData} (ha : Ev ta G D0 (D K d) D1) (hb : Ev tb G D1 (D K e) D2) (sd : SeqAt.shaped d = true) (se : SeqAt.shaped e = true) : Ev (tOp (qNe K) ta tb) G D0 (DB K (!PyData.eqv d e)) D2 :=
  ev2 ha hb fun x y H F hs rx ry Q q => .inr ⟨d, e, dp_up hs rx, dp_up hs ry, sd, se, q _ H F (Same.refl _) hs (.bl _)⟩
/-- items, by the rule for all sequences -/
theorem ix_T {ds : List PyData} {i : Int} {d : PyData} (ha : Ev ta G D0 (D K (.tuple ds)) D1) (hb : Ev tb G D1 (DI K i) D2) (e : atI ds i = some d) : Ev (tOp (rIx K) ta tb) G D0 (D K d) D2 :=
  ev2 ha hb fun x y H F hs rx ry Q q => by
    obtain ⟨a, xs, rfl, h1, h2⟩ := dp_tup rx
    rw [dp_int ry]
    obtain ⟨v, e1, e2⟩ := atI_map h2 e
    exact .inr (.inl ⟨a, xs, i, v, rfl, rfl, sqT_up hs h1, e1, q _ H F (Same.refl _) hs e2⟩)
theorem ix_L {ds : List PyData} {i : Int} {d : PyData} (ha : Ev ta G D0 (D K (.list ds)) D1) (hb : Ev tb G D1 (DI K i) D2) (e : atI ds i = some d) : Ev (tOp (rIx K) ta tb) G D0 (D K d) D2 :=
  ev2 ha hb fun x y H F hs rx ry Q q => by
    obtain ⟨a, xs, rfl, h1, h2⟩ := dp_lst rx
    rw [dp_int ry]
    obtain ⟨v, e1, e2⟩ := atI_map h2 e
    exact .inl ⟨a, xs, i, v, rfl, rfl, sqL_up hs h1, e1, q _ H F (Same.refl _) hs e2⟩
theorem ix_O {ds : List PyData} {i : Int} {d : PyData} {k : Nat} {a : Addr} (ha : Ev ta G D0 (Is (.ref a)) D1) (hb : Ev tb G D1 (DI K i) D2) (hk : D2[k]? = some (a, OL K ds)) (e : atI ds i = some d) : Ev (tOp (rIx K) ta tb) G D0 (D K d) D2 :=
  ev2 ha hb fun x y H F hs rx ry Q q => by
    have ex : x = .ref a := rx
    subst ex
    rw [dp_int ry]
    obtain ⟨o, ho, xs, rfl, h2⟩ := hs.at hk
    obtain ⟨v, e1, e2⟩ := atI_map h2 e
    exact .inl ⟨a, xs, i, v, rfl, rfl, SqL.of ho, e1, q _ H F (Same.refl _) hs e2⟩
end

/-! ## defs by name -/
structure Fo (P : Program) (w : World) (K : PySem.W.Frag) (mg : Str → Option Value) (base : Heap) (x : Str) (ps : List Str) (dvs : List V) (k : Nat) (sp : Sp) : Prop where
  ex : ∃ f fd ds, FnOk P w K mg base (L2.CX P w) k f fd ps sp ∧ mg x = some (.ref f) ∧ PySem.W.keepIn K (.ref f) = true ∧ Binds K fd ps ds ∧ Vals dvs ds
section
variable {X : Cx} {x : Str} {ps : List Str} {dvs : List V} {k : Nat} {sp : Sp} {t : TA} {e : Expr} {es : List Expr} {p pos : Pos} {EX : XK} {W : WX}
theorem pe_callF (F : Fo X.prog X.w X.K X.mg X.base x ps dvs k sp) (hr : Room k X.A) (hx : Passes (L2.CX X.prog X.w) X EX) (ha : PA X (e :: es) t) (hg : Gl X x := by rfl) (hdb : (x == ("__debug__" : Str)) = false := by decide)
    (he : starEach (e :: es) X.env = (false, eval e X.env) :: starEach es X.env := by rfl) (hpl : (backTo pos (starEach es X.env)).any (·.1) = false := by rfl) : PE X (.Call (.Name x p) (e :: es) [] pos) (tCall sp dvs EX t) := by
  obtain ⟨f, fd, ds, G, hm, hk, hb, hd⟩ := F.ex
  exact pe_call G hr hg hm hk hb hd hx ha hdb he hpl
def tCallSD (sp : Sp) (dvs : List V) (E : St → XK) (t : TA) : TE := fun σ H Q => t σ H fun vs H1 => sp (vs ++ dvs) H1 Q (E σ)
theorem pe_callFS (F : Fo X.prog X.w X.K X.mg X.base x ps dvs k sp) (hr : Room k X.A) (tk : Takes X W) (ha : PA X (e :: es) t) (hg : Gl X x := by rfl) (hdb : (x == ("__debug__" : Str)) = false := by decide)
    (he : starEach (e :: es) X.env = (false, eval e X.env) :: starEach es X.env := by rfl) (hpl : (backTo pos (starEach es X.env)).any (·.1) = false := by rfl) : PE X (.Call (.Name x p) (e :: es) [] pos) (tCallSD sp dvs (WE W) t) := by
  obtain ⟨f, fd, ds, FF, hm, hk, hb, hd⟩ := F.ex
  refine ⟨fun pins s σ H Q I h => ?_⟩
  refine wpAny_Call_Name_kw (ld_glob I hg hm ?_ hdb)
  refine PySem.W.callWith_K (h₀ := X.base) I.ok.mod.kin hk (thn (ha.run pos pins s σ H _ I h) fun us s1 ⟨vs, H1, I1, r, q⟩ => ⟨I1.kIn, ?_⟩) he hpl
  have r2 : Vals (vs ++ dvs) (us ++ ds) := r.append hd
  have hl : (us ++ ds).length = ps.length := by rw [← r2.length]; exact FF.len _ _ _ _ q
  refine wpAny_call (codeAny_mono (FF.run X.A X.stack s1 H1 ⟨us, []⟩ (us ++ ds) (vs ++ dvs) Q (WE W σ) hr I1.env0 (hb s1 us I1.kIn hl) r2 q) fun r s' hq => ?_)
  cases r with
  | error e => exact passAt tk σ pins H1 s1 e s' I1 hq
  | ok fl =>
    cases fl with
    | ret u => exact I1.after hq
    | next => exact False.elim hq
    | brk => exact False.elim hq
    | cont => exact False.elim hq
end
section
variable {K : PySem.W.Frag} {G G1 G2 : Sto} {D0 D1 D2 D3 : Own} {te ta tb tc : TE} {R Ra Rb : Ty} {E : Ends} {F0 F1 : Hp}
theorem ev_callSD {T : Type} {args : T → List Ty} {pre : T → Prop} {out : T → Out} {X : St → XK} {t : TA} (x : T) (h : EvA t G D0 (args x) D1) (hp : pre x) (ho : out x = .ok R) : Ev (tCallSD (fsp args pre out) [] X t) G D0 R D1 := fun σ H F hs ss Q q =>
  h σ H F hs ss _ fun vs H1 F1 s1 hs1 r1 => ⟨x, F1, D1, hs1, by rw [List.append_nil]; exact r1, hp, by rw [ho]; exact fun v H2 F2 s2 hs2 r2 => q v H2 F2 (s1.trans s2) hs2 r2⟩
theorem evX_callSD {T : Type} {args : T → List Ty} {pre : T → Prop} {out : T → Out} {W : WX} {t : TA} {c : Value} (x : T) (h : EvA t G D0 (args x) D1) (hp : pre x) (ho : out x = .err c) (hW : Go (W c none) F0 G D1) {P : St → Hp → Prop} : EvX (tCallSD (fsp args pre out) [] (WE W) t) G D0 P F0 := fun σ H F s hs ss Q =>
  h σ H F hs ss _ fun vs H1 F1 s1 hs1 r1 => ⟨x, F1, D1, hs1, by rw [List.append_nil]; exact r1, hp, by rw [ho]; exact fun H2 F2 s2 hs2 => hW σ H2 F2 ((s.trans s1).trans s2) hs2 ((ss.mono s1).mono s2)⟩
end
/-- a def of the text by its facts -/
theorem fo_mk {P : Program} {w : World} {K : PySem.W.Frag} {mg : Str → Option Value} {base : Heap} {x : Str} {ps : List Str} {k : Nat} {sp : Sp} {f : Addr} {fd : FuncData} {name qual : Str} {params : Arguments} {body : List Stmt} {scope : Scope}
    (F : FunD K name qual params body scope [] [] f fd) (hm : mg x = some (.ref f)) (ok : FnOk P w K mg base (L2.CX P w) k f fd ps sp)
    (h : ∀ (kV doc pm : Value) (an : Option Addr) (cdv ct : Value) (us : List Value), us.length = ps.length → bindArgs (PySem.W.fnOf name qual params body scope .none kV doc pm an cdv ct) ⟨us, []⟩ = pure (ps.zip us)) : Fo P w K mg base x ps [] k sp :=
  ⟨f, fd, [], ok, hm, F.kp, FunD.bindsN F h, .nil⟩
/-- .. called with n values, defaults behind the first j fill up -/
theorem fo_mkD {P : Program} {w : World} {K : PySem.W.Frag} {mg : Str → Option Value} {base : Heap} {x : Str} {ps : List Str} {k : Nat} {sp : Sp} {f : Addr} {fd : FuncData} {name qual : Str} {params : Arguments} {body : List Stmt} {scope : Scope} {dvs : List V}
    (F : FunD K name qual params body scope dvs [] f fd) (hm : mg x = some (.ref f)) (ok : FnOk P w K mg base (L2.CX P w) k f fd ps sp) (n j : Nat) (hd : dvs ≠ []) (hn : n + (dvs.length - j) = ps.length)
    (h : ∀ (T : Addr) (kV doc pm : Value) (an : Option Addr) (cdv ct : Value) (us its : List Value), us.length = n → its.length = dvs.length →
      ∃ k, bindArgs (PySem.W.fnOf name qual params body scope (.ref T) kV doc pm an cdv ct) ⟨us, []⟩ = seqItems? (.ref T) >>= k ∧ k (some its.toArray) = pure (ps.zip (us ++ its.drop j))) : Fo P w K mg base x ps (dvs.drop j) k sp := by
  obtain ⟨ds, h1, h2⟩ := FunD.binds1 F n j hd hn h
  exact ⟨f, fd, ds, ok, hm, F.kp, h2, h1⟩
end TL

set_option Elab.async false
set_option linter.all false
set_option maxRecDepth 100000
set_option maxHeartbeats 1000000
namespace TL
open PySem PySem.Spec L2
/-! ## short forms for the printed terms -/
section
variable {X : Cx} {x : Str} {pos : Pos}
theorem pe_globI {i : Int} (hg : Gl X x) (hm : ∃ t, X.mg x = some (.int i t)) (hd : (x == ("__debug__" : Str)) = false := by decide) : PE X (.Name x pos) (tC (.int i)) := by
  obtain ⟨t, h⟩ := hm
  exact pe_glob hg h ⟨t, rfl⟩ hd
theorem pe_globS {i : Str} (hg : Gl X x) (hm : ∃ t, X.mg x = some (.str i t)) (hd : (x == ("__debug__" : Str)) = false := by decide) : PE X (.Name x pos) (tC (.str i)) := by
  obtain ⟨t, h⟩ := hm
  exact pe_glob hg h ⟨t, rfl⟩ hd
def iSeq (K : PySem.W.Frag) (tl : TE) : TI := fun σ H R => iList K tl σ H R ∨ iTup K tl σ H R
theorem pi_seq {tg l : Expr} {tl : TE} (hl : PE X l tl) : PI X tg l (iSeq X.K tl) := ⟨fun pins s σ H R I h => by
  rcases h with h | h
  · exact (pi_list hl).run pins s σ H R I h
  · exact (pi_tup hl).run pins s σ H R I h⟩
/-- what is known of an own error's class -/
structure ExOk (K : PySem.W.Frag) (C : Addr) : Prop where
  x : PySem.W.excIn K C He.veBase "ValueError.__new__" = true
  k : PySem.W.keepIn K (.ref C) = true
  b : PySem.W.subIn K (.ref C) (.type "BaseException") = some true
  t : PySem.W.typeIn K (.ref C) = some (.type "type")
  c : ExcC K C
theorem ExOk.pmk {C : Addr} {m : Str} {j : Nat} {p p2 : Pos} (o : ExOk X.K C) (gC : X.mg x = some (.ref C)) (hg : Gl X x) (hdb : (x == ("__debug__" : Str)) = false := by decide) : PMk X (.Call (.Name x p) [.Constant (.str m) j p2] [] pos) (fun _ H Q => Q (.ref C) none H) :=
  pmk_own PySem.F.excBase_ValueError o.x gC o.k (raises_own o.b o.t) hg hdb
theorem ps_raiseX {C : Addr} {e : Expr} {EX : XK} (hc : X.calm = true) (tk : Takes X (fun cls d _ H => EX cls d H)) (he : PMk X e (fun _ H Q => Q (.ref C) none H)) : PS X (.Raise (some e) none pos) (tRaiseX C EX) := ps_raise hc tk he
theorem ps_raiseW {C : Addr} {e : Expr} {W : WX} (hc : X.calm = true) (tk : Takes X W) (he : PMk X e (fun _ H Q => Q (.ref C) none H)) : PS X (.Raise (some e) none pos) (tRaiseW C W) := ps_raise hc tk he
def tTryAs (K : PySem.W.Frag) (c : Value) (i : Nat) (tb : WX → TS) (ts : TS) (Wout : WX) : TS := fun D σ H => tb (wAsT K c i ts Wout D) D σ H
theorem ps_tryAs {n : Str} {c : Value} {i : Nat} {body suite : List Stmt} {b₀ : Stmt} {np pos' : Pos} {tb : WX → TS} {ts : TS} {Wout : WX} (hs : X.stack = X.env :: X.outer) (hf : X.env.frame = some X.env.locals) (hN : X.N.Nodup) (hi : X.N[i]? = some n) (hln : X.env.kindOf n = some .local) (hc : Names X x c) (tk : Takes X Wout)
    (hb : ∀ (W : WX) (pn : List (Addr × Obj)) (xe : Value → Shared → Prop), Takes (X.tr pn xe) W → PassesOwn (model X.prog X.w) X.A X.env xe → PSs (X.tr pn xe) body (tb W))
    (hsu : ∀ (a : Addr) (pn : List (Addr × Obj)), PSs (X.suite a pn) (b₀ :: suite) ts) :
    PS X (.Try body [.ExceptHandler (some (.Name x np)) (some n) (b₀ :: suite) pos'] [] [] pos) (tTryAs X.K c i tb ts Wout) := ps_try_asT hs hf hN hi hln hc tk hb hsu
end
section
variable {K : PySem.W.Frag} {G G1 G2 : Sto} {D0 D1 D2 D3 : Own} {te ta tb tc : TE} {tt tu : TT} {R Ra Rb : Ty} {E En : Ends} {F0 F1 : Hp} {t u : TS}
theorem evIt_seqL {tl : TE} {ds : List PyData} (h : Ev tl G D0 (TL.D K (.list ds)) D1) : EvIt K (iSeq K tl) G D0 ds D1 := fun σ H F hs ss R q => .inl (evIt_list h σ H F hs ss R q)
theorem evIt_seqT {tl : TE} {ds : List PyData} (h : Ev tl G D0 (TL.D K (.tuple ds)) D1) : EvIt K (iSeq K tl) G D0 ds D1 := fun σ H F hs ss R q => .inr (evIt_tup h σ H F hs ss R q)
theorem go_tryAs {c : Value} {i : Nat} {tb : WX → TS} {ts : TS} {Wout : WX} (h : ∀ W, W = wAsT K c i ts Wout E → Go (tb W E) F0 G D0) : Go (tTryAs K c i tb ts Wout E) F0 G D0 := h _ rfl
end
/-! ## kinds by class names -/
theorem tyX_mono {K : PySem.W.Frag} {F F' : Hp} {v : V} {n : Value} (s : Same F F') (h : TyX K F v n) : TyX K F' v n := by
  cases h with
  | base h =>
    cases h with
    | non => exact .base .non
    | bl b => exact .base (.bl b)
    | int i => exact .base (.int i)
    | str x => exact .base (.str x)
    | flt x => exact .base (.flt x)
    | lst e => exact .base (.lst (s _ _ e))
    | frz e => exact .base (.frz (s _ _ e))
    | tup e => exact .base (.tup (s _ _ e))
    | dK e => exact .base (.dK (s _ _ e))
    | dT e => exact .base (.dT (s _ _ e))
    | ins e cl ha hn htk hm => exact .base (.ins (s _ _ e) cl ha hn htk hm)
  | byt b => exact .byt b
  | set e => exact .set (s _ _ e)
  | kList e c => exact .kList e c
  | kTuple e c => exact .kTuple e c
  | kDict e c => exact .kDict e c
  | fTuple e => exact .fTuple (s _ _ e)
  | fDict e => exact .fDict (s _ _ e)
/-- a value of the built-in class n -/
def Of (K : PySem.W.Frag) (n : String) : Ty := ⟨fun v F => TyX K F v (.type n), tyX_mono⟩
theorem of_d {K : PySem.W.Frag} {d : PyData} {n : String} (e : tyN d = n) : ∀ v F, (D K d).p v F → (Of K n).p v F := fun v F h => by
  subst e
  exact tyX_of h
section
variable {K : PySem.W.Frag} {G G1 G2 : Sto} {D0 D1 D2 D3 : Own} {te ta tb tc : TE} {tt tu : TT} {R Ra Rb : Ty} {E En : Ends} {F0 F1 : Hp} {t u : TS}
theorem ev_isiO {m n : String} {b : Bool} (h : Ev te G D0 (Of K m) D1) (k : kitB m n = some b) : Ev (tCB (cIsi K) (tCons te (tCons (tC (.ty n)) tNil))) G D0 (DB K b) D1 :=
  evCB (evA_cons h (evA_cons (ev_c (R := Is (.ty n)) fun _ => rfl) evA_nil)) fun vs H F hs r Q q => by
    obtain ⟨v, w, rfl, h1, h2⟩ := allP2 r
    have e : w = .ty n := h2
    subst e
    exact .inl ⟨v, .ty n, _, _, b, rfl, .ty n, tyX_mono hs.sub h1, kit_ty k, q _ H F (Same.refl _) hs (.bl _)⟩
/-- a list of values of kinds -/
def LstT (K : PySem.W.Frag) (Rs : List Ty) : Ty := ⟨fun v F => ∃ a xs, v = .ref a ∧ SqL K F a xs ∧ AllP F Rs xs, fun s ⟨a, xs, e, h1, h2⟩ => ⟨a, xs, e, s.seq h1, h2.mono s⟩⟩
theorem ev_lstT {t : TA} {Rs : List Ty} (h : EvA t G D0 Rs D1) (hl : Rs.length ≤ 100000) : Ev (tLst t) G D0 (LstT K Rs) D1 := fun σ H F hs ss Q q =>
  h σ H F hs ss _ fun vs H1 F1 s1 hs1 r1 => by
    refine ⟨by rw [r1.len]; exact Nat.le_trans hl sizeLine_big, fun p hp => ?_⟩
    have s2 : Same F1 (upd F1 p (.lst vs)) := same_new (hs1.free hp)
    exact q _ _ _ (s1.trans s2) (hs1.frz hp) ⟨p, vs, rfl, SqL.of upd_same, r1.mono s2⟩
theorem atI_all {F : Hp} {Rs : List Ty} {vs : List V} (h : AllP F Rs vs) {i : Int} {R : Ty} (e : atI Rs i = some R) : ∃ v, atI vs i = some v ∧ R.p v F := by
  unfold atI at e ⊢
  rw [h.len]
  cases q : ixN Rs.length i with
  | none => rw [q] at e; cases e
  | some j =>
    rw [q] at e
    exact h.get e
theorem ix_LT {Rs : List Ty} {i : Int} (ha : Ev ta G D0 (LstT K Rs) D1) (hb : Ev tb G D1 (DI K i) D2) (e : atI Rs i = some R) : Ev (tOp (rIx K) ta tb) G D0 R D2 :=
  ev2 ha hb fun x y H F hs rx ry Q q => by
    obtain ⟨a, xs, rfl, h1, h2⟩ := rx
    rw [dp_int ry]
    obtain ⟨v, e1, e2⟩ := atI_all h2 e
    exact .inl ⟨a, xs, i, v, rfl, rfl, sqL_up hs h1, e1, q _ H F (Same.refl _) hs e2⟩
end
/-! ## the head -/
open PySem.W in
abbrev AlZ : Type := He.AlD × Bool
def obsZG (n : Nat) (fa : List He.Fa) (fn : List He.DefD) (ex : PySem.W.Frag → Bool) (g : Addr → Option Obj) : AlZ := (He.obsD fa fn (He.frG g (He.asD g n)), ex (He.frG g (He.asD g n)))
def SaysZ (fa : List He.Fa) (fn : List He.DefD) (ex : PySem.W.Frag → Bool) (K : PySem.W.Frag) : Prop := He.SaysD fa fn K ∧ ex K = true
def hookZ (n : Nat) (fa : List He.Fa) (fn : List He.DefD) (ex : PySem.W.Frag → Bool) : PySem.W.Hook where
  α := AlZ
  obs := fun s => obsZG n fa fn ex s.heap.get?
  val := fun _ => (He.valD fn, true)
  says := fun _ h => ∃ K : PySem.W.Frag, K.In h ∧ SaysZ fa fn ex K
  of := fun _ _ e => ⟨_, He.frG_in, congrArg (fun z : AlZ => z.1) e, congrArg (fun z : AlZ => z.2) e⟩
  keeps := fun _ _ _ ⟨K, hK, c⟩ k => ⟨K, PySem.W.Frag.In.keeps hK k, c⟩
theorem obsZG_eq {n : Nat} {fa : List He.Fa} {fn : List He.DefD} {ex : PySem.W.Frag → Bool} {g : Addr → Option Obj} {s : Shared} (h : ∀ a, g a = s.heap.get? a) : obsZG n fa fn ex g = (hookZ n fa fn ex).obs s := by
  have e : g = s.heap.get? := funext h
  rw [e] <;> rfl
def excB (K : PySem.W.Frag) (C : Addr) : Bool :=
  PySem.W.excIn K C He.veBase "ValueError.__new__" && (PySem.W.keepIn K (.ref C) && (decide (PySem.W.subIn K (.ref C) (.type "BaseException") = some true) && (decide (PySem.W.typeIn K (.ref C) = some (.type "type")) &&
  (He.eqO (PySem.W.findIn K (.ref C) "__getattribute__") (some (some (.builtin "BaseException.__getattribute__"))) && (He.eqO (PySem.W.findIn K (.ref C) "__getattr__") (some none) && (PySem.W.hasDictIn K C &&
  (He.eqO (PySem.W.findIn K (.ref C) "__class__") (some (some (.builtin "object.__class__"))) && (decide (PySem.W.specialIn K (.builtin "object.__class__") "__get__" = some (some (.builtin "getset_descriptor.__get__"))) && (decide (PySem.W.takesIn K (.builtin "object.__class__") = some true) &&
  decide (PySem.W.mroIn K C (.type "object") = some true))))))))))
theorem excB_ok {K : PySem.W.Frag} {C : Addr} (h : excB K C = true) : ExOk K C := by
  unfold excB at h
  simp only [Bool.and_eq_true, decide_eq_true_eq] at h
  obtain ⟨h1, h2, h3, h4, h5, h6, h7, h8, h9, h10, h11⟩ := h
  exact ⟨h1, h2, h3, h4, ⟨He.eqO_ok h5, He.eqO_ok h6, h3, h7, He.eqO_ok h8, h9, h10, h11⟩⟩
end TL

set_option Elab.async false
set_option linter.all false
set_option maxRecDepth 100000
set_option maxHeartbeats 1000000
namespace TL
open PySem PySem.Spec L2
theorem cx_no {P : Program} {w : World} {o : List Env} {H : Hp} {s : Shared} {e : Value} {s' : Shared} (z : L2.CX P w o H s E0 e s') : False := by
  obtain ⟨_, _, _, _, _, _, _, _, _, _, _, _, z⟩ := z
  exact z
theorem calm_fn {P : Program} {w : World} {K : PySem.W.Frag} {mg : Str → Option Value} {base : Heap} {k : Nat} {f : Addr} {fd : FuncData} {ps : List Str} {sp : Sp} (F : FnOk P w K mg base (L2.CX P w) k f fd ps sp) (h : ∀ vs H Q E, sp vs H Q E → sp vs H Q E0) : FnOk P w K mg base CX0 k f fd ps sp where
  run := fun A outer s H args us vs Q E hr e b r q => codeAny_mono (F.run A outer s H args us vs Q E0 hr e b r (h vs H Q E q)) fun r s' z => by
    cases r with
    | error e => exact (cx_no z).elim
    | ok fl => cases fl with
      | ret u => exact z
      | next => exact z
      | brk => exact z
      | cont => exact z
  len := F.len
/-- a law's promise -/
def lawSp (K : PySem.W.Frag) : Sp := fsp (T := List Int) (fun ns => [D K (.list (ns.map PyData.int))]) (fun ns => ns.length ≤ 63) (fun _ => .ok (DB K true))
theorem lawSp_E {K : PySem.W.Frag} : ∀ vs H Q E, lawSp K vs H Q E → lawSp K vs H Q E0 := fun vs H Q E ⟨x, F, D, h1, h2, h3, h4⟩ => ⟨x, F, D, h1, h2, h3, h4⟩
theorem ints_dp {K : PySem.W.Frag} {F : Hp} : ∀ ns : List Int, DpAll K F (ns.map V.int) (ns.map PyData.int)
  | [] => .nil
  | n :: ns => .cons (.int n) (ints_dp ns)
theorem law_sp {K : PySem.W.Frag} {H : Hp} {a : Addr} {ns : List Int} (hl : ns.length ≤ 63) (h : SqL K H a (ns.map V.int)) : lawSp K [.ref a] H (fun v _ => v = .bl true) E0 :=
  ⟨ns, H, [], ⟨Same.refl _, (fun a O m => by cases m), List.nodup_nil⟩, .cons (.lst h (ints_dp ns)) .nil, hl, fun v H' F' s hs r => dp_bl r⟩
end TL

set_option maxHeartbeats 1000000
namespace Nu
/-! ## whole numbers: the greatest common measure -/
theorem fmod_natAbs_lt {a b : Int} (h : b ≠ 0) : (a.fmod b).natAbs < b.natAbs := by
  rcases Int.lt_or_gt_of_ne h with hb | hb
  · have e : a.fmod b = -((-a).fmod (-b)) := by
      rw [Int.neg_fmod_neg, Int.neg_neg]
    have h1 := Int.fmod_nonneg_of_pos (-a) (show 0 < -b by omega)
    have h2 := Int.fmod_lt_of_pos (-a) (show 0 < -b by omega)
    omega
  · have h1 := Int.fmod_nonneg_of_pos a hb
    have h2 := Int.fmod_lt_of_pos a hb
    omega
theorem gcd_fmod (a b : Int) : Int.gcd b (a.fmod b) = Int.gcd a b := by
  have e : a.fmod b = a + b * (-(a.fdiv b)) := by
    have := Int.fmod_add_mul_fdiv a b
    grind
  rw [e]
  rw [Int.gcd_comm a b]
  exact Int.gcd_add_mul_left_right ..
/-- the bottom's sign on the measure -/
def by_ (t b : Int) : Int := if b < 0 then 0 - (Int.gcd t b : Int) else (Int.gcd t b : Int)
def q (t b : Int) : Rat := Rat.divInt t b
theorem gcd_pos {t b : Int} (h : b ≠ 0) : 0 < Int.gcd t b := Int.gcd_pos_of_ne_zero_right _ h
theorem by_ne {t b : Int} (h : b ≠ 0) : by_ t b ≠ 0 := by
  have := gcd_pos (t := t) h
  unfold by_
  split <;> omega
theorem by_le {t b : Int} (h : b ≠ 0) : (by_ t b).natAbs ≤ b.natAbs := by
  have := Int.gcd_le_natAbs_right t h
  unfold by_
  split <;> omega
theorem fdiv_dvd {a b c : Int} (hc : c ≠ 0) (h : a = c * b) : a.fdiv c = b := by
  subst h
  exact Int.mul_fdiv_cancel_left _ hc
theorem top_is {t b : Int} (h : b ≠ 0) : t.fdiv (by_ t b) = (q t b).num := by
  have gp := gcd_pos (t := t) h
  obtain ⟨u, hu⟩ := Int.gcd_dvd_left t b
  refine fdiv_dvd (by_ne h) ?_
  unfold q by_
  rw [Rat.num_divInt, Int.gcd_comm b t]
  have g0 : (Int.gcd t b : Int) ≠ 0 := by omega
  have e1 : b.sign * t / (Int.gcd t b : Int) = b.sign * u := by
    have : b.sign * t = (Int.gcd t b : Int) * (b.sign * u) := by
      conv => lhs; rw [hu]
      grind
    rw [this]
    exact Int.mul_ediv_cancel_left _ g0
  rw [e1]
  by_cases hb : b < 0
  · rw [if_pos hb, Int.sign_eq_neg_one_of_neg hb]
    conv => lhs; rw [hu]
    grind
  · rw [if_neg hb, Int.sign_eq_one_of_pos (by omega)]
    conv => lhs; rw [hu]
    grind
theorem bot_is {t b : Int} (h : b ≠ 0) : b.fdiv (by_ t b) = ((q t b).den : Int) := by
  have gp := gcd_pos (t := t) h
  obtain ⟨u, hu⟩ := Int.gcd_dvd_right t b
  refine fdiv_dvd (by_ne h) ?_
  unfold q by_
  rw [Rat.den_divInt, if_neg h, Int.gcd_comm b t]
  have g0 : (Int.gcd t b : Int) ≠ 0 := by omega
  have e1 : (((b.natAbs / Int.gcd t b : Nat)) : Int) = u.natAbs := by
    have : b.natAbs = Int.gcd t b * u.natAbs := by
      conv => lhs; rw [hu]
      rw [Int.natAbs_mul, Int.natAbs_natCast]
    rw [this, Nat.mul_div_cancel_left _ gp]
  rw [e1]
  have su : (b < 0 → u < 0) ∧ (0 < b → 0 < u) := by
    constructor
    · intro hb
      rcases Int.lt_or_le u 0 with z | z
      · exact z
      · have : 0 ≤ (Int.gcd t b : Int) * u := Int.mul_nonneg (by omega) z
        omega
    · intro hb
      rcases Int.lt_or_le 0 u with z | z
      · exact z
      · have : (Int.gcd t b : Int) * u ≤ 0 := Int.mul_nonpos_of_nonneg_of_nonpos (by omega) z
        omega
  by_cases hb : b < 0
  · rw [if_pos hb]
    have := su.1 hb
    have e : ((u.natAbs : Nat) : Int) = - u := by omega
    rw [e]
    conv => lhs; rw [hu]
    grind
  · rw [if_neg hb]
    have := su.2 (by omega)
    have e : ((u.natAbs : Nat) : Int) = u := by omega
    rw [e]
    conv => lhs; rw [hu]
/-- the law's own way: signs turned first -/
theorem q_neg {t b : Int} : q (0 - t) (0 - b) = q t b := by
  unfold q
  rw [Int.zero_sub, Int.zero_sub]
  exact Rat.neg_divInt_neg ..
theorem by_pos {t b : Int} (h : 0 < b) : by_ t b = (Int.gcd t b : Int) := by
  unfold by_
  rw [if_neg (by omega)]
theorem q_self (r : Rat) : q r.num r.den = r := Rat.num_divInt_den r
theorem den_ne (r : Rat) : (r.den : Int) ≠ 0 := by
  have := r.den_pos
  omega
theorem plus_is (a b : Rat) : q (a.num * b.den + b.num * a.den) (a.den * b.den) = a + b := by
  conv => rhs; rw [← q_self a, ← q_self b]
  exact (Rat.divInt_add_divInt _ _ (den_ne a) (den_ne b)).symm
theorem minus_is (a b : Rat) : q (a.num * b.den - b.num * a.den) (a.den * b.den) = a - b := by
  conv => rhs; rw [← q_self a, ← q_self b]
  exact (Rat.divInt_sub_divInt _ _ (den_ne a) (den_ne b)).symm
theorem times_is (a b : Rat) : q (a.num * b.num) (a.den * b.den) = a * b := by
  conv => rhs; rw [← q_self a, ← q_self b]
  exact (Rat.divInt_mul_divInt ..).symm
theorem over_is (a b : Rat) : q (a.num * b.den) (a.den * b.num) = a / b := by
  rw [Rat.div_def, Rat.inv_def]
  conv => rhs; lhs; rw [← q_self a]
  exact (Rat.divInt_mul_divInt ..).symm
theorem less_is (a b : Rat) : (a.num * b.den < b.num * a.den) ↔ a < b := (Rat.lt_iff a b).symm
theorem num_zero {r : Rat} : r.num = 0 ↔ r = 0 := Rat.num_eq_zero
theorem q_zero (b : Int) : q 0 b = 0 := by unfold q; exact Rat.zero_divInt b
theorem q_one (t : Int) : (q t 1).num = t ∧ (q t 1).den = 1 := by
  unfold q
  refine ⟨?_, ?_⟩
  · rw [Rat.num_divInt]; simp
  · rw [Rat.den_divInt]; simp
/-! ## sizes -/
def Bd (n : Nat) (r : Rat) : Prop := r.num.natAbs < 2 ^ n ∧ r.den < 2 ^ n
theorem natAbs_mul_lt {a b : Int} {n m : Nat} (ha : a.natAbs < 2 ^ n) (hb : b.natAbs < 2 ^ m) : (a * b).natAbs < 2 ^ (n + m) := by
  rw [Int.natAbs_mul, Nat.pow_add]
  exact Nat.mul_lt_mul'' ha hb
theorem natAbs_add_lt {a b : Int} {n : Nat} (ha : a.natAbs < 2 ^ n) (hb : b.natAbs < 2 ^ n) : (a + b).natAbs < 2 ^ (n + 1) := by
  rw [Nat.pow_succ]
  omega
theorem natAbs_sub_lt {a b : Int} {n : Nat} (ha : a.natAbs < 2 ^ n) (hb : b.natAbs < 2 ^ n) : (a - b).natAbs < 2 ^ (n + 1) := by
  rw [Nat.pow_succ]
  omega
theorem lt_pow_mono {a n m : Nat} (h : a < 2 ^ n) (l : n ≤ m) : a < 2 ^ m := Nat.lt_of_lt_of_le h (Nat.pow_le_pow_right (by decide) l)
theorem Bd.mono {n m : Nat} {r : Rat} (h : Bd n r) (l : n ≤ m) : Bd m r := ⟨lt_pow_mono h.1 l, lt_pow_mono h.2 l⟩
theorem natAbs_ediv_le (a : Int) {g : Nat} (h : 0 < g) : (a / (g : Int)).natAbs ≤ a.natAbs := by
  rcases Int.lt_or_le a 0 with z | z
  · have h1 : a / (g : Int) < 0 := Int.ediv_neg_of_neg_of_pos z (by omega)
    have h2 : a ≤ a / (g : Int) := by
      have h3 : a / (g : Int) * (g : Int) ≤ a := Int.ediv_mul_le a (by omega)
      have h4 : a - (g : Int) < a / (g : Int) * (g : Int) := by
        have := Int.lt_ediv_add_one_mul_self a (show (0 : Int) < g by omega)
        grind
      have : a * (g : Int) ≤ a * 1 := Int.mul_le_mul_of_nonpos_left (by omega) (by omega)
      refine Int.le_ediv_of_mul_le (by omega) ?_
      omega
    omega
  · have h1 : 0 ≤ a / (g : Int) := Int.ediv_nonneg z (by omega)
    have h2 : a / (g : Int) ≤ a := Int.ediv_le_self _ z
    omega
theorem q_bd {t b : Int} {n : Nat} (ht : t.natAbs < 2 ^ n) (hb : b.natAbs < 2 ^ n) (h : b ≠ 0) : Bd n (q t b) := by
  have gp := gcd_pos (t := t) h
  rw [Int.gcd_comm] at gp
  unfold q Bd
  rw [Rat.num_divInt, Rat.den_divInt, if_neg h]
  refine ⟨?_, Nat.lt_of_le_of_lt (Nat.div_le_self _ _) hb⟩
  refine Nat.lt_of_le_of_lt (natAbs_ediv_le _ gp) ?_
  rw [Int.natAbs_mul]
  have : b.sign.natAbs ≤ 1 := by
    rcases Int.lt_or_gt_of_ne h with z | z
    · rw [Int.sign_eq_neg_one_of_neg z]; decide
    · rw [Int.sign_eq_one_of_pos z]; decide
  have h2 : b.sign.natAbs * t.natAbs ≤ 1 * t.natAbs := Nat.mul_le_mul_right _ this
  omega
theorem den_abs {n : Nat} {r : Rat} (h : Bd n r) : ((r.den : Int)).natAbs < 2 ^ n := by simpa using h.2
theorem plus_bd {a b : Rat} {n m : Nat} (ha : Bd n a) (hb : Bd m b) : Bd (n + m + 1) (a + b) := by
  rw [← plus_is]
  refine q_bd (natAbs_add_lt (natAbs_mul_lt ha.1 (den_abs hb)) (by rw [Nat.add_comm]; exact natAbs_mul_lt hb.1 (den_abs ha))) (lt_pow_mono (natAbs_mul_lt (den_abs ha) (den_abs hb)) (by omega)) (Int.mul_ne_zero (den_ne a) (den_ne b))
theorem minus_bd {a b : Rat} {n m : Nat} (ha : Bd n a) (hb : Bd m b) : Bd (n + m + 1) (a - b) := by
  rw [← minus_is]
  refine q_bd (natAbs_sub_lt (natAbs_mul_lt ha.1 (den_abs hb)) (by rw [Nat.add_comm]; exact natAbs_mul_lt hb.1 (den_abs ha))) (lt_pow_mono (natAbs_mul_lt (den_abs ha) (den_abs hb)) (by omega)) (Int.mul_ne_zero (den_ne a) (den_ne b))
theorem times_bd {a b : Rat} {n m : Nat} (ha : Bd n a) (hb : Bd m b) : Bd (n + m) (a * b) := by
  rw [← times_is]
  exact q_bd (natAbs_mul_lt ha.1 hb.1) (natAbs_mul_lt (den_abs ha) (den_abs hb)) (Int.mul_ne_zero (den_ne a) (den_ne b))
theorem over_bd {a b : Rat} {n m : Nat} (ha : Bd n a) (hb : Bd m b) (h : b ≠ 0) : Bd (n + m) (a / b) := by
  rw [← over_is]
  exact q_bd (natAbs_mul_lt ha.1 (den_abs hb)) (natAbs_mul_lt (den_abs ha) hb.1) (Int.mul_ne_zero (den_ne a) (fun z => h (num_zero.mp z)))
end Nu

set_option Elab.async false
set_option linter.all false
set_option maxRecDepth 100000
set_option maxHeartbeats 1000000
namespace TL
open PySem PySem.Spec L2
/-! ## kinds by class names, numbers, wells: what most laws share -/
def kinds : List String := ["int", "bool", "NoneType", "str", "tuple", "list", "dict"]
abbrev DQ (K : PySem.W.Frag) (r : Rat) : Ty := D K (.tuple [.int r.num, .int r.den])
inductive NA where
  | odd1 (n : String) (m : String)
  | odd2 (t : Int) (n : String)
  | good (t b : Int)
def NA.args (K : PySem.W.Frag) : NA → List Ty
  | .odd1 n m => [Of K n, Of K m]
  | .odd2 t n => [DI K t, Of K n]
  | .good t b => [DI K t, DI K b]
def NA.pre : NA → Prop
  | .odd1 n m => n ∈ kinds ∧ n ≠ "int" ∧ m ∈ kinds
  | .odd2 t n => n ∈ kinds ∧ n ≠ "int"
  | .good t b => b.natAbs < 2 ^ 8000
def NA.out (K : PySem.W.Frag) : NA → Out
  | .good t b => if b = 0 then .err (.ref (He.ga K "NoNumber")) else .ok (DQ K (Nu.q t b))
  | _ => .err (.ref (He.ga K "NoNumber"))
/-- a well: its way, its cell, its turns -/
structure We where
  f : Int
  v : Int
  t : Int
def We.d (w : We) : List PyData := [.int w.f, .int w.v, .int w.t]
def We.ok (n : Nat) (w : We) : Prop := w.f = 1 ∨ (w.f = 0 ∧ w.v.natAbs < 2 ^ 60 ∧ 0 ≤ w.t ∧ w.t ≤ n)
def mix (v t : Int) : Int := ((((((v + 7919 * t * t) + t) * 48271).fmod 2305843009213693951) * 1442695040888963407 + 4321).fmod 2305843009213693921).fdiv 64
def We.val (w : We) (m : Int) : Int := if w.f = 1 then w.v.fmod m else (mix w.v (w.t + 1)).fmod m
def We.nx (w : We) (m : Int) : We := if w.f = 1 then ⟨w.f, w.v.fdiv m, w.t⟩ else ⟨w.f, w.v, w.t + 1⟩
def well (ns : List Int) (k : Int) : We := let c := if k < ns.length then ns.getD k.toNat 0 else 0; ⟨if 10 ^ 18 ≤ (if c < 0 then -c else c) then 1 else 0, c, 17 * k⟩
def pick (l : List Int) (i : Int) : Int := l.getD i.toNat 0
section
variable {K : PySem.W.Frag} {G : Sto} {D0 D1 D2 : Own} {te ta tb : TE} {F0 : Hp} {E : Ends} {X : XK}
theorem kit_int {n : String} (h : n ∈ kinds) : kitB n "int" = some (decide (n = "int") || decide (n = "bool")) := by
  simp only [kinds, List.mem_cons, List.not_mem_nil, or_false] at h
  rcases h with rfl | rfl | rfl | rfl | rfl | rfl | rfl <;> decide +kernel
theorem kit_bool {n : String} (h : n ∈ kinds) : kitB n "bool" = some (decide (n = "bool")) := by
  simp only [kinds, List.mem_cons, List.not_mem_nil, or_false] at h
  rcases h with rfl | rfl | rfl | rfl | rfl | rfl | rfl <;> decide +kernel
theorem whole_val (n : String) : ((decide (n = "int") || decide (n = "bool")) && !decide (n = "bool")) = decide (n = "int") := by
  by_cases h : n = "int"
  · subst h; decide
  · by_cases h2 : n = "bool" <;> simp [h, h2]
theorem ev_of {d : PyData} (h : Ev te G D0 (D K d) D1) : Ev te G D0 (Of K (tyN d)) D1 := ev_imp h (of_d rfl)
theorem mem_int : "int" ∈ kinds := by decide
theorem div_ok {t b : Int} (h0 : b ≠ 0) (hb : b.natAbs < 2 ^ 8000) : CDivA t (Nu.by_ t b) := by
  refine ⟨Nu.by_ne h0, ?_⟩
  have h1 := Nu.by_le (t := t) h0
  have : (Nu.by_ t b).natAbs < 2 ^ 8000 := Nat.lt_of_le_of_lt h1 hb
  exact Nat.lt_of_lt_of_le (PySem.Flt.log2_lt_of (by decide) this) (by decide)
theorem set_at {D : Own} {k : Nat} {x y : Addr × OTy} (h : D[k]? = some x) : (D.set k y)[k]? = some y := by
  have lt : k < D.length := (List.getElem?_eq_some_iff.mp h).1
  rw [List.getElem?_set_self lt]
theorem set_lt {D : Own} {k : Nat} {y : Addr × OTy} (lt : k < D.length) : (D.set k y)[k]? = some y := by
  rw [List.getElem?_set_self lt]
theorem set_id {D : Own} {k : Nat} {x : Addr × OTy} (h : D[k]? = some x) : D.set k x = D := by
  refine List.ext_getElem? fun i => ?_
  by_cases z : i = k
  · subst z
    rw [set_at h, h]
  · rw [List.getElem?_set_ne (Ne.symm z)]
theorem pick_at {l : List Int} {i : Int} (h0 : 0 ≤ i) (h1 : i < l.length) : atI (l.map PyData.int) i = some (.int (pick l i)) := by
  unfold atI ixN pick
  rw [if_pos h0, List.length_map, if_pos h1, Option.bind_some, List.getElem?_map]
  have h2 : i.toNat < l.length := by omega
  rw [List.getElem?_eq_getElem h2, List.getD_eq_getElem?_getD, List.getElem?_eq_getElem h2]
  rfl
theorem wmul {i j : Int} (a b : Nat) (ha : i.natAbs < 2 ^ a) (hb : j.natAbs < 2 ^ b) (h0 : 0 < a := by decide) (h1 : 0 < b := by decide) (h : a + b ≤ 1000000 := by decide) : CMulW i j := wide_mul ha hb h0 h1 h
theorem cdiv {i j : Int} (h0 : j ≠ 0) (hb : j.natAbs < 2 ^ 8000) : CDivA i j := ⟨h0, Nat.lt_of_lt_of_le (PySem.Flt.log2_lt_of (by decide) hb) (by decide)⟩
theorem mod_ok {a m : Int} (h : 0 < m) : 0 ≤ a.fmod m ∧ a.fmod m < m := ⟨Int.fmod_nonneg_of_pos a h, Int.fmod_lt_of_pos a h⟩
theorem We.val_ok {w : We} {m : Int} (h : 0 < m) : 0 ≤ w.val m ∧ w.val m < m := by
  unfold We.val
  split <;> exact mod_ok h
theorem We.nx_ok {w : We} {m : Int} {n : Nat} (h : w.ok n) : (w.nx m).ok (n + 1) := by
  unfold We.nx
  rcases h with h | ⟨h1, h2, h3, h4⟩
  · rw [if_pos h]; exact .inl h
  · rw [if_neg (by omega)]
    exact .inr ⟨h1, h2, by show 0 ≤ w.t + 1; omega, by show w.t + 1 ≤ ((n + 1 : Nat) : Int); omega⟩
theorem We.well_ok {ns : List Int} {i : Int} (h0 : 0 ≤ i) (h1 : i ≤ 63) : (well ns i).ok 1100 := by
  unfold well We.ok
  dsimp only
  generalize (if i < (ns.length : Int) then ns.getD i.toNat 0 else 0) = c
  by_cases hc : 10 ^ 18 ≤ if c < 0 then -c else c
  · rw [if_pos hc]; exact .inl rfl
  · rw [if_neg hc]
    refine .inr ⟨rfl, ?_, by omega, by omega⟩
    have e : ((2 : Nat) ^ 60) = 1152921504606846976 := by decide
    rw [e]
    have e2 : (10 : Int) ^ 18 = 1000000000000000000 := by decide
    rw [e2] at hc
    split at hc <;> omega
theorem eqv_q (a b : Rat) : PyData.eqv (.tuple [.int a.num, .int a.den]) (.tuple [.int b.num, .int b.den]) = decide (a = b) := by
  simp only [PyData.eqv, PyData.eqvAll, Bool.and_true]
  by_cases h : a = b
  · subst h; simp
  · rw [decide_eq_false h]
    cases e : (a.num == b.num && (a.den : Int) == (b.den : Int)) with
    | false => rfl
    | true =>
      simp only [Bool.and_eq_true, beq_iff_eq] at e
      exact absurd (Rat.ext e.1 (by omega)) h
theorem shaped_q (a b : Int) : SeqAt.shaped (.tuple [.int a, .int b]) = true := by rfl
theorem pick_pos {l : List Int} {i : Int} (h : ∀ x ∈ l, 0 < x) (h0 : 0 ≤ i) (h1 : i < l.length) : 0 < pick l i := by
  unfold pick
  have h2 : i.toNat < l.length := by omega
  rw [List.getD_eq_getElem?_getD, List.getElem?_eq_getElem h2]
  exact h _ (List.getElem_mem h2)
theorem pick_lt {l : List Int} {i : Int} {n : Nat} (h : ∀ x ∈ l, x.natAbs < n) (h0 : 0 ≤ i) (h1 : i < l.length) : (pick l i).natAbs < n := by
  unfold pick
  have h2 : i.toNat < l.length := by omega
  rw [List.getD_eq_getElem?_getD, List.getElem?_eq_getElem h2]
  exact h _ (List.getElem_mem h2)
theorem pick_ne {l : List Int} {i : Int} (h : ∀ x ∈ l, x ≠ 0) (h0 : 0 ≤ i) (h1 : i < l.length) : pick l i ≠ 0 := by
  unfold pick
  have h2 : i.toNat < l.length := by omega
  rw [List.getD_eq_getElem?_getD, List.getElem?_eq_getElem h2]
  exact h _ (List.getElem_mem h2)
theorem small {m : Int} (h : m.natAbs < 2 ^ 62) : m.natAbs < 2 ^ 8000 := Nu.lt_pow_mono h (by decide)
theorem number_args {x : NA} : ∃ R1 R2, x.args K = [R1, R2] := by
  cases x <;> exact ⟨_, _, rfl⟩
theorem ev_dnew : Ev tDNewK G D0 (Of K "dict") D0 := fun σ H F hs ss Q q p hp =>
  q _ _ (upd F p (.dK [])) (same_new (hs.free hp)) (hs.frz hp) (.base (.dK upd_same))
theorem out_good {t b : Int} (h : b ≠ 0) : NA.out K (.good t b) = .ok (DQ K (Nu.q t b)) := if_neg h
theorem out_nought {t : Int} : NA.out K (.good t 0) = .err (.ref (He.ga K "NoNumber")) := by simp [NA.out]
theorem ev_ofI {i : Int} (h : Ev te G D0 (DI K i) D1) : Ev te G D0 (Of K "int") D1 := ev_of h
end
end TL

set_option Elab.async false
set_option linter.all false
set_option maxRecDepth 100000
set_option maxHeartbeats 1000000
namespace TL
open PySem PySem.Spec L2
section
variable {K : PySem.W.Frag} {G G1 G2 : Sto} {D0 D1 D2 D3 : Own} {te ta tb : TE} {R Ra Rb : Ty} {F0 F1 : Hp} {E : Ends} {X : XK}
/-- a call that raises, the def around lets it out -/
theorem evX_call {T : Type} {args : T → List Ty} {pre : T → Prop} {out : T → Out} {t : TA} {c : Value} (x : T) (h : EvA t G D0 (args x) D1) (hp : pre x) (ho : out x = .err c) (hX : GoX X F0 c D1) {P : St → Hp → Prop} : EvX (tCall (fsp args pre out) [] X t) G D0 P F0 := fun σ H F s hs ss Q =>
  h σ H F hs ss _ fun vs H1 F1 s1 hs1 r1 => ⟨x, F1, D1, hs1, by rw [List.append_nil]; exact r1, hp, by rw [ho]; exact fun H2 F2 s2 hs2 => hX H2 F2 ((s.trans s1).trans s2) hs2⟩
theorem go_retX {P : St → Hp → Prop} (h : EvX te G D0 P F0) : Go (tRet te E) F0 G D0 := fun σ H F s hs ss => h σ H F s hs ss _
/-! numbers in products -/
theorem cq {i j : Int} {n m : Nat} (ha : i.natAbs < 2 ^ n) (hb : j.natAbs < 2 ^ m) (hn : n ≤ 8000) (hm : m ≤ 8000) : CMulW i j :=
  wmul 8001 8001 (Nu.lt_pow_mono ha (by omega)) (Nu.lt_pow_mono hb (by omega))
theorem numOf {a : Rat} {n : Nat} (h : Nu.Bd n a) : a.num.natAbs < 2 ^ n := h.1
theorem denOf {a : Rat} {n : Nat} (h : Nu.Bd n a) : ((a.den : Int)).natAbs < 2 ^ n := Nu.den_abs h
theorem dd_small {a b : Rat} (ha : Nu.Bd 3000 a) (hb : Nu.Bd 3000 b) : ((a.den : Int) * (b.den : Int)).natAbs < 2 ^ 8000 := Nu.lt_pow_mono (Nu.natAbs_mul_lt (Nu.den_abs ha) (Nu.den_abs hb)) (by decide)
theorem dd_ne (a b : Rat) : (a.den : Int) * (b.den : Int) ≠ 0 := Int.mul_ne_zero (Nu.den_ne a) (Nu.den_ne b)
theorem bd_small {i : Int} {n : Nat} (h : i.natAbs < 2 ^ n) (l : n ≤ 8000) : i.natAbs < 2 ^ 8000 := Nu.lt_pow_mono h l
theorem ev_q0 {a : Rat} (h : Ev te G D0 (DQ K a) D1) : Ev (tOp (rIx K) te (tC (.int 0))) G D0 (DI K a.num) D1 := ix_T h ev_int rfl
theorem ev_q1 {a : Rat} (h : Ev te G D0 (DQ K a) D1) : Ev (tOp (rIx K) te (tC (.int 1))) G D0 (DI K a.den) D1 := ix_T h ev_int rfl
theorem ev_qt {a b : Int} {r : Rat} (h : Ev te G D0 (D K (.tuple [.int a, .int b])) D1) (e1 : r.num = a) (e2 : (r.den : Int) = b) : Ev te G D0 (DQ K r) D1 := by
  subst e1 e2
  exact h
/-- the pair of a written top and bottom -/
theorem ev_pair {a b : Int} (r : Rat) (ha : Ev ta G D0 (DI K a) D1) (hb : Ev tb G D1 (DI K b) D2) (e1 : r.num = a) (e2 : (r.den : Int) = b) : Ev (tTup (tCons ta (tCons tb tNil))) G D0 (DQ K r) D2 :=
  ev_qt (ev_tup (evD_cons ha (evD_cons hb evD_nil)) (by simp)) e1 e2
theorem eq_Q {a b : Rat} (ha : Ev ta G D0 (DQ K a) D1) (hb : Ev tb G D1 (DQ K b) D2) : Ev (tOp (qEq K) ta tb) G D0 (DB K (decide (a = b))) D2 :=
  ev_d (eq_D ha hb (shaped_q _ _) (shaped_q _ _)) (by rw [eqv_q])
theorem ne_Q {a b : Rat} (ha : Ev ta G D0 (DQ K a) D1) (hb : Ev tb G D1 (DQ K b) D2) : Ev (tOp (qNe K) ta tb) G D0 (DB K (!decide (a = b))) D2 :=
  ev_d (ne_D ha hb (shaped_q _ _) (shaped_q _ _)) (by rw [eqv_q])
theorem SLe.keep {G G' : Sto} {x : Option Ty} (h : SLe G G') : SLe (x :: G) (x :: G') := by
  cases x with
  | none => exact .drop h
  | some R => exact .imp (fun _ _ h => h) h
theorem neg1_n : (-1 : Rat).num = -1 := rfl
theorem neg1_d : (((-1 : Rat).den : Nat) : Int) = 1 := rfl
theorem bd_neg1 : Nu.Bd 2 (-1) := ⟨by decide, by decide⟩
theorem bd_0 : Nu.Bd 1 0 := ⟨by decide, by decide⟩
end
end TL

set_option Elab.async false
set_option linter.all false
set_option maxRecDepth 100000
set_option maxHeartbeats 1000000
namespace TL
open PySem PySem.Spec L2
/-! ## comprehensions -/
theorem wipe_get (σ : L2.St) : ∀ (vs : List Nat) (j : Nat), (wipe σ vs)[j]? = if j ∈ vs then (σ[j]?).map (fun _ => none) else σ[j]?
  | [], j => by simp [wipe]
  | v :: vs, j => by
    have len := wipe_length σ vs
    unfold wipe
    by_cases e : v = j
    · subst e
      by_cases lt : v < (wipe σ vs).length
      · rw [List.getElem?_set_self lt]
        rw [len] at lt
        simp [lt]
      · rw [List.getElem?_eq_none (by simpa using lt)]
        rw [len] at lt
        simp [List.getElem?_eq_none (Nat.le_of_not_lt lt)]
    · rw [List.getElem?_set_ne e, wipe_get σ vs j]
      have : (j ∈ v :: vs) ↔ (j ∈ vs) := by
        simp only [List.mem_cons]
        constructor
        · rintro (h | h)
          · exact absurd h.symm e
          · exact h
        · exact .inr
      simp only [this]
theorem wipe_eq {σ τ : L2.St} {vs : List Nat} (h : ∀ j, j ∉ vs → σ[j]? = τ[j]?) (l : σ.length = τ.length) : wipe σ vs = wipe τ vs := by
  refine List.ext_getElem? fun j => ?_
  rw [wipe_get, wipe_get]
  by_cases m : j ∈ vs
  · rw [if_pos m, if_pos m]
    by_cases lt : j < σ.length
    · have lt2 : j < τ.length := by omega
      simp [lt, lt2]
    · have lt2 : ¬ j < τ.length := by omega
      simp [lt, lt2]
  · rw [if_neg m, if_neg m]
    exact h j m
theorem wipe_wipe (σ : L2.St) (vs : List Nat) : wipe (wipe σ vs) vs = wipe σ vs := wipe_eq (fun j m => by rw [wipe_get, if_neg m]) (wipe_length σ vs)
theorem wipe_set {σ τ : L2.St} {vs : List Nat} {i : Nat} {x : Option V} (m : i ∈ vs) (h : wipe τ vs = wipe σ vs) : wipe (τ.set i x) vs = wipe σ vs := by
  rw [← h]
  refine wipe_eq (fun j mj => ?_) (by simp)
  exact List.getElem?_set_ne (fun e => mj (by rw [← e]; exact m))
/-- the slots forgotten -/
def wipeG (G : Sto) : List Nat → Sto
  | [] => G
  | v :: vs => (wipeG G vs).set v none
theorem SS.wipe {F : Hp} {G : Sto} {σ : L2.St} (h : SS F G σ) : ∀ vs : List Nat, SS F (wipeG G vs) (L2.wipe σ vs)
  | [] => h
  | v :: vs => (SS.wipe h vs).unset v
/-- a target within a block: it writes the block's own names alone -/
def EvW (g : TG) (vs : List Nat) (G : Sto) (R : Ty) (G1 : Sto) : Prop := ∀ (v : V) (σ τ : L2.St) (H F : Hp) (D : Own), HS D H F → SS F G τ → wipe τ vs = wipe σ vs → R.p v F → ∀ Q : L2.St → Hp → Prop, (∀ σ', SS F G1 σ' → wipe σ' vs = wipe σ vs → Q σ' H) → g v τ H Q
def EvWs (K : PySem.W.Frag) (g : TGs) (vs : List Nat) (G : Sto) (ds : List PyData) (G1 : Sto) : Prop := ∀ (xs : List V) (σ τ : L2.St) (H F : Hp) (D : Own), HS D H F → SS F G τ → wipe τ vs = wipe σ vs → DpAll K F xs ds → ∀ Q : L2.St → Hp → Prop, (∀ σ', SS F G1 σ' → wipe σ' vs = wipe σ vs → Q σ' H) → g xs τ H Q
section
variable {K : PySem.W.Frag} {G G1 G2 : Sto} {D0 D1 D2 D3 : Own} {te ta tb : TE} {tt : TT} {R Ra Rb : Ty} {F0 F1 : Hp} {E : Ends} {X : XK} {vs : List Nat}
theorem evW_name {i : Nat} (m : i ∈ vs) : EvW (gName i) vs G R (G.set i (some R)) := fun v σ τ H F D hs ss w r Q q => q _ (ss.set r i) (wipe_set m w)
theorem evWs_nil : EvWs K gNil vs G [] G := fun xs σ τ H F D hs ss w r Q q => by
  cases r
  exact ⟨rfl, q _ ss w⟩
theorem evWs_cons {g : TG} {gs : TGs} {d : PyData} {ds : List PyData} (h1 : EvW g vs G (TL.D K d) G1) (h2 : EvWs K gs vs G1 ds G2) : EvWs K (gCons g gs) vs G (d :: ds) G2 := fun xs σ τ H F D hs ss w r Q q => by
  cases r with
  | cons r1 r2 => exact ⟨_, _, rfl, h1 _ σ τ H F D hs ss w r1 _ fun σ' ss' w' => h2 _ σ σ' H F D hs ss' w' r2 Q q⟩
theorem evW_tup {gs : TGs} {ds : List PyData} {n : Nat} (h : EvWs K gs vs G ds G1) (hn : ds.length = n) : EvW (gTup K n gs) vs G (TL.D K (.tuple ds)) G1 := fun v σ τ H F D hs ss w r Q q => by
  obtain ⟨a, xs, rfl, h1, h2⟩ := dp_tup r
  exact ⟨a, xs, rfl, sqT_up hs h1, (dpAll_len h2).trans hn, h xs σ τ H F D hs ss w h2 Q q⟩
theorem evT_yes : EvT tYes G D0 true D0 := fun σ H F hs ss Q q => q H F (Same.refl _) hs
/-- a comprehension, its turns by a state -/
theorem evN_lc {S : Type} {wi : TI} {g : TG} {ds res : List PyData} {DF : Own} (hi : EvIt K wi G D0 ds D1) (I : Nat → S → List PyData → Prop) (Ds : S → Own) (s0 : S) (h0 : I 0 s0 []) (d0 : (Ds s0).Sublist D1) (hl : ds.length ≤ 100000)
    (step : ∀ k s acc d p, ds[k]? = some d → I k s acc → ∃ G', EvW g vs (wipeG G vs) (TL.D K d) G' ∧ ∃ c s1, EvT tt G' ((p, OL K acc) :: Ds s) c ((p, OL K acc) :: Ds s1) ∧
      (c = true → ∃ e s2, Ev te G' ((p, OL K acc) :: Ds s1) (TL.D K e) ((p, OL K acc) :: Ds s2) ∧ I (k + 1) s2 (acc ++ [e])) ∧ (c = false → I (k + 1) s1 acc))
    (done : ∀ s acc, I ds.length s acc → acc = res ∧ (Ds s = DF)) : EvN (tLc wi g tt te vs) G D0 (OL K res) DF := fun σ H F hs ss Q q =>
  hi σ H F hs ss _ fun J H1 F1 s1 hs1 ok Dl hDl => by
    refine ⟨fun i m H => m = ds.length - i ∧ i ≤ ds.length ∧ ∃ (x : S) (acc : List PyData) (F2 : Hp), acc.length ≤ i ∧ I i x acc ∧ Same F1 F2 ∧ HS ((Dl, OL K acc) :: Ds x) H F2, ⟨ds.length, by simp, Nat.zero_le _, s0, [], F1, Nat.le_refl _, h0, Same.refl _, (hs1.drop d0).new hDl ⟨[], rfl, .nil⟩⟩, ?_⟩
    rintro i m H2 ⟨rfl, hle, x, acc, F2, la, hx, s2, hs2⟩
    by_cases hlt : i < ds.length
    · have hd : ds[i]? = some ds[i] := by simp [hlt]
      obtain ⟨go, yl⟩ := (ok _ H2 F2 s2 hs2 i).1 _ hd
      refine .inr ⟨go, fun H' => ∃ (x : S) (acc : List PyData) (F2 : Hp), acc.length ≤ i + 1 ∧ I (i + 1) x acc ∧ Same F1 F2 ∧ HS ((Dl, OL K acc) :: Ds x) H' F2, fun H' p => ⟨ds.length - (i + 1), by omega, rfl, hlt, p⟩, fun v H3 hy => ?_⟩
      obtain ⟨F3, s3, hs3, r3⟩ := yl v H3 hy
      obtain ⟨G', hg, c, x1, ht, hyes, hno⟩ := step i x acc _ Dl hd hx
      have ss3 : SS F3 (wipeG G vs) (L2.wipe σ vs) := ((ss.mono s1).mono (s2.trans s3)).wipe vs
      refine hg v σ (L2.wipe σ vs) H3 F3 _ hs3 ss3 (wipe_wipe σ vs) r3 _ fun σ' ss' w' => ⟨w', ?_⟩
      refine ht σ' H3 F3 hs3 ss' _ fun H4 F4 s4 hs4 => ?_
      cases c with
      | true =>
        obtain ⟨e, x2, he, hI⟩ := hyes rfl
        refine he σ' H4 F4 hs4 (ss'.mono s4) _ fun y H5 F5 s5 hs5 r5 => ?_
        obtain ⟨o, ho, xs, rfl, hxs⟩ := hs5.at (k := 0) rfl
        refine ⟨xs, ho, by rw [dpAll_len hxs]; exact Nat.lt_of_lt_of_le (Nat.lt_of_le_of_lt la (Nat.lt_of_lt_of_le hlt hl)) sizeLine_big, x2, acc ++ [e], F5, by simp; omega, hI, ((s2.trans s3).trans s4).trans s5, ?_⟩
        exact hs5.put (k := 0) (O' := OL K (acc ++ [e])) rfl ⟨_, rfl, dpAll_append hxs (.cons r5 .nil)⟩
      | false => exact ⟨x1, acc, F4, by omega, hno rfl, (s2.trans s3).trans s4, hs4⟩
    · have e : i = ds.length := by omega
      subst e
      obtain ⟨e1, e2⟩ := done x acc hx
      subst e1
      rw [e2] at hs2
      exact .inl ⟨(ok _ H2 F2 s2 (by rw [← e2] at hs2; exact hs2) _).2 (Nat.le_refl _), q Dl H2 F2 (s1.trans s2) hs2⟩
/-- a comprehension whose turns change nothing: what passes, and what is made of it -/
theorem evN_lcP {wi : TI} {g : TG} {ds : List PyData} (hi : EvIt K wi G D0 ds D1) (c : PyData → Bool) (f : PyData → PyData) (hl : ds.length ≤ 100000)
    (step : ∀ d, d ∈ ds → ∃ G', EvW g vs (wipeG G vs) (TL.D K d) G' ∧ (∀ D, EvT tt G' D (c d) D) ∧ (c d = true → ∀ D, Ev te G' D (TL.D K (f d)) D)) : EvN (tLc wi g tt te vs) G D0 (OL K ((ds.filter c).map f)) D1 := by
  refine evN_lc (S := Unit) hi (fun k _ acc => acc = ((ds.take k).filter c).map f) (fun _ => D1) () rfl (List.Sublist.refl _) hl ?_ ?_
  · rintro k s acc d p hd rfl
    obtain ⟨G', h1, h2, h3⟩ := step d (List.mem_of_getElem? hd)
    have tk : ds.take (k + 1) = ds.take k ++ [d] := by
      rw [List.take_succ, hd]
      rfl
    refine ⟨G', h1, c d, (), h2 _, fun e => ⟨f d, (), h3 e _, ?_⟩, fun e => ?_⟩
    · rw [tk, List.filter_append, List.map_append]
      simp [e]
    · rw [tk, List.filter_append, List.map_append]
      simp [e]
  · rintro s acc rfl
    rw [List.take_length]
    exact ⟨rfl, rfl⟩
end
end TL

set_option Elab.async false
set_option linter.all false
set_option maxRecDepth 100000
set_option maxHeartbeats 1000000
namespace TL
open PySem PySem.Spec L2
/-! ## lists: counts, slices, unpacking, freezing -/
def rCntD (K : PySem.W.Frag) : V → List V → Hp → VK → Prop := fun x xs H Q => ∃ (y : V) (d : PyData) (ds : List PyData), xs = [y] ∧ Dp K H x (.list ds) ∧ Dp K H y d ∧ SeqAt.shaped (.list ds) = true ∧ SeqAt.shaped d = true ∧ Q (.int (ds.countP fun z => PyData.eqv z d : Nat)) H
theorem mt_countD {X : Cx} (hu : X.A.units + 65 < cLine) : MtR X "list.count" (rCntD X.K) := by
  intro pins s σ H x xs v us Q I rx rxs h
  obtain ⟨y, d, ds, rfl, hl, hy, sl, sd, q⟩ := h
  obtain ⟨uy, rfl, ry⟩ := rxs.one
  obtain ⟨bs, r1⟩ := Dp.reads I d y uy hy ry
  have lay : PyData.canLayAll0 ds = true := SeqAt.canLay_of_shaped sl
  have room : X.A.units + 1 + min (PyData.depthAll ds) d.depth < cLine := by
    have h1 := SeqAt.depth_of_shaped sd
    have h2 : min (PyData.depthAll ds) d.depth ≤ d.depth := Nat.min_le_right _ _
    omega
  cases hl with
  | lst hs ha =>
    cases rx
    obtain ⟨its, rv, ⟨⟨cls, dd, data, sls⟩, n, ho, hc, hdn, hdt⟩, hlen⟩ := I.list hs
    simp only at hc hdt
    subst hc hdt
    obtain ⟨as, h4⟩ := Dp.readsAll I ds _ its ha rv
    have same : its.map (SeqAt.readOf s.heap) = ds := SeqAt.readsAll_map ds its as lay h4
    have cnt : its.toArray.toList.countP (fun u => PyData.eqv (SeqAt.readOf s.heap u) d) = ds.countP fun z => PyData.eqv z d := by
      rw [← same, List.countP_map]
      rfl
    refine call_meets PySem.F.slot_list_count ⟨_, ho, rfl⟩ PySem.F.entry_list_count (PySem.F.args_list_count_2 _ _)
      (SeqAt.list_countAt _ its.toArray n dd sls uy (fun u => PyData.eqv (SeqAt.readOf s.heap u) d)) ⟨ho, SeqAt.items_eqAt (vs := its.toArray) (show ReadsAll s.heap its.toArray.toList ds as from h4) r1 lay (SeqAt.canLay_of_shaped sd) room, ?_⟩
    rw [cnt]
    exact ⟨.int _, H, I.tok _, ⟨_, rfl⟩, q⟩
theorem hu_65 {k : Nat} {A : Around} (r : Room k A) : A.units + 65 < cLine := by
  have := r.un
  omega
/-- a list that stands in the frozen part itself -/
def DLs (K : PySem.W.Frag) (ds : List PyData) : Ty := ⟨fun v F => ∃ a xs, v = .ref a ∧ F a = some (.lst xs) ∧ DpAll K F xs ds, fun s ⟨a, xs, e, h1, h2⟩ => ⟨a, xs, e, s _ _ h1, dpAll_mono s ds xs h2⟩⟩
theorem dls_d {K : PySem.W.Frag} {ds : List PyData} : ∀ v F, (DLs K ds).p v F → (D K (.list ds)).p v F := fun v F ⟨a, xs, e, h1, h2⟩ => by
  subst e
  exact .lst (SqL.of h1) h2
theorem dpAll_drop {K : PySem.W.Frag} {F : Hp} : ∀ {ds : List PyData} {vs : List V}, DpAll K F vs ds → ∀ n, DpAll K F (vs.drop n) (ds.drop n)
  | _, _, h, 0 => h
  | [], _, h, n + 1 => by cases h; exact .nil
  | d :: ds, _, h, n + 1 => by
    cases h with
    | cons h1 h2 => exact dpAll_drop h2 n
theorem dpAll_take {K : PySem.W.Frag} {F : Hp} : ∀ {ds : List PyData} {vs : List V}, DpAll K F vs ds → ∀ n, DpAll K F (vs.take n) (ds.take n)
  | _, _, h, 0 => .nil
  | [], _, h, n + 1 => by cases h; exact .nil
  | d :: ds, _, h, n + 1 => by
    cases h with
    | cons h1 h2 => exact .cons h1 (dpAll_take h2 n)
theorem dpAll_rev {K : PySem.W.Frag} {F : Hp} : ∀ {ds : List PyData} {vs : List V}, DpAll K F vs ds → DpAll K F vs.reverse ds.reverse
  | [], _, h => by cases h; exact .nil
  | d :: ds, _, h => by
    cases h with
    | cons h1 h2 =>
      rw [List.reverse_cons, List.reverse_cons]
      exact dpAll_append (dpAll_rev h2) (.cons h1 .nil)
def cutD (ds : List PyData) (lo hi : Option Int) : List PyData := (ds.drop (HT.sIx ds.length 0 lo)).take (HT.sIx ds.length ds.length hi - HT.sIx ds.length 0 lo)
theorem dpAll_cut {K : PySem.W.Frag} {F : Hp} {ds : List PyData} {vs : List V} (h : DpAll K F vs ds) (lo hi : Option Int) : DpAll K F (cutV vs lo hi) (cutD ds lo hi) := by
  unfold cutV cutD
  rw [dpAll_len h]
  exact dpAll_take (dpAll_drop h _) _
/-- the parts of a slice -/
def EvO (to : TO) (G : Sto) (D : Own) (o : Option Int) (D' : Own) : Prop := ∀ (σ : L2.St) (H F : Hp), HS D H F → SS F G σ → ∀ Q : Option Int → Hp → Prop, (∀ H' F', Same F F' → HS D' H' F' → Q o H') → to σ H Q
section
variable {K : PySem.W.Frag} {G G1 G2 : Sto} {D0 D1 D2 D3 : Own} {te ta tb : TE} {tt : TT} {R Ra Rb : Ty} {F0 F1 : Hp} {E : Ends} {X : XK} {tl th : TO}
theorem evO_none : EvO tNoPart G D0 none D0 := fun σ H F hs ss Q q => q H F (Same.refl _) hs
theorem evO_some {i : Int} (h : Ev te G D0 (DI K i) D1) : EvO (tPart te) G D0 (some i) D1 := fun σ H F hs ss Q q =>
  h σ H F hs ss _ fun v H1 F1 s1 hs1 r1 => ⟨i, dp_int r1, q H1 F1 s1 hs1⟩
theorem ev_slL {ds : List PyData} {lo hi : Option Int} (h : Ev te G D0 (TL.D K (.list ds)) D1) (hl : EvO tl G D1 lo D2) (hh : EvO th G D2 hi D3) : Ev (tSl (rSlL K) te tl th) G D0 (DLs K (cutD ds lo hi)) D3 := fun σ H F hs ss Q q =>
  h σ H F hs ss _ fun v H1 F1 s1 hs1 r1 => hl σ H1 F1 hs1 (ss.mono s1) _ fun H2 F2 s2 hs2 => hh σ H2 F2 hs2 ((ss.mono s1).mono s2) _ fun H3 F3 s3 hs3 => by
    obtain ⟨a, xs, rfl, h1, h2⟩ := dp_lst r1
    refine ⟨a, xs, rfl, sqL_up hs3 ((s2.trans s3).seq h1), fun p hp => ?_⟩
    have s4 : Same F3 (upd F3 p (.lst (cutV xs lo hi))) := same_new (hs3.free hp)
    exact q _ _ _ (((s1.trans s2).trans s3).trans s4) (hs3.frz hp) ⟨p, _, rfl, upd_same, dpAll_cut (dpAll_mono ((s2.trans s3).trans s4) ds xs h2) lo hi⟩
theorem ev_revL {ds : List PyData} (h : Ev te G D0 (TL.D K (.list ds)) D1) : Ev (tRevL K te) G D0 (DLs K ds.reverse) D1 := fun σ H F hs ss Q q =>
  h σ H F hs ss _ fun v H1 F1 s1 hs1 r1 => by
    obtain ⟨a, xs, rfl, h1, h2⟩ := dp_lst r1
    refine ⟨a, xs, rfl, sqL_up hs1 h1, fun p hp => ?_⟩
    have s4 : Same F1 (upd F1 p (.lst xs.reverse)) := same_new (hs1.free hp)
    exact q _ _ _ (s1.trans s4) (hs1.frz hp) ⟨p, _, rfl, upd_same, dpAll_rev (dpAll_mono s4 ds xs h2)⟩
theorem ev_catL {ds es : List PyData} (ha : Ev ta G D0 (DLs K ds) D1) (hb : Ev tb G D1 (DLs K es) D2) (hl : ds.length + es.length ≤ 100000) : Ev (tOp (qAdd K) ta tb) G D0 (DLs K (ds ++ es)) D2 := fun σ H F hs ss Q q =>
  ha σ H F hs ss _ fun x H1 F1 s1 hs1 r1 => hb σ H1 F1 hs1 (ss.mono s1) _ fun y H2 F2 s2 hs2 r2 => by
    obtain ⟨a, xs, rfl, h1, h2⟩ := r1
    obtain ⟨b, ys, rfl, h3, h4⟩ := r2
    refine .inr (.inr (.inl ⟨a, b, xs, ys, rfl, rfl, hs2.sub _ _ (s2 _ _ h1), hs2.sub _ _ h3, by rw [dpAll_len h2, dpAll_len h4]; exact Nat.le_trans hl sizeLine_big, fun p hp => ?_⟩))
    have s4 : Same F2 (upd F2 p (.lst (xs ++ ys))) := same_new (hs2.free hp)
    exact q _ _ _ ((s1.trans s2).trans s4) (hs2.frz hp) ⟨p, _, rfl, upd_same, dpAll_append (dpAll_mono (s2.trans s4) ds xs h2) (dpAll_mono s4 es ys h4)⟩
theorem ev_dls {ds : List PyData} (h : Ev te G D0 (DLs K ds) D1) : Ev te G D0 (TL.D K (.list ds)) D1 := ev_imp h dls_d
theorem evG_lst {gs : TGs} {ds : List PyData} {n : Nat} (h : EvGs K gs G ds G1) (hn : ds.length = n) : EvG (gLst K n gs) G (TL.D K (.list ds)) G1 := fun v σ H F D hs ss r Q q => by
  obtain ⟨a, xs, rfl, h1, h2⟩ := dp_lst r
  exact ⟨a, xs, rfl, sqL_up hs h1, (dpAll_len h2).trans hn, h xs σ H F D hs ss h2 Q q⟩
theorem ev_count {ds : List PyData} {d : PyData} (ha : Ev ta G D0 (TL.D K (.list ds)) D1) (hb : Ev tb G D1 (TL.D K d) D2) (sl : SeqAt.shaped (.list ds) = true) (sd : SeqAt.shaped d = true) :
    Ev (tBM K "list" (rCntD K) ta (tCons tb tNil)) G D0 (DI K (ds.countP fun z => PyData.eqv z d : Nat)) D2 := fun σ H F hs ss Q q =>
  ha σ H F hs ss _ fun x H1 F1 s1 hs1 r1 => by
    obtain ⟨a, xs, rfl, h1, h2⟩ := dp_lst r1
    refine ⟨.inl ⟨rfl, xs, sqL_up hs1 h1⟩, hb σ H1 F1 hs1 (ss.mono s1) _ fun y H2 F2 s2 hs2 r2 => ?_⟩
    exact ⟨y, d, ds, rfl, dp_up hs2 (dp_mono s2 _ _ r1), dp_up hs2 r2, sl, sd, q _ H2 F2 (s1.trans s2) hs2 (.int _)⟩
/-- an owned list at k, held by the slot i, is frozen -/
theorem go_freeze {P : L2.St → Hp → Prop} {k i : Nat} {a : Addr} {ds : List PyData} (hk : D0[k]? = some (a, OL K ds)) (hi : G[i]? = some (some (Is (.ref a)))) (h : Go P F0 (G.set i (some (DLs K ds))) (D0.eraseIdx k)) : Go P F0 G D0 := fun σ H F s hs ss => by
  obtain ⟨o, ⟨xs, e, hx⟩, hs2, s2⟩ := hs.freeze hk
  subst e
  obtain ⟨v, e1, e2⟩ := ss.get hi
  have ev : v = .ref a := e2
  subst ev
  have z := (ss.mono s2).set (R := DLs K ds) (v := .ref a) ⟨a, xs, rfl, upd_same, dpAll_mono s2 ds xs hx⟩ i
  have same : σ.set i (some (.ref a)) = σ := by
    refine List.ext_getElem? fun j => ?_
    by_cases q : j = i
    · subst q
      have lt : j < σ.length := (List.getElem?_eq_some_iff.mp e1).1
      rw [List.getElem?_set_self lt, e1]
    · rw [List.getElem?_set_ne (Ne.symm q)]
  rw [same] at z
  exact h σ H _ (s.trans s2) hs2 z
end
end TL

set_option Elab.async false
set_option linter.all false
set_option maxRecDepth 100000
set_option maxHeartbeats 1000000
namespace TL
open PySem PySem.Spec L2
/-! ## kinds with something unknown in them -/
def Ty.ex {α : Type} (f : α → Ty) (p : α → Prop) : Ty := ⟨fun v F => ∃ a, p a ∧ (f a).p v F, fun s ⟨a, h1, h2⟩ => ⟨a, h1, (f a).mono s h2⟩⟩
def OTy.ex {α : Type} (f : α → OTy) (p : α → Prop) : OTy := ⟨fun v F => ∃ a, p a ∧ (f a).p v F, fun s ⟨a, h1, h2⟩ => ⟨a, h1, (f a).mono s h2⟩⟩
/-- the first entry of a table under a name -/
def getM (m : List (Str × PyData)) (k : Str) : Option PyData := (m.find? fun e => decide (e.1 = k)).map (·.2)
def putM (m : List (Str × PyData)) (k : Str) (d : PyData) : List (Str × PyData) :=
  if (m.any fun e => decide (e.1 = k)) = true then m.map (fun e => if e.1 = k then (e.1, d) else e) else m ++ [(k, d)]
inductive EntP (K : PySem.W.Frag) (F : Hp) : List (L2.Key × V) → List (Str × PyData) → Prop
  | nil : EntP K F [] []
  | cons {k : Str} {v : V} {d : PyData} {kvs : List (L2.Key × V)} {m : List (Str × PyData)} : Dp K F v d → EntP K F kvs m → EntP K F ((Sum.inr k, v) :: kvs) ((k, d) :: m)
theorem EntP.mono {K : PySem.W.Frag} {F F' : Hp} {kvs : List (L2.Key × V)} {m : List (Str × PyData)} (h : EntP K F kvs m) (s : Same F F') : EntP K F' kvs m := by
  induction h with
  | nil => exact .nil
  | cons h _ ih => exact .cons (dp_mono s _ _ h) ih
theorem EntP.len {K : PySem.W.Frag} {F : Hp} {kvs : List (L2.Key × V)} {m : List (Str × PyData)} (h : EntP K F kvs m) : kvs.length = m.length := by
  induction h with
  | nil => rfl
  | cons _ _ ih => simp [ih]
theorem EntP.keys {K : PySem.W.Frag} {F : Hp} {kvs : List (L2.Key × V)} {m : List (Str × PyData)} (h : EntP K F kvs m) : kvs.map (·.1) = (m.map (·.1)).map Sum.inr := by
  induction h with
  | nil => rfl
  | cons _ _ ih => simp [ih]
theorem EntP.get {K : PySem.W.Frag} {F : Hp} {kvs : List (L2.Key × V)} {m : List (Str × PyData)} (h : EntP K F kvs m) (k : Str) : (getM m k = none ∧ valV kvs (Sum.inr k) = none) ∨ ∃ d v, getM m k = some d ∧ valV kvs (Sum.inr k) = some v ∧ Dp K F v d := by
  induction h with
  | nil => exact .inl ⟨rfl, rfl⟩
  | @cons k' v d kvs m hd _ ih =>
    by_cases e : k' = k
    · subst e
      exact .inr ⟨d, v, by simp [getM], by simp [valV], hd⟩
    · have e1 : getM ((k', d) :: m) k = getM m k := by simp [getM, e]
      have e2 : valV ((Sum.inr k', v) :: kvs) (Sum.inr k : L2.Key) = valV kvs (Sum.inr k) := valV_neg (fun z => e (Sum.inr.inj z))
      rw [e1, e2]
      exact ih
theorem EntP.any {K : PySem.W.Frag} {F : Hp} {kvs : List (L2.Key × V)} {m : List (Str × PyData)} (h : EntP K F kvs m) (k : Str) : (kvs.any fun e => decide (e.1 = (Sum.inr k : L2.Key))) = (m.any fun e => decide (e.1 = k)) := by
  induction h with
  | nil => rfl
  | @cons k' v d kvs m _ _ ih =>
    rw [List.any_cons, List.any_cons, ih]
    congr 1
    by_cases e : k' = k
    · subst e; simp
    · simp [e]
theorem EntP.snoc {K : PySem.W.Frag} {F : Hp} {kvs : List (L2.Key × V)} {m : List (Str × PyData)} (h : EntP K F kvs m) {k : Str} {v : V} {d : PyData} (hd : Dp K F v d) : EntP K F (kvs ++ [(Sum.inr k, v)]) (m ++ [(k, d)]) := by
  induction h with
  | nil => exact .cons hd .nil
  | cons h _ ih => exact .cons h ih
theorem EntP.repl {K : PySem.W.Frag} {F : Hp} {kvs : List (L2.Key × V)} {m : List (Str × PyData)} (h : EntP K F kvs m) {k : Str} {v : V} {d : PyData} (hd : Dp K F v d) :
    EntP K F (kvs.map fun e => if e.1 = (Sum.inr k : L2.Key) then (e.1, v) else e) (m.map fun e => if e.1 = k then (e.1, d) else e) := by
  induction h with
  | nil => exact .nil
  | @cons k' v' d' kvs m h _ ih =>
    rw [List.map_cons, List.map_cons]
    by_cases e : k' = k
    · subst e
      rw [if_pos rfl, if_pos rfl]
      exact .cons hd ih
    · rw [if_neg (fun z => e (Sum.inr.inj z)), if_neg e]
      exact .cons h ih
theorem EntP.put {K : PySem.W.Frag} {F : Hp} {kvs : List (L2.Key × V)} {m : List (Str × PyData)} (h : EntP K F kvs m) {k : Str} {v : V} {d : PyData} (hd : Dp K F v d) : EntP K F (putK kvs (Sum.inr k) v) (putM m k d) := by
  unfold putK putM
  rw [h.any k]
  split
  · exact h.repl hd
  · exact h.snoc hd
/-- an owned dict, its keys texts -/
def OD (K : PySem.W.Frag) (m : List (Str × PyData)) : OTy := ⟨fun o F => ∃ kvs, o = .dK kvs ∧ EntP K F kvs m, fun s ⟨kvs, e, h⟩ => ⟨kvs, e, h.mono s⟩⟩
def rIxSd : R2 := rIxS
section
variable {K : PySem.W.Frag} {G G1 G2 : Sto} {D0 D1 D2 D3 : Own} {te ta tb tx : TE} {tt : TT} {R Ra Rb : Ty} {F0 F1 : Hp} {E : Ends} {X : XK} {tl th : TO}
/-- what is unknown of a slot's value is named -/
theorem go_open {α : Type} {P : L2.St → Hp → Prop} {f : α → Ty} {p : α → Prop} {i : Nat} (hi : G[i]? = some (some (Ty.ex f p))) (h : ∀ a, p a → Go P F0 (G.set i (some (f a))) D0) : Go P F0 G D0 := fun σ H F s hs ss => by
  obtain ⟨v, e1, a, pa, ra⟩ := ss.get hi
  have z := ss.set (R := f a) ra i
  have same : σ.set i (some v) = σ := by
    refine List.ext_getElem? fun j => ?_
    by_cases q : j = i
    · subst q
      have lt : j < σ.length := (List.getElem?_eq_some_iff.mp e1).1
      rw [List.getElem?_set_self lt, e1]
    · rw [List.getElem?_set_ne (Ne.symm q)]
  rw [same] at z
  exact h a pa σ H F s hs z
/-- what is unknown of an owned thing is named -/
theorem HS.reown {D : Own} {H F : Hp} (h : HS D H F) {k : Nat} {a : Addr} {O O' : OTy} (hk : D[k]? = some (a, O)) (f : ∀ o, O.p o F → H a = some o → O'.p o F) : HS (D.set k (a, O')) H F where
  sub := h.sub
  own := fun b O2 m => by
    rcases List.mem_or_eq_of_mem_set m with z | z
    · exact h.own b O2 z
    · cases z
      obtain ⟨n, o, e, q⟩ := h.own a O (List.mem_of_getElem? hk)
      exact ⟨n, o, e, f o q e⟩
  nd := by
    have : (D.set k (a, O')).map (·.1) = D.map (·.1) := by
      refine List.ext_getElem? fun j => ?_
      rw [List.getElem?_map, List.getElem?_map]
      by_cases q : k = j
      · subst q
        rw [List.getElem?_set_self (List.getElem?_eq_some_iff.mp hk).1, hk]
        rfl
      · rw [List.getElem?_set_ne q]
    rw [this]
    exact h.nd
theorem go_openO {α : Type} {P : L2.St → Hp → Prop} {f : α → OTy} {p : α → Prop} {k : Nat} {a : Addr} (hk : D0[k]? = some (a, OTy.ex f p)) (h : ∀ x, p x → Go P F0 G (D0.set k (a, f x))) : Go P F0 G D0 := fun σ H F s hs ss => by
  obtain ⟨n, o, e, x, px, rx⟩ := hs.own a _ (List.mem_of_getElem? hk)
  refine h x px σ H F s (hs.reown hk fun o' _ e' => ?_) ss
  rw [e] at e'
  cases e'
  exact rx
/-- an owned thing is said to be less -/
theorem go_shut {P : L2.St → Hp → Prop} {k : Nat} {a : Addr} {O O' : OTy} (hk : D0[k]? = some (a, O)) (f : ∀ o F, O.p o F → O'.p o F) (h : Go P F0 G (D0.set k (a, O'))) : Go P F0 G D0 := fun σ H F s hs ss =>
  h σ H F s (hs.reown hk fun o q _ => f o F q) ss
theorem ev_ex {α : Type} {f : α → Ty} {p : α → Prop} (a : α) (h : Ev te G D0 (f a) D1) (pa : p a) : Ev te G D0 (Ty.ex f p) D1 := ev_imp h fun _ _ r => ⟨a, pa, r⟩
/-! ## texts -/
theorem ix_S {x : Str} {i : Int} {c : Nat} (ha : Ev ta G D0 (DS K x) D1) (hb : Ev tb G D1 (DI K i) D2) (h : x.length ≤ sizeLine) (e : atI x.cps.toList i = some c) : Ev (tOp (rIx K) ta tb) G D0 (DS K ⟨#[c]⟩) D2 :=
  ev2 ha hb fun u v H F hs ru rv Q q => by
    rw [dp_str ru, dp_int rv]
    exact .inr (.inr ⟨x, i, c, rfl, rfl, h, e, q _ H F (Same.refl _) hs (.str _)⟩)
theorem ev_slS {x : Str} {lo hi : Option Int} (h : Ev te G D0 (DS K x) D1) (hl : EvO tl G D1 lo D2) (hh : EvO th G D2 hi D3) (hx : x.length ≤ sizeLine) : Ev (tSl rSlS te tl th) G D0 (DS K (cutS x lo hi)) D3 := fun σ H F hs ss Q q =>
  h σ H F hs ss _ fun v H1 F1 s1 hs1 r1 => hl σ H1 F1 hs1 (ss.mono s1) _ fun H2 F2 s2 hs2 => hh σ H2 F2 hs2 ((ss.mono s1).mono s2) _ fun H3 F3 s3 hs3 => by
    rw [dp_str r1]
    exact ⟨x, rfl, hx, q _ H3 F3 ((s1.trans s2).trans s3) hs3 (.str _)⟩
abbrev rJoin (K : PySem.W.Frag) : V → List V → Hp → VK → Prop := fun x xs H Q => ∃ a p, ∃ ys : List Str, x = .str a ∧ xs = [.ref p] ∧ (SqL K H p (ys.map V.str) ∨ SqT K H p (ys.map V.str)) ∧
      (ys.map (·.length)).sum + ys.length * a.length ≤ 16777216 ∧ Q (.str (Txt.join a ys)) H
theorem strs_of {F : Hp} : ∀ {ys : List Str} {xs : List V}, DpAll K F xs (ys.map PyData.str) → xs = ys.map V.str
  | [], _, h => by cases h; rfl
  | y :: ys, _, h => by
    cases h with
    | cons h1 h2 =>
      rw [dp_str h1, strs_of h2]
      rfl
theorem ev_joinN {s : Str} {ys : List Str} (ha : Ev ta G D0 (DS K s) D1) (hb : EvN tb G D1 (OL K (ys.map .str)) D2) (h : (ys.map (·.length)).sum + ys.length * s.length ≤ 16777216) : Ev (tM1 (rJoin K) ta tb) G D0 (DS K (Txt.join s ys)) D2 := fun σ H F hs ss Q q =>
  ha σ H F hs ss _ fun v H1 F1 s1 hs1 r1 => ⟨⟨s, dp_str r1⟩, hb σ H1 F1 hs1 (ss.mono s1) _ fun p H2 F2 s2 hs2 => by
    obtain ⟨o, ho, xs, rfl, hx⟩ := hs2.at (k := 0) rfl
    refine ⟨s, p, ys, dp_str r1, rfl, .inl (SqL.of (by rw [← strs_of hx]; exact ho)), h, ?_⟩
    exact q _ H2 F2 (s1.trans s2) (hs2.drop (List.sublist_cons_self _ _)) (.str _)⟩
/-! ## dicts -/
theorem evN_dnew : EvN tDNewK G D0 (OD K []) D0 := fun σ H F hs ss Q q p hp => q p _ F (Same.refl _) (hs.new hp ⟨[], rfl, .nil⟩)
theorem ev_dget {m : List (Str × PyData)} {k : Nat} {a : Addr} {x : Str} {d : PyData} (ho : Ev ta G D0 (Is (.ref a)) D1) (hi : Ev tb G D1 (DS K x) D2) (hk : D2[k]? = some (a, OD K m)) (hg : getM m x = some d) : Ev (tDGet ta tb) G D0 (D K d) D2 := fun σ H F hs ss Q q =>
  ho σ H F hs ss _ fun u H1 F1 s1 hs1 r1 => hi σ H1 F1 hs1 (ss.mono s1) _ fun v H2 F2 s2 hs2 r2 => by
    have eu : u = .ref a := r1
    obtain ⟨o, ho, kvs, rfl, hx⟩ := hs2.at hk
    rcases hx.get x with ⟨e1, _⟩ | ⟨d', v', e1, e2, e3⟩
    · rw [hg] at e1; cases e1
    · rw [hg] at e1
      cases e1
      refine ⟨a, v', eu, ?_, q _ H2 F2 (s1.trans s2) hs2 e3⟩
      rw [dp_str r2, ← e2]
      exact DGet.k (k := Sum.inr x) ho
theorem ev_dgetD {m : List (Str × PyData)} {k k1 : Nat} {m1 : List (Str × PyData)} {a : Addr} {x : Str} {d : PyData} (ho : Ev ta G D0 (Is (.ref a)) D1) (hk1 : D1[k1]? = some (a, OD K m1)) (hi : Ev tb G D1 (DS K x) D2) (hd : Ev tx G D2 (D K d) D3) (hk : D3[k]? = some (a, OD K m)) : Ev (tDGet2 ta tb tx) G D0 (D K ((getM m x).getD d)) D3 := fun σ H F hs ss Q q =>
  ho σ H F hs ss _ fun u H1 F1 s1 hs1 r1 => by
    have eu : u = .ref a := r1
    obtain ⟨o, ho, kvs1, rfl, _⟩ := hs1.at hk1
    refine ⟨a, eu, .inl ⟨kvs1, .inl ho⟩, hi σ H1 F1 hs1 (ss.mono s1) _ fun v H2 F2 s2 hs2 r2 => hd σ H2 F2 hs2 ((ss.mono s1).mono s2) _ fun z H3 F3 s3 hs3 r3 => ?_⟩
    obtain ⟨o, ho, kvs, rfl, hx⟩ := hs3.at hk
    have g : DGet H3 a v (valV kvs (Sum.inr x)) := by
      rw [dp_str r2]
      exact DGet.k (k := Sum.inr x) ho
    rcases hx.get x with ⟨e1, e2⟩ | ⟨d', v', e1, e2, e3⟩
    · refine ⟨_, g, ?_⟩
      rw [e2]
      exact q _ H3 F3 ((s1.trans s2).trans s3) hs3 (by rw [e1]; exact r3)
    · refine ⟨_, g, ?_⟩
      rw [e2]
      exact q _ H3 F3 ((s1.trans s2).trans s3) hs3 (by rw [e1]; exact e3)
theorem ev_din {m : List (Str × PyData)} {k : Nat} {a : Addr} {x : Str} (hi : Ev ta G D0 (DS K x) D1) (ho : Ev tb G D1 (Is (.ref a)) D2) (hk : D2[k]? = some (a, OD K m)) : Ev (tDIn ta tb) G D0 (DB K (getM m x).isSome) D2 := fun σ H F hs ss Q q =>
  hi σ H F hs ss _ fun v H1 F1 s1 hs1 r1 => ho σ H1 F1 hs1 (ss.mono s1) _ fun u H2 F2 s2 hs2 r2 => by
    have eu : u = .ref a := r2
    obtain ⟨o, ho, kvs, rfl, hx⟩ := hs2.at hk
    have g : DGet H2 a v (valV kvs (Sum.inr x)) := by
      rw [dp_str r1]
      exact DGet.k (k := Sum.inr x) ho
    have e : (valV kvs (Sum.inr x)).isSome = (getM m x).isSome := by
      rcases hx.get x with ⟨e1, e2⟩ | ⟨d', v', e1, e2, e3⟩ <;> rw [e1, e2] <;> rfl
    exact ⟨a, _, eu, g, by rw [e]; exact q _ H2 F2 (s1.trans s2) hs2 (.bl _)⟩
theorem go_dput {m : List (Str × PyData)} {k : Nat} {a : Addr} {x : Str} {d : PyData} (hv : Ev te G D0 (D K d) D1) (ho : Ev ta G D1 (Is (.ref a)) D2) (hi : Ev tb G D2 (DS K x) D3) (hk : D3[k]? = some (a, OD K m)) (hl : m.length < 100000)
    (q : Go E.nx F0 G (D3.set k (a, OD K (putM m x d)))) : Go (sDPut ta tb te E) F0 G D0 := fun σ H F s hs ss =>
  hv σ H F hs ss _ fun v H1 F1 s1 hs1 r1 => ho σ H1 F1 hs1 (ss.mono s1) _ fun u H2 F2 s2 hs2 r2 => hi σ H2 F2 hs2 ((ss.mono s1).mono s2) _ fun y H3 F3 s3 hs3 r3 => by
    have eu : u = .ref a := r2
    obtain ⟨o, ho, kvs, rfl, hx⟩ := hs3.at hk
    refine ⟨a, _, eu, by rw [dp_str r3]; exact DPut.k (k := Sum.inr x) ho (by rw [hx.len]; exact Nat.lt_of_lt_of_le hl sizeLine_big), ?_⟩
    exact q σ _ F3 (((s.trans s1).trans s2).trans s3) (hs3.put hk ⟨_, rfl, hx.put (dp_mono (s2.trans s3) d v r1)⟩) (((ss.mono s1).mono s2).mono s3)
/-! ## sorted, tuple(..), list(..) -/
abbrev rSortD : List V → Hp → VK → Prop := fun xs H Q => ∃ (a : Addr) (kvs : List (L2.Key × V)) (ks : List Str), xs = [.ref a] ∧ Rd H a (.dK kvs) ∧ kvs.map (·.1) = ks.map Sum.inr ∧ ks.length < 64 ∧
    ∀ ys p, ys.Perm ks → PyProof.Rows.sortedS ys = true → H p = none → Q (.ref p) (upd H p (.lst (ys.map V.str)))
abbrev qSort (K : PySem.W.Frag) : List V → Hp → VK → Prop := fun xs H Q => rSortedS K xs H Q ∨ rSortD xs H Q
theorem call_sort {X : Cx} (hcalm : X.calm = true) : CallR X (.builtin "sorted") (qSort X.K) := CallR.or cr_sortedS (call_sortedD hcalm)
theorem dp_strs {F : Hp} : ∀ ys : List Str, DpAll K F (ys.map V.str) (ys.map PyData.str)
  | [] => .nil
  | y :: ys => .cons (.str y) (dp_strs ys)
/-- the sorted names -/
def SortP (ks : List Str) (ds : List PyData) : Prop := ∃ ys : List Str, ds = ys.map .str ∧ ys.Perm ks ∧ PyProof.Rows.sortedS ys = true
theorem ev_sortD {m : List (Str × PyData)} {k : Nat} {a : Addr} (ho : Ev ta G D0 (Is (.ref a)) D1) (hk : D1[k]? = some (a, OD K m)) (hl : m.length < 64) : Ev (tCB (qSort K) (tCons ta tNil)) G D0 (Ty.ex (DLs K) (SortP (m.map (·.1)))) D1 := fun σ H F hs ss Q q =>
  ho σ H F hs ss _ fun u H1 F1 s1 hs1 r1 => by
    have eu : u = .ref a := r1
    obtain ⟨o, ho, kvs, rfl, hx⟩ := hs1.at hk
    refine .inr ⟨a, kvs, m.map (·.1), by rw [eu], .inl ho, hx.keys, by simpa using hl, fun ys p pm so hp => ?_⟩
    exact q _ _ (upd F1 p (.lst (ys.map V.str))) (s1.trans (same_new (hs1.free hp))) (hs1.frz hp) ⟨_, ⟨ys, rfl, pm, so⟩, p, _, rfl, upd_same, dp_strs ys⟩
theorem ev_sortL {ks : List Str} (ho : Ev ta G D0 (TL.D K (.list (ks.map .str))) D1) (hl : ks.length < 64) : Ev (tCB (qSort K) (tCons ta tNil)) G D0 (Ty.ex (DLs K) (SortP ks)) D1 := fun σ H F hs ss Q q =>
  ho σ H F hs ss _ fun u H1 F1 s1 hs1 r1 => by
    obtain ⟨a, xs, rfl, h1, h2⟩ := dp_lst r1
    rw [strs_of h2] at h1
    refine .inl ⟨a, ks, rfl, sqL_up hs1 h1, hl, fun ys p pm so hp => ?_⟩
    exact q _ _ (upd F1 p (.lst (ys.map V.str))) (s1.trans (same_new (hs1.free hp))) (hs1.frz hp) ⟨_, ⟨ys, rfl, pm, so⟩, p, _, rfl, upd_same, dp_strs ys⟩
abbrev cTup (K : PySem.W.Frag) : List V → Hp → VK → Prop := fun xs H Q => ∃ p ys, xs = [.ref p] ∧ ((SqL K H p ys ∧ ∀ l, H l = none → Q (.ref l) (upd H l (.tup ys))) ∨ (SqT K H p ys ∧ Q (.ref p) H))
abbrev cLst0 (K : PySem.W.Frag) : List V → Hp → VK → Prop := fun xs H Q => ∃ p ys, xs = [.ref p] ∧ (SqL K H p ys ∨ SqT K H p ys) ∧ ∀ l, H l = none → Q (.ref l) (upd H l (.lst ys))
abbrev cLstD : List V → Hp → VK → Prop := fun xs H Q => ∃ (a : Addr) (kvs : List (L2.Key × V)), xs = [.ref a] ∧ Rd H a (.dK kvs) ∧ ∀ p, H p = none → Q (.ref p) (upd H p (.lst (kvs.map fun kv => kV kv.1)))
abbrev cLst (K : PySem.W.Frag) : List V → Hp → VK → Prop := fun xs H Q => cLst0 K xs H Q ∨ cLstD xs H Q
theorem call_lstU {X : Cx} (hcalm : X.calm = true) : CallR X (.type "list") (cLst X.K) := CallR.or call_list_of (call_listD hcalm)
theorem keys_strs {F : Hp} {kvs : List (L2.Key × V)} {m : List (Str × PyData)} (h : EntP K F kvs m) : (kvs.map fun kv => kV kv.1) = (m.map (·.1)).map V.str := by
  induction h with
  | nil => rfl
  | cons _ _ ih =>
    rw [List.map_cons, List.map_cons, List.map_cons, ih]
    rfl
/-- list(a dict): its names -/
theorem ev_lstD {m : List (Str × PyData)} {k : Nat} {a : Addr} (ho : Ev ta G D0 (Is (.ref a)) D1) (hk : D1[k]? = some (a, OD K m)) : Ev (tCB (cLst K) (tCons ta tNil)) G D0 (DLs K ((m.map (·.1)).map .str)) D1 := fun σ H F hs ss Q q =>
  ho σ H F hs ss _ fun u H1 F1 s1 hs1 r1 => by
    have eu : u = .ref a := r1
    obtain ⟨o, ho, kvs, rfl, hx⟩ := hs1.at hk
    refine .inr ⟨a, kvs, by rw [eu], .inl ho, fun p hp => ?_⟩
    rw [keys_strs hx]
    exact q _ _ (upd F1 p (.lst ((m.map (·.1)).map V.str))) (s1.trans (same_new (hs1.free hp))) (hs1.frz hp) ⟨p, _, rfl, upd_same, dp_strs _⟩
/-- tuple(a new list) -/
theorem ev_tupN {ds : List PyData} (h : EvN te G D0 (OL K ds) D1) : Ev (tCB (cTup K) (tCons te tNil)) G D0 (TL.D K (.tuple ds)) D1 := fun σ H F hs ss Q q =>
  h σ H F hs ss _ fun p H1 F1 s1 hs1 => by
    obtain ⟨o, ho, xs, rfl, hx⟩ := hs1.at (k := 0) rfl
    refine ⟨p, xs, rfl, .inl ⟨SqL.of ho, fun l hl => ?_⟩⟩
    have s2 : Same F1 (upd F1 l (.tup xs)) := same_new (hs1.free hl)
    exact q _ _ (upd F1 l (.tup xs)) (s1.trans s2) ((hs1.frz hl).drop (List.sublist_cons_self _ _)) (.tup (SqT.of upd_same) (dpAll_mono s2 ds xs hx))
/-- tuple(a list that stands) -/
theorem ev_tupL {ds : List PyData} (h : Ev te G D0 (TL.D K (.list ds)) D1) : Ev (tCB (cTup K) (tCons te tNil)) G D0 (TL.D K (.tuple ds)) D1 := fun σ H F hs ss Q q =>
  h σ H F hs ss _ fun v H1 F1 s1 hs1 r1 => by
    obtain ⟨a, xs, rfl, h1, h2⟩ := dp_lst r1
    refine ⟨a, xs, rfl, .inl ⟨sqL_up hs1 h1, fun l hl => ?_⟩⟩
    have s2 : Same F1 (upd F1 l (.tup xs)) := same_new (hs1.free hl)
    exact q _ _ (upd F1 l (.tup xs)) (s1.trans s2) (hs1.frz hl) (.tup (SqT.of upd_same) (dpAll_mono s2 ds xs h2))
theorem ev_tupOfT {ds : List PyData} (h : Ev te G D0 (TL.D K (.tuple ds)) D1) : Ev (tCB (cTup K) (tCons te tNil)) G D0 (TL.D K (.tuple ds)) D1 := fun σ H F hs ss Q q =>
  h σ H F hs ss _ fun v H1 F1 s1 hs1 r1 => by
    obtain ⟨a, xs, rfl, h1, h2⟩ := dp_tup r1
    exact ⟨a, xs, rfl, .inr ⟨sqT_up hs1 h1, q _ H1 F1 s1 hs1 r1⟩⟩
theorem ev_lstL {ds : List PyData} (h : Ev te G D0 (TL.D K (.list ds)) D1) : Ev (tCB (cLst K) (tCons te tNil)) G D0 (DLs K ds) D1 := fun σ H F hs ss Q q =>
  h σ H F hs ss _ fun v H1 F1 s1 hs1 r1 => by
    obtain ⟨a, xs, rfl, h1, h2⟩ := dp_lst r1
    refine .inl ⟨a, xs, rfl, .inl (sqL_up hs1 h1), fun l hl => ?_⟩
    have s2 : Same F1 (upd F1 l (.lst xs)) := same_new (hs1.free hl)
    exact q _ _ (upd F1 l (.lst xs)) (s1.trans s2) (hs1.frz hl) ⟨l, xs, rfl, upd_same, dpAll_mono s2 ds xs h2⟩
theorem ev_lstOfT {ds : List PyData} (h : Ev te G D0 (TL.D K (.tuple ds)) D1) : Ev (tCB (cLst K) (tCons te tNil)) G D0 (DLs K ds) D1 := fun σ H F hs ss Q q =>
  h σ H F hs ss _ fun v H1 F1 s1 hs1 r1 => by
    obtain ⟨a, xs, rfl, h1, h2⟩ := dp_tup r1
    refine .inl ⟨a, xs, rfl, .inr (sqT_up hs1 h1), fun l hl => ?_⟩
    have s2 : Same F1 (upd F1 l (.lst xs)) := same_new (hs1.free hl)
    exact q _ _ (upd F1 l (.lst xs)) (s1.trans s2) (hs1.frz hl) ⟨l, xs, rfl, upd_same, dpAll_mono s2 ds xs h2⟩
theorem ev_lstO {ds : List PyData} {k : Nat} {a : Addr} (ho : Ev ta G D0 (Is (.ref a)) D1) (hk : D1[k]? = some (a, OL K ds)) : Ev (tCB (cLst K) (tCons ta tNil)) G D0 (DLs K ds) D1 := fun σ H F hs ss Q q =>
  ho σ H F hs ss _ fun u H1 F1 s1 hs1 r1 => by
    have eu : u = .ref a := r1
    obtain ⟨o, ho, xs, rfl, hx⟩ := hs1.at hk
    refine .inl ⟨a, xs, by rw [eu], .inl (SqL.of ho), fun l hl => ?_⟩
    have s2 : Same F1 (upd F1 l (.lst xs)) := same_new (hs1.free hl)
    exact q _ _ (upd F1 l (.lst xs)) (s1.trans s2) (hs1.frz hl) ⟨l, xs, rfl, upd_same, dpAll_mono s2 ds xs hx⟩
/-! ## zip of two tuples -/
theorem evIt_zipT {ds es : List PyData} (ha : Ev ta G D0 (TL.D K (.tuple ds)) D1) (hb : Ev tb G D1 (TL.D K (.tuple es)) D2) (hl : ds.length = es.length) : EvIt K (RZ.iZipA K (tCons ta (tCons tb tNil))) G D0 ((List.zip ds es).map fun e => .tuple [e.1, e.2]) D2 := fun σ H F hs ss R q =>
  ha σ H F hs ss _ fun v H1 F1 s1 hs1 r1 => hb σ H1 F1 hs1 (ss.mono s1) _ fun w H2 F2 s2 hs2 r2 => by
    obtain ⟨a, xs, rfl, h1, h2⟩ := dp_tup r1
    obtain ⟨b, ys, rfl, h3, h4⟩ := dp_tup r2
    refine ⟨a, b, xs, ys, rfl, .inr ⟨sqT_up hs2 (same_sqT s2 h1), sqT_up hs2 h3, q _ H2 F2 (s1.trans s2) hs2 fun D H3 F3 s3 hs3 i => ⟨fun d hd => ?_, fun hi => ?_⟩⟩⟩
    · rw [List.getElem?_map] at hd
      cases e : (List.zip ds es)[i]? with
      | none => rw [e] at hd; cases hd
      | some z =>
        rw [e] at hd
        cases hd
        obtain ⟨z1, z2⟩ := z
        obtain ⟨e1, e2⟩ := List.getElem?_zip_eq_some.mp e
        obtain ⟨x, ex, rx⟩ := dpAll_get h2 e1
        obtain ⟨y, ey, ry⟩ := dpAll_get h4 e2
        have qa : SqT K H3 a xs := sqT_up hs3 (same_sqT (s2.trans s3) h1)
        have qb : SqT K H3 b ys := sqT_up hs3 (same_sqT s3 h3)
        refine ⟨⟨xs, ys, x, y, qa, qb, ex, ey⟩, fun t H' hy => ?_⟩
        obtain ⟨T, x', y', rfl, hT, rfl, g1, g2⟩ := hy
        have k1 := g1 xs qa
        have k2 := g2 ys qb
        rw [ex] at k1
        rw [ey] at k2
        cases k1
        cases k2
        have s4 : Same F3 (upd F3 T (.tup [x, y])) := same_new (hs3.free hT)
        exact ⟨_, s4, hs3.frz hT, .tup (SqT.of upd_same) (.cons (dp_mono ((s2.trans s3).trans s4) _ _ rx) (.cons (dp_mono (s3.trans s4) _ _ ry) .nil))⟩
    · rw [List.length_map, List.length_zip] at hi
      refine ⟨xs, ys, sqT_up hs3 (same_sqT (s2.trans s3) h1), sqT_up hs3 (same_sqT s3 h3), ?_⟩
      rw [dpAll_len h2, dpAll_len h4]
      omega
theorem ne_DO {ds : List PyData} {e : PyData} {k : Nat} {a : Addr} (ho : Ev ta G D0 (Is (.ref a)) D1) (hb : Ev tb G D1 (TL.D K e) D2) (hk : D2[k]? = some (a, OL K ds)) (s1 : SeqAt.shaped (.list ds) = true) (s2 : SeqAt.shaped e = true) : Ev (tOp (qNe K) ta tb) G D0 (DB K (!PyData.eqv (.list ds) e)) D2 := fun σ H F hs ss Q q =>
  ho σ H F hs ss _ fun u H1 F1 t1 hs1 r1 => hb σ H1 F1 hs1 (ss.mono t1) _ fun v H2 F2 t2 hs2 r2 => by
    have eu : u = .ref a := r1
    obtain ⟨o, ho, xs, rfl, hx⟩ := hs2.at hk
    exact .inr ⟨.list ds, e, by rw [eu]; exact .lst (SqL.of ho) (dpAll_mono hs2.sub _ _ hx), dp_up hs2 r2, s1, s2, q _ H2 F2 (t1.trans t2) hs2 (.bl _)⟩
/-! ## a text in a list of texts -/
theorem inV_strs {x : Str} : ∀ ys : List Str, inV (.str x) (ys.map V.str) = decide (x ∈ ys)
  | [] => by simp [inV]
  | y :: ys => by
    have ih := inV_strs (x := x) ys
    unfold inV at ih ⊢
    rw [List.map_cons, List.any_cons, ih]
    have e : eqV (.str y) (.str x) = decide (x = y) := by
      by_cases h : x = y
      · subst h; simp [eqV]
      · have : ¬ y = x := fun z => h z.symm
        simp [eqV, h, this]
    rw [e]
    by_cases h : x = y <;> simp [h]
theorem flat_strs : ∀ ys : List Str, (ys.map V.str).all flatV = true
  | [] => rfl
  | y :: ys => by rw [List.map_cons, List.all_cons, flat_strs ys]; rfl
theorem ev_inO {x : Str} {ys : List Str} {k : Nat} {a : Addr} (ha : Ev ta G D0 (DS K x) D1) (hb : Ev tb G D1 (Is (.ref a)) D2) (hk : D2[k]? = some (a, OL K (ys.map .str))) : Ev (tOp (rIn K false) ta tb) G D0 (DB K (decide (x ∈ ys))) D2 := fun σ H F hs ss Q q =>
  ha σ H F hs ss _ fun v H1 F1 s1 hs1 r1 => hb σ H1 F1 hs1 (ss.mono s1) _ fun u H2 F2 s2 hs2 r2 => by
    have eu : u = .ref a := r2
    obtain ⟨o, ho, xs, rfl, hx⟩ := hs2.at hk
    rw [strs_of hx] at ho
    refine ⟨a, ys.map V.str, eu, .inl (SqL.of ho), by rw [dp_str r1]; rfl, flat_strs ys, ?_⟩
    have e : inV v (ys.map V.str) = decide (x ∈ ys) := by rw [dp_str r1]; exact inV_strs ys
    simp only [e]
    exact q _ H2 F2 (s1.trans s2) hs2 (.bl _)
end
end TL

set_option Elab.async false
set_option linter.all false
set_option maxRecDepth 100000
set_option maxHeartbeats 1000000
namespace TL
open PySem PySem.Spec L2
/-! ## data that the written part holds -/
mutual
def dataB (K : PySem.W.Frag) (v : Value) : PyData → Bool
  | .none => (match v with
    | .none => true
    | _ => false)
  | .bool b => (match v with
    | .bool c => b == c
    | _ => false)
  | .int i => (match v with
    | .int j _ => decide (j = i)
    | _ => false)
  | .str x => (match v with
    | .str y _ => decide (y = x)
    | _ => false)
  | .tuple ds => (match v with
    | .ref a => (match K.lookup a with
      | some o => (match o.data with
        | .seq its _ => decide (o.cls = .type "tuple") && (decide (its.size ≤ sizeLine) && dataAll K its.toList ds)
        | _ => false)
      | none => false)
    | _ => false)
  | .list ds => (match v with
    | .ref a => (match K.lookup a with
      | some o => (match o.data with
        | .seq its _ => decide (o.cls = .type "list") && (o.dict.isNone && (decide (its.size ≤ sizeLine) && dataAll K its.toList ds))
        | _ => false)
      | none => false)
    | _ => false)
  | .dict _ => false
def dataAll (K : PySem.W.Frag) (vs : List Value) : List PyData → Bool
  | [] => vs.isEmpty
  | d :: ds => (match vs with
    | [] => false
    | v :: vs => dataB K v d && dataAll K vs ds)
end
mutual
theorem dataB_ok {K : PySem.W.Frag} : ∀ (d : PyData) (v : Value), dataB K v d = true → ∃ x, RelV x v ∧ ∀ F, Dp K F x d
  | .none, v, h => by
    unfold dataB at h
    split at h
    · exact ⟨.non, rfl, fun _ => .non⟩
    · cases h
  | .bool b, v, h => by
    unfold dataB at h
    split at h
    · have e := eq_of_beq h
      subst e
      exact ⟨.bl _, rfl, fun _ => .bl _⟩
    · cases h
  | .int i, v, h => by
    unfold dataB at h
    split at h
    · have e := of_decide_eq_true h
      subst e
      exact ⟨.int _, ⟨_, rfl⟩, fun _ => .int _⟩
    · cases h
  | .str x, v, h => by
    unfold dataB at h
    split at h
    · have e := of_decide_eq_true h
      subst e
      exact ⟨.str _, ⟨_, rfl⟩, fun _ => .str _⟩
    · cases h
  | .tuple ds, v, h => by
    unfold dataB at h
    split at h
    · rename_i a
      split at h
      · rename_i o ho
        split at h
        · rename_i its n hd
          simp only [Bool.and_eq_true, decide_eq_true_eq] at h
          obtain ⟨h1, h2, h3⟩ := h
          obtain ⟨xs, hv, hx⟩ := dataAll_ok ds its.toList h3
          exact ⟨.ref a, rfl, fun F => .tup (.inr ⟨o, its, n, ho, h1, hd, h2, hv⟩) (hx F)⟩
        · cases h
      · cases h
    · cases h
  | .list ds, v, h => by
    unfold dataB at h
    split at h
    · rename_i a
      split at h
      · rename_i o ho
        split at h
        · rename_i its n hd
          simp only [Bool.and_eq_true, decide_eq_true_eq, Option.isNone_iff_eq_none] at h
          obtain ⟨h1, h0, h2, h3⟩ := h
          obtain ⟨xs, hv, hx⟩ := dataAll_ok ds its.toList h3
          exact ⟨.ref a, rfl, fun F => .lst (.inr ⟨o, its, n, ho, h1, h0, hd, h2, hv⟩) (hx F)⟩
        · cases h
      · cases h
    · cases h
  | .dict _, v, h => by
    unfold dataB at h
    cases h
theorem dataAll_ok {K : PySem.W.Frag} : ∀ (ds : List PyData) (vs : List Value), dataAll K vs ds = true → ∃ xs, Vals xs vs ∧ ∀ F, DpAll K F xs ds
  | [], vs, h => by
    unfold dataAll at h
    cases vs with
    | nil => exact ⟨[], .nil, fun _ => .nil⟩
    | cons => cases h
  | d :: ds, vs, h => by
    unfold dataAll at h
    cases vs with
    | nil => cases h
    | cons v vs =>
      simp only [Bool.and_eq_true] at h
      obtain ⟨x, r, hx⟩ := dataB_ok d v h.1
      obtain ⟨xs, rs, hxs⟩ := dataAll_ok ds vs h.2
      exact ⟨x :: xs, .cons r rs, fun F => .cons (hx F) (hxs F)⟩
end
theorem ev_con {K : PySem.W.Frag} {G : Sto} {D0 : Own} {a : Addr} {d : PyData} (h : dataB K (.ref a) d = true) : Ev (tC (.ref a)) G D0 (D K d) D0 := fun σ H F hs ss Q q => by
  obtain ⟨x, r, hx⟩ := dataB_ok d _ h
  have e : x = .ref a := by
    cases x <;> first | (have r' : (_ : Value) = _ := r; cases r'; rfl) | (obtain ⟨t, r'⟩ := r; cases r') | (have r' : (_ : Value) = _ := r; cases r')
  subst e
  exact q _ H F (Same.refl _) hs (hx F)
end TL

set_option Elab.async false
set_option linter.all false
set_option maxRecDepth 100000
set_option maxHeartbeats 1000000
namespace TL
open PySem PySem.Spec L2
/-! ## texts in order -/
theorem lt_irr : ∀ a : List Nat, ltCps a a = false
  | [] => rfl
  | x :: r => by simp [ltCps, lt_irr r]
theorem lt_tr : ∀ {a b c : List Nat}, ltCps a b = true → ltCps b c = true → ltCps a c = true
  | [], [], _, h, _ => by simp [ltCps] at h
  | [], _ :: _, [], _, h => by simp [ltCps] at h
  | [], _ :: _, _ :: _, _, _ => rfl
  | _ :: _, [], _, h, _ => by simp [ltCps] at h
  | x :: a, y :: b, [], _, h => by simp [ltCps] at h
  | x :: a, y :: b, z :: c, h1, h2 => by
    simp only [ltCps, Bool.or_eq_true, decide_eq_true_eq, Bool.and_eq_true, beq_iff_eq] at h1 h2 ⊢
    rcases h1 with h1 | ⟨h1, h1'⟩
    · rcases h2 with h2 | ⟨h2, h2'⟩
      · exact .inl (by omega)
      · exact .inl (by omega)
    · rcases h2 with h2 | ⟨h2, h2'⟩
      · exact .inl (by omega)
      · exact .inr ⟨by omega, lt_tr h1' h2'⟩
theorem lt_tri : ∀ {a b : List Nat}, ltCps a b = false → ltCps b a = false → a = b
  | [], [], _, _ => rfl
  | [], _ :: _, h, _ => by simp [ltCps] at h
  | _ :: _, [], _, h => by simp [ltCps] at h
  | x :: a, y :: b, h1, h2 => by
    simp only [ltCps, Bool.or_eq_false_iff, decide_eq_false_iff_not, Bool.and_eq_false_imp, beq_iff_eq] at h1 h2
    have e : x = y := by omega
    subst e
    rw [lt_tri (h1.2 rfl) (h2.2 rfl)]
def ltS (a b : Str) : Prop := ltCps a.cps.toList b.cps.toList = true
theorem str_ext {a b : Str} (h : a.cps.toList = b.cps.toList) : a = b := by
  obtain ⟨x⟩ := a
  obtain ⟨y⟩ := b
  congr
  exact Array.toList_inj.mp h
theorem ltS_irr (a : Str) : ¬ ltS a a := fun h => by
  unfold ltS at h
  rw [lt_irr] at h
  cases h
theorem ltS_tr {a b c : Str} (h : ltS a b) (k : ltS b c) : ltS a c := lt_tr h k
theorem ltS_tri {a b : Str} (h : ¬ ltS a b) (n : a ≠ b) : ltS b a := by
  unfold ltS at h ⊢
  cases e : ltCps b.cps.toList a.cps.toList with
  | true => rfl
  | false => exact absurd (str_ext (lt_tri (Bool.eq_false_iff.mpr h) e)) n
instance (a b : Str) : Decidable (ltS a b) := inferInstanceAs (Decidable (_ = true))
/-- two rising lists of the same names are one -/
theorem rising_one : ∀ {xs ys : List Str}, xs.Pairwise ltS → ys.Pairwise ltS → (∀ k, k ∈ xs ↔ k ∈ ys) → xs = ys
  | [], [], _, _, _ => rfl
  | [], y :: ys, _, _, h => absurd ((h y).mpr List.mem_cons_self) List.not_mem_nil
  | x :: xs, [], _, _, h => absurd ((h x).mp List.mem_cons_self) List.not_mem_nil
  | x :: xs, y :: ys, hx, hy, h => by
    rw [List.pairwise_cons] at hx hy
    have e : x = y := by
      rcases List.mem_cons.mp ((h x).mp List.mem_cons_self) with e | m
      · exact e
      · rcases List.mem_cons.mp ((h y).mpr List.mem_cons_self) with e | m2
        · exact e.symm
        · exact absurd (ltS_tr (hy.1 x m) (hx.1 y m2)) (ltS_irr y)
    subst e
    congr 1
    refine rising_one hx.2 hy.2 fun k => ?_
    constructor
    · intro m
      rcases List.mem_cons.mp ((h k).mp (List.mem_cons_of_mem _ m)) with e | m2
      · subst e
        exact absurd (hx.1 k m) (ltS_irr k)
      · exact m2
    · intro m
      rcases List.mem_cons.mp ((h k).mpr (List.mem_cons_of_mem _ m)) with e | m2
      · subst e
        exact absurd (hy.1 k m) (ltS_irr k)
      · exact m2
theorem rising_of : ∀ {p : Str} {r : List Str}, PyProof.Rows.risingS p r = true → (p :: r).Nodup → (p :: r).Pairwise ltS
  | p, [], _, _ => List.pairwise_singleton _ _
  | p, x :: r, h, nd => by
    simp only [PyProof.Rows.risingS, Bool.and_eq_true, Bool.not_eq_true'] at h
    rw [List.nodup_cons] at nd
    have ih := rising_of h.2 nd.2
    have px : ltS p x := ltS_tri (a := x) (b := p) (fun z => by unfold ltS at z; rw [h.1] at z; cases z) (fun e => nd.1 (by subst e; exact List.mem_cons_self))
    rw [List.pairwise_cons]
    refine ⟨fun k hk => ?_, ih⟩
    rcases List.mem_cons.mp hk with e | m
    · subst e; exact px
    · exact ltS_tr px ((List.pairwise_cons.mp ih).1 k m)
theorem sorted_of {ys : List Str} (h : PyProof.Rows.sortedS ys = true) (nd : ys.Nodup) : ys.Pairwise ltS := by
  cases ys with
  | nil => exact .nil
  | cons p r => exact rising_of h nd
def insU (k : Str) : List Str → List Str
  | [] => [k]
  | y :: ys => if ltS k y then k :: y :: ys else if k = y then y :: ys else y :: insU k ys
theorem mem_insU {k j : Str} : ∀ {ys : List Str}, j ∈ insU k ys ↔ j = k ∨ j ∈ ys
  | [] => by simp [insU]
  | y :: ys => by
    unfold insU
    split
    · simp
    · split
      · rename_i e
        subst e
        simp
      · rw [List.mem_cons, mem_insU, List.mem_cons]
        constructor
        · rintro (h | h | h)
          · exact .inr (.inl h)
          · exact .inl h
          · exact .inr (.inr h)
        · rintro (h | h | h)
          · exact .inr (.inl h)
          · exact .inl h
          · exact .inr (.inr h)
theorem rise_insU {k : Str} : ∀ {ys : List Str}, ys.Pairwise ltS → (insU k ys).Pairwise ltS
  | [], _ => List.pairwise_singleton _ _
  | y :: ys, h => by
    unfold insU
    have h' := List.pairwise_cons.mp h
    split
    · rename_i l
      rw [List.pairwise_cons]
      refine ⟨fun j hj => ?_, h⟩
      rcases List.mem_cons.mp hj with e | m
      · subst e; exact l
      · exact ltS_tr l (h'.1 j m)
    · split
      · exact h
      · rename_i n1 n2
        rw [List.pairwise_cons]
        refine ⟨fun j hj => ?_, rise_insU h'.2⟩
        rcases mem_insU.mp hj with e | m
        · subst e; exact ltS_tri n1 n2
        · exact h'.1 j m
/-- names in order, each once -/
def inOrder : List Str → List Str
  | [] => []
  | k :: ks => insU k (inOrder ks)
theorem mem_inOrder {j : Str} : ∀ {ks : List Str}, j ∈ inOrder ks ↔ j ∈ ks
  | [] => Iff.rfl
  | k :: ks => by
    show j ∈ insU k (inOrder ks) ↔ _
    rw [mem_insU, mem_inOrder, List.mem_cons]
theorem rise_inOrder : ∀ ks : List Str, (inOrder ks).Pairwise ltS
  | [] => .nil
  | k :: ks => rise_insU (rise_inOrder ks)
theorem inOrder_eq {ks js : List Str} (h : ∀ k, k ∈ ks ↔ k ∈ js) : inOrder ks = inOrder js := rising_one (rise_inOrder _) (rise_inOrder _) fun k => by rw [mem_inOrder, mem_inOrder, h]
theorem inOrder_self {ks : List Str} (h : ks.Pairwise ltS) : inOrder ks = ks := rising_one (rise_inOrder _) h fun k => mem_inOrder
/-- what sorted gives of names that differ -/
theorem sort_is {ks js : List Str} {ds : List PyData} (h : SortP ks ds) (nd : ks.Nodup) (e : ∀ k, k ∈ ks ↔ k ∈ js) : ds = (inOrder js).map .str := by
  obtain ⟨ys, rfl, pm, so⟩ := h
  rw [rising_one (sorted_of so (pm.nodup_iff.mpr nd)) (rise_inOrder js) fun k => by rw [pm.mem_iff, mem_inOrder, e]]
/-! ## tables of numbers -/
abbrev qT (r : Rat) : PyData := .tuple [.int r.num, .int r.den]
abbrev pairD (e : Str × Rat) : PyData := .tuple [.str e.1, qT e.2]
def tot : List (Str × Rat) → Str → Rat
  | [], _ => 0
  | e :: ps, k => (if e.1 = k then e.2 else 0) + tot ps k
def cnt : List (Str × Rat) → Str → Nat
  | [], _ => 0
  | e :: ps, k => (if e.1 = k then 1 else 0) + cnt ps k
theorem tot_app (k : Str) : ∀ ps qs : List (Str × Rat), tot (ps ++ qs) k = tot ps k + tot qs k
  | [], qs => by
    show tot qs k = 0 + tot qs k
    grind
  | e :: ps, qs => by
    show (if e.1 = k then e.2 else 0) + tot (ps ++ qs) k = (if e.1 = k then e.2 else 0) + tot ps k + tot qs k
    rw [tot_app k ps qs]
    grind
theorem tot_rev (k : Str) : ∀ ps : List (Str × Rat), tot ps.reverse k = tot ps k
  | [] => rfl
  | e :: ps => by
    rw [List.reverse_cons, tot_app, tot_rev k ps]
    show tot ps k + ((if e.1 = k then e.2 else 0) + 0) = (if e.1 = k then e.2 else 0) + tot ps k
    grind
theorem tot_none {k : Str} : ∀ {ps : List (Str × Rat)}, k ∉ ps.map (·.1) → tot ps k = 0
  | [], _ => rfl
  | e :: ps, h => by
    simp only [List.map_cons, List.mem_cons, not_or] at h
    have n : ¬ e.1 = k := fun z => h.1 z.symm
    show (if e.1 = k then e.2 else 0) + tot ps k = 0
    rw [if_neg n, tot_none h.2]
    grind
theorem cnt_app (k : Str) : ∀ ps qs : List (Str × Rat), cnt (ps ++ qs) k = cnt ps k + cnt qs k
  | [], qs => by simp [cnt]
  | e :: ps, qs => by
    show (if e.1 = k then 1 else 0) + cnt (ps ++ qs) k = (if e.1 = k then 1 else 0) + cnt ps k + cnt qs k
    rw [cnt_app k ps qs]
    omega
theorem cnt_le (k : Str) : ∀ ps : List (Str × Rat), cnt ps k ≤ ps.length
  | [] => Nat.le_refl _
  | e :: ps => by
    have := cnt_le k ps
    show (if e.1 = k then 1 else 0) + cnt ps k ≤ ps.length + 1
    split <;> omega
theorem cnt_take (k : Str) (j : Nat) (ps : List (Str × Rat)) : cnt (ps.take j) k ≤ cnt ps k := by
  have h := cnt_app k (ps.take j) (ps.drop j)
  rw [List.take_append_drop] at h
  omega
theorem cnt_one {k : Str} : ∀ {ps : List (Str × Rat)}, (ps.map (·.1)).Nodup → cnt ps k ≤ 1
  | [], _ => Nat.zero_le _
  | e :: ps, h => by
    rw [List.map_cons, List.nodup_cons] at h
    show (if e.1 = k then 1 else 0) + cnt ps k ≤ 1
    by_cases q : e.1 = k
    · rw [if_pos q]
      have z : cnt ps k = 0 := by
        have m := h.1
        rw [q] at m
        clear h
        induction ps with
        | nil => rfl
        | cons f ps ih =>
          simp only [List.map_cons, List.mem_cons, not_or] at m
          show (if f.1 = k then 1 else 0) + cnt ps k = 0
          rw [if_neg (fun z => m.1 z.symm), ih m.2]
      omega
    · rw [if_neg q]
      have := cnt_one (k := k) h.2
      omega
theorem tot_bd {k : Str} {b : Nat} : ∀ {ps : List (Str × Rat)}, (∀ e ∈ ps, Nu.Bd b e.2) → Nu.Bd (1 + (b + 1) * cnt ps k) (tot ps k)
  | [], _ => bd_0
  | e :: ps, h => by
    have ih := tot_bd (k := k) (ps := ps) fun f m => h f (List.mem_cons_of_mem _ m)
    show Nu.Bd (1 + (b + 1) * ((if e.1 = k then 1 else 0) + cnt ps k)) ((if e.1 = k then e.2 else 0) + tot ps k)
    by_cases q : e.1 = k
    · rw [if_pos q, if_pos q]
      refine (Nu.plus_bd (h e List.mem_cons_self) ih).mono ?_
      rw [Nat.mul_add]
      omega
    · rw [if_neg q, if_neg q, Nat.zero_add]
      have z : (0 : Rat) + tot ps k = tot ps k := by grind
      rw [z]
      exact ih
/-- the pairs of a sum: in order, each name once, no nought -/
def res (ps : List (Str × Rat)) : List (Str × Rat) := ((inOrder (ps.map (·.1))).filter fun k => !decide (tot ps k = 0)).map fun k => (k, tot ps k)
def sumD (n : Rat) (rs : List (Str × Rat)) : PyData := .tuple [qT n, .tuple (rs.map pairD)]
theorem res_keys (ps : List (Str × Rat)) : (res ps).map (·.1) = (inOrder (ps.map (·.1))).filter fun k => !decide (tot ps k = 0) := by
  unfold res
  rw [List.map_map]
  exact List.map_id _
theorem res_rise (ps : List (Str × Rat)) : ((res ps).map (·.1)).Pairwise ltS := by
  rw [res_keys]
  exact (rise_inOrder _).filter _
theorem rise_nodup {ks : List Str} (h : ks.Pairwise ltS) : ks.Nodup := h.imp fun l e => by subst e; exact ltS_irr _ l
theorem res_ext {ps qs : List (Str × Rat)} (h : ∀ k, tot ps k = tot qs k) : res ps = res qs := by
  have key : (inOrder (ps.map (·.1))).filter (fun k => !decide (tot ps k = 0)) = (inOrder (qs.map (·.1))).filter fun k => !decide (tot qs k = 0) := by
    refine rising_one ((rise_inOrder _).filter _) ((rise_inOrder _).filter _) fun k => ?_
    simp only [List.mem_filter, mem_inOrder, Bool.not_eq_true', decide_eq_false_iff_not, h k]
    constructor
    · rintro ⟨_, n⟩
      refine ⟨?_, n⟩
      by_cases m : k ∈ qs.map (·.1)
      · exact m
      · exact absurd (tot_none m) n
    · rintro ⟨_, n⟩
      refine ⟨?_, n⟩
      by_cases m : k ∈ ps.map (·.1)
      · exact m
      · exact absurd ((h k).symm.trans (tot_none m)) n
  have f : (fun k => (k, tot ps k)) = fun k => (k, tot qs k) := funext fun k => by rw [h k]
  unfold res
  rw [key, f]
theorem tot_map {k : Str} {f : Str → Rat} : ∀ {ks : List Str}, ks.Nodup → tot (ks.map fun j => (j, f j)) k = if k ∈ ks then f k else 0
  | [], _ => by simp [tot]
  | j :: ks, h => by
    rw [List.nodup_cons] at h
    show (if j = k then f j else 0) + tot (ks.map fun j => (j, f j)) k = _
    rw [tot_map h.2]
    by_cases e : j = k
    · subst e
      rw [if_pos rfl, if_neg h.1, if_pos List.mem_cons_self]
      grind
    · rw [if_neg e]
      have : (k ∈ j :: ks) ↔ (k ∈ ks) := by
        rw [List.mem_cons]
        constructor
        · rintro (z | z)
          · exact absurd z.symm e
          · exact z
        · exact .inr
      simp only [this]
      grind
theorem tot_res (ps : List (Str × Rat)) (k : Str) : tot (res ps) k = tot ps k := by
  unfold res
  rw [tot_map (rise_nodup ((rise_inOrder _).filter _))]
  by_cases m : k ∈ ps.map (·.1)
  · by_cases z : tot ps k = 0
    · rw [if_neg (by simp [z]), z]
    · rw [if_pos (by simp [List.mem_filter, mem_inOrder, m, z])]
  · rw [tot_none m, if_neg (by simp [List.mem_filter, mem_inOrder, m])]
theorem res_res (ps : List (Str × Rat)) : res (res ps) = res ps := res_ext (tot_res ps)
theorem res_rev (ps : List (Str × Rat)) : res ps.reverse = res ps := res_ext fun k => tot_rev k ps
theorem res_bd {ps : List (Str × Rat)} {b n : Nat} (h : ∀ e ∈ ps, Nu.Bd b e.2) (hn : ∀ k, 1 + (b + 1) * cnt ps k ≤ n) : ∀ e ∈ res ps, Nu.Bd n e.2 := by
  intro e m
  unfold res at m
  obtain ⟨k, _, rfl⟩ := List.mem_map.mp m
  exact (tot_bd h).mono (hn k)
theorem res_len (ps : List (Str × Rat)) : (res ps).length ≤ ps.length := by
  have h1 : ∀ (k : Str) (ys : List Str), (insU k ys).length ≤ ys.length + 1 := by
    intro k ys
    induction ys with
    | nil => exact Nat.le_refl _
    | cons y ys ih =>
      unfold insU
      split
      · simp
      · split
        · simp
        · simp only [List.length_cons]
          omega
  have h2 : ∀ ks : List Str, (inOrder ks).length ≤ ks.length := by
    intro ks
    induction ks with
    | nil => exact Nat.le_refl _
    | cons k ks ih =>
      have := h1 k (inOrder ks)
      show (insU k (inOrder ks)).length ≤ ks.length + 1
      omega
  unfold res
  rw [List.length_map]
  refine Nat.le_trans (List.length_filter_le _ _) (Nat.le_trans (h2 _) ?_)
  rw [List.length_map]
  exact Nat.le_refl _
/-- a table of what there is so far -/
structure TabOf (m : List (Str × PyData)) (ps : List (Str × Rat)) : Prop where
  nd : (m.map (·.1)).Nodup
  mem : ∀ k, k ∈ m.map (·.1) ↔ k ∈ ps.map (·.1)
  get : ∀ k, k ∈ ps.map (·.1) → getM m k = some (qT (tot ps k))
  len : m.length ≤ ps.length
theorem getM_none {m : List (Str × PyData)} {k : Str} (h : k ∉ m.map (·.1)) : getM m k = none := by
  unfold getM
  rw [List.find?_eq_none.mpr fun e he z => h (List.mem_map.mpr ⟨e, he, of_decide_eq_true z⟩)]
  rfl
theorem getM_put {m : List (Str × PyData)} {k j : Str} {d : PyData} : getM (putM m k d) j = if j = k then some d else getM m j := by
  unfold putM
  split
  · rename_i a
    induction m with
    | nil => cases a
    | cons e m ih =>
      rw [List.map_cons]
      by_cases h : e.1 = k
      · rw [if_pos h]
        by_cases q : j = k
        · subst q
          simp [getM, h]
        · have n : ¬ e.1 = j := fun z => q (z.symm.trans h)
          rw [if_neg q]
          have e1 : getM ((e.1, d) :: m.map fun e => if e.1 = k then (e.1, d) else e) j = getM (m.map fun e => if e.1 = k then (e.1, d) else e) j := by simp [getM, n]
          have e2 : getM (e :: m) j = getM m j := by simp [getM, n]
          rw [e1, e2]
          clear ih a
          induction m with
          | nil => rfl
          | cons f m ih =>
            rw [List.map_cons]
            by_cases h2 : f.1 = k
            · have n2 : ¬ f.1 = j := fun z => q (z.symm.trans h2)
              rw [if_pos h2]
              have e3 : getM ((f.1, d) :: m.map fun e => if e.1 = k then (e.1, d) else e) j = getM (m.map fun e => if e.1 = k then (e.1, d) else e) j := by simp [getM, n2]
              have e4 : getM (f :: m) j = getM m j := by simp [getM, n2]
              rw [e3, e4]
              exact ih (by simp [getM, n]) (by simp [getM, n])
            · rw [if_neg h2]
              by_cases h3 : f.1 = j
              · simp [getM, h3]
              · have e3 : getM (f :: m.map fun e => if e.1 = k then (e.1, d) else e) j = getM (m.map fun e => if e.1 = k then (e.1, d) else e) j := by simp [getM, h3]
                have e4 : getM (f :: m) j = getM m j := by simp [getM, h3]
                rw [e3, e4]
                exact ih (by simp [getM, n]) (by simp [getM, n])
      · have a' : (m.any fun e => decide (e.1 = k)) = true := by simpa [h] using a
        rw [if_neg h]
        have ih' := ih a'
        by_cases q : e.1 = j
        · have n : ¬ j = k := fun z => h (q.trans z)
          rw [if_neg n]
          simp [getM, q]
        · have e1 : getM (e :: m.map fun e => if e.1 = k then (e.1, d) else e) j = getM (m.map fun e => if e.1 = k then (e.1, d) else e) j := by simp [getM, q]
          have e2 : getM (e :: m) j = getM m j := by simp [getM, q]
          rw [e1, e2]
          exact ih'
  · rename_i a
    have no : ∀ e ∈ m, ¬ e.1 = k := fun e he z => a (List.any_eq_true.mpr ⟨e, he, decide_eq_true z⟩)
    unfold getM
    rw [List.find?_append]
    by_cases q : j = k
    · subst q
      rw [if_pos rfl, List.find?_eq_none.mpr fun e he z => no e he (of_decide_eq_true z)]
      simp
    · rw [if_neg q]
      have n : ¬ k = j := fun z => q z.symm
      cases f : m.find? fun e => decide (e.1 = j) with
      | none => simp [n]
      | some x => simp
theorem keys_put {m : List (Str × PyData)} {k : Str} {d : PyData} : (putM m k d).map (·.1) = if k ∈ m.map (·.1) then m.map (·.1) else m.map (·.1) ++ [k] := by
  unfold putM
  have c : (m.any fun e => decide (e.1 = k)) = decide (k ∈ m.map (·.1)) := by
    rw [Bool.eq_iff_iff, List.any_eq_true, decide_eq_true_eq, List.mem_map]
    constructor
    · rintro ⟨e, h1, h2⟩
      exact ⟨e, h1, of_decide_eq_true h2⟩
    · rintro ⟨e, h1, h2⟩
      exact ⟨e, h1, decide_eq_true h2⟩
  rw [c]
  by_cases h : k ∈ m.map (·.1)
  · rw [if_pos (decide_eq_true h), if_pos h, List.map_map]
    refine List.map_congr_left fun e _ => ?_
    show (if e.1 = k then (e.1, d) else e).1 = e.1
    split <;> rfl
  · rw [if_neg (by simpa using h), if_neg h, List.map_append]
    rfl
theorem TabOf.nil : TabOf [] [] := ⟨.nil, fun _ => Iff.rfl, fun _ h => absurd h List.not_mem_nil, Nat.le_refl _⟩
/-- what is looked up, with nought where nothing is -/
theorem TabOf.look {m : List (Str × PyData)} {ps : List (Str × Rat)} (h : TabOf m ps) (k : Str) : (getM m k).getD (qT 0) = qT (tot ps k) := by
  by_cases q : k ∈ ps.map (·.1)
  · rw [h.get k q]
    rfl
  · rw [getM_none (fun z => q ((h.mem k).mp z)), tot_none q]
    rfl
theorem TabOf.put {m : List (Str × PyData)} {ps : List (Str × Rat)} (h : TabOf m ps) (k : Str) (r : Rat) : TabOf (putM m k (qT (tot ps k + r))) (ps ++ [(k, r)]) where
  nd := by
    rw [keys_put]
    split
    · exact h.nd
    · rename_i n
      rw [List.nodup_append]
      refine ⟨h.nd, by simp, fun a ha b hb e => ?_⟩
      rw [List.mem_singleton] at hb
      subst hb
      subst e
      exact n ha
  mem := fun j => by
    rw [keys_put, List.map_append, List.mem_append]
    by_cases q : k ∈ m.map (·.1)
    · rw [if_pos q, h.mem j]
      constructor
      · exact .inl
      · rintro (z | z)
        · exact z
        · simp only [List.map_cons, List.map_nil, List.mem_singleton] at z
          subst z
          exact (h.mem _).mp q
    · rw [if_neg q, List.mem_append, h.mem j]
      rfl
  get := fun j hj => by
    rw [getM_put, tot_app]
    by_cases q : j = k
    · subst q
      rw [if_pos rfl]
      have : tot ps j + tot [(j, r)] j = tot ps j + r := by
        show tot ps j + ((if j = j then r else 0) + 0) = _
        rw [if_pos rfl]
        grind
      rw [this]
    · rw [if_neg q]
      have z : tot [(k, r)] j = 0 := by
        show (if k = j then r else 0) + 0 = 0
        rw [if_neg (fun e => q e.symm)]
        grind
      have z2 : tot ps j + tot [(k, r)] j = tot ps j := by rw [z]; grind
      rw [z2]
      rw [List.map_append, List.mem_append] at hj
      rcases hj with hj | hj
      · exact h.get j hj
      · simp only [List.map_cons, List.map_nil, List.mem_singleton] at hj
        exact absurd hj q
  len := by
    have : (putM m k (qT (tot ps k + r))).length ≤ m.length + 1 := by
      unfold putM
      split
      · rw [List.length_map]; omega
      · simp
    have := h.len
    simp only [List.length_append, List.length_cons, List.length_nil]
    omega
/-- a short text of signs that there are -/
structure Sh (z : Str) : Prop where
  len : z.length ≤ 20
  ok : ∀ c ∈ z.cps.toList, c < 0x110000
theorem app_cps (x y : Str) : (x ++ y).cps.toList = x.cps.toList ++ y.cps.toList := by
  show (x.cps ++ y.cps).toList = _
  rw [Array.toList_append]
theorem Sh.strOk {z : Str} (h : Sh z) : PyData.canLay0 (.str z) = true := by
  show z.cps.all (fun c => decide (c < 0x110000)) = true
  rw [← Array.all_toList, List.all_eq_true]
  exact fun c hc => decide_eq_true (h.ok c hc)
theorem mem_cut {z : Str} {lo hi : Option Int} {c : Nat} (h : c ∈ (cutS z lo hi).cps.toList) : c ∈ z.cps.toList := by
  have h' : c ∈ (z.cps.toList.drop (HT.sIx z.length 0 lo)).take (HT.sIx z.length z.length hi - HT.sIx z.length 0 lo) := h
  exact List.mem_of_mem_drop (List.mem_of_mem_take h')
theorem shaped_pairs {ps : List (Str × Rat)} (h : ∀ e ∈ ps, Sh e.1) : SeqAt.shaped (.list (ps.map pairD)) = true := by
  have h1 : PyData.canLayAll0 (ps.map pairD) = true := by
    induction ps with
    | nil => rfl
    | cons e ps ih =>
      rw [List.map_cons]
      show (PyData.canLay0 (pairD e) && PyData.canLayAll0 (ps.map pairD)) = true
      rw [ih fun f m => h f (List.mem_cons_of_mem _ m), Bool.and_true]
      show (PyData.canLay0 (.str e.1) && _) = true
      rw [(h e List.mem_cons_self).strOk]
      rfl
  have h2 : PyData.depthAll (ps.map pairD) ≤ 2 := by
    clear h h1
    induction ps with
    | nil => exact Nat.zero_le _
    | cons e ps ih =>
      rw [List.map_cons]
      show max (PyData.depth (pairD e)) (PyData.depthAll (ps.map pairD)) ≤ 2
      have : PyData.depth (pairD e) = 2 := rfl
      omega
  unfold SeqAt.shaped
  have h3 : PyData.canLay0 (.list (ps.map pairD)) = true := h1
  have h4 : PyData.depth (.list (ps.map pairD)) ≤ 64 := by
    show PyData.depthAll (ps.map pairD) + 1 ≤ 64
    omega
  rw [h3, Bool.true_and]
  exact decide_eq_true h4
theorem eqv_same {ps : List (Str × Rat)} (h : ∀ e ∈ ps, Sh e.1) : PyData.eqv (.list (ps.map pairD)) (.list (ps.map pairD)) = true := SeqAt.eqv_refl _ (SeqAt.canLay_of_shaped (shaped_pairs h))
theorem str_at {zs : List Str} {i : Int} (h0 : 0 ≤ i) (h1 : i < zs.length) : ∃ z ∈ zs, atI (zs.map PyData.str) i = some (.str z) := by
  have h2 : i.toNat < zs.length := by omega
  refine ⟨zs[i.toNat], List.getElem_mem h2, ?_⟩
  unfold atI ixN
  rw [if_pos h0, List.length_map, if_pos h1, Option.bind_some, List.getElem?_map, List.getElem?_eq_getElem h2]
  rfl
theorem pair_at {ps : List (Str × Rat)} {i : Int} (h0 : 0 ≤ i) (h1 : i < ps.length) : ∃ e ∈ ps, atI (ps.map pairD) i = some (pairD e) := by
  have h2 : i.toNat < ps.length := by omega
  refine ⟨ps[i.toNat], List.getElem_mem h2, ?_⟩
  unfold atI ixN
  rw [if_pos h0, List.length_map, if_pos h1, Option.bind_some, List.getElem?_map, List.getElem?_eq_getElem h2]
  rfl
/-! ## wells of which little is known -/
def OWl (K : PySem.W.Frag) (n : Nat) : OTy := OTy.ex (fun w : We => OL K w.d) (We.ok n)
theorem owl_in {K : PySem.W.Frag} {w : We} {n : Nat} (h : w.ok n) : ∀ o F, (OL K w.d).p o F → (OWl K n).p o F := fun o F r => ⟨w, h, r⟩
theorem We.ok.up {w : We} {n m : Nat} (h : w.ok n) (l : n ≤ m) : w.ok m := by
  rcases h with h | ⟨h1, h2, h3, h4⟩
  · exact .inl h
  · exact .inr ⟨h1, h2, h3, by omega⟩
theorem owl_up {K : PySem.W.Frag} {n m : Nat} (l : n ≤ m) : ∀ o F, (OWl K n).p o F → (OWl K m).p o F := fun o F ⟨w, h, r⟩ => ⟨w, h.up l, r⟩
section
variable {K : PySem.W.Frag} {G G1 G2 : Sto} {D0 D1 D2 D3 : Own} {te ta tb tx : TE} {tt : TT} {R Ra Rb : Ty} {F0 F1 : Hp} {E : Ends} {X : XK} {tl th : TO}
theorem GoV.reown {P : VK} {k : Nat} {a : Addr} {O O' : OTy} (h : GoV P F0 R (D0.set k (a, O'))) (hk : D0[k]? = some (a, O)) (f : ∀ o F, O.p o F → O'.p o F) : GoV P F0 R D0 := fun v H F s hs r =>
  h v H F s (hs.reown hk fun o q _ => f o F q) r
theorem go_openW {P : L2.St → Hp → Prop} {k : Nat} {a : Addr} {n : Nat} (hk : D0[k]? = some (a, OWl K n)) (h : ∀ w : We, w.ok n → Go P F0 G (D0.set k (a, OL K w.d))) : Go P F0 G D0 := go_openO hk h
theorem ev_lenO {ds : List PyData} {k : Nat} {a : Addr} (ho : Ev ta G D0 (Is (.ref a)) D1) (hk : D1[k]? = some (a, OL K ds)) : Ev (tCB (cLen K) (tCons ta tNil)) G D0 (DI K ds.length) D1 := fun σ H F hs ss Q q =>
  ho σ H F hs ss _ fun u H1 F1 s1 hs1 r1 => by
    have eu : u = .ref a := r1
    obtain ⟨o, ho, xs, rfl, hx⟩ := hs1.at hk
    exact ⟨u, ds.length, rfl, by rw [eu]; exact .inl ⟨xs, SqL.of ho, (dpAll_len hx).symm⟩, q _ H1 F1 s1 hs1 (.int _)⟩
theorem ev_lenS {z : Str} (h : Ev ta G D0 (DS K z) D1) (hz : z.length ≤ 100000) : Ev (tCB (cLen K) (tCons ta tNil)) G D0 (DI K z.length) D1 := fun σ H F hs ss Q q =>
  h σ H F hs ss _ fun u H1 F1 s1 hs1 r1 => ⟨u, z.length, rfl, by rw [dp_str r1]; exact ⟨Nat.le_trans hz sizeLine_big, rfl⟩, q _ H1 F1 s1 hs1 (.int _)⟩
theorem ev_shut {k : Nat} {a : Addr} {O O' : OTy} (h : Ev te G D0 R D1) (hk : D1[k]? = some (a, O)) (f : ∀ o F, O.p o F → O'.p o F) : Ev te G D0 R (D1.set k (a, O')) := fun σ H F hs ss Q q =>
  h σ H F hs ss Q fun v H1 F1 s1 hs1 r1 => q v H1 F1 s1 (hs1.reown hk fun o p _ => f o F1 p) r1
/-- [a text] -/
theorem evN_one {p : Str → Prop} (h : Ev te G D0 (Ty.ex (DS K) p) D1) : EvN (tLst (tCons te tNil)) G D0 (OTy.ex (fun zs : List Str => OL K (zs.map .str)) (fun zs => ∃ z, zs = [z] ∧ p z)) D1 := fun σ H F hs ss Q q =>
  h σ H F hs ss _ fun v H1 F1 s1 hs1 r1 => by
    obtain ⟨z, pz, rz⟩ := r1
    refine ⟨Nat.le_trans (by decide : 1 ≤ 100000) sizeLine_big, fun a ha => ?_⟩
    exact q a _ F1 s1 (hs1.new ha ⟨[z], ⟨z, rfl, pz⟩, [v], rfl, .cons rz .nil⟩)
end
end TL

set_option Elab.async false
set_option linter.all false
set_option maxRecDepth 100000
set_option maxHeartbeats 4000000
open PySem PySem.Spec L2 TL
namespace K04
def top (i : Nat) : Stmt := PySem.Challenge.pw_fitwhatever_k04_sums_made.main.body.getD i (.Pass ⟨0, 0, 0, 0⟩)
abbrev s_is_whole : Stmt := top 4
abbrev N_is_whole : List Str := ["thing"]
theorem sc_is_whole : FnScope N_is_whole ["thing"] (defScope s_is_whole) := ⟨rfl, rfl, rfl, by decide +kernel, rfl, by decide +kernel, by decide +kernel⟩
abbrev s_common : Stmt := top 5
abbrev N_common : List Str := ["one", "other"]
theorem sc_common : FnScope N_common ["one", "other"] (defScope s_common) := ⟨rfl, rfl, rfl, by decide +kernel, rfl, by decide +kernel, by decide +kernel⟩
abbrev s_number_of : Stmt := top 6
abbrev N_number_of : List Str := ["top", "bottom", "by"]
theorem sc_number_of : FnScope N_number_of ["top", "bottom"] (defScope s_number_of) := ⟨rfl, rfl, rfl, by decide +kernel, rfl, by decide +kernel, by decide +kernel⟩
abbrev s_plus : Stmt := top 7
abbrev N_plus : List Str := ["a", "b"]
theorem sc_plus : FnScope N_plus ["a", "b"] (defScope s_plus) := ⟨rfl, rfl, rfl, by decide +kernel, rfl, by decide +kernel, by decide +kernel⟩
abbrev s_sum_of : Stmt := top 10
abbrev N_sum_of : List Str := ["number", "pairs", "factors", "name", "factor"]
theorem sc_sum_of : FnScope N_sum_of ["number", "pairs"] (defScope s_sum_of) := ⟨rfl, rfl, rfl, by decide +kernel, rfl, by decide +kernel, by decide +kernel⟩
abbrev s__law_well : Stmt := top 12
abbrev N__law_well : List Str := ["_law_script", "_law_k", "_law_cell"]
theorem sc__law_well : FnScope N__law_well ["_law_script", "_law_k"] (defScope s__law_well) := ⟨rfl, rfl, rfl, by decide +kernel, rfl, by decide +kernel, by decide +kernel⟩
abbrev s__law_take : Stmt := top 13
abbrev N__law_take : List Str := ["_law_well_here", "_law_many", "_law_digit", "_law_turn", "_law_number_here"]
theorem sc__law_take : FnScope N__law_take ["_law_well_here", "_law_many"] (defScope s__law_take) := ⟨rfl, rfl, rfl, by decide +kernel, rfl, by decide +kernel, by decide +kernel⟩
abbrev s__law_common : Stmt := top 14
abbrev N__law_common : List Str := ["_law_one", "_law_other"]
theorem sc__law_common : FnScope N__law_common ["_law_one", "_law_other"] (defScope s__law_common) := ⟨rfl, rfl, rfl, by decide +kernel, rfl, by decide +kernel, by decide +kernel⟩
abbrev s__law_num : Stmt := top 15
abbrev N__law_num : List Str := ["_law_top", "_law_bottom", "_law_by"]
theorem sc__law_num : FnScope N__law_num ["_law_top", "_law_bottom"] (defScope s__law_num) := ⟨rfl, rfl, rfl, by decide +kernel, rfl, by decide +kernel, by decide +kernel⟩
abbrev s__law_add : Stmt := top 16
abbrev N__law_add : List Str := ["_law_one", "_law_other"]
theorem sc__law_add : FnScope N__law_add ["_law_one", "_law_other"] (defScope s__law_add) := ⟨rfl, rfl, rfl, by decide +kernel, rfl, by decide +kernel, by decide +kernel⟩
abbrev s__law_mul : Stmt := top 17
abbrev N__law_mul : List Str := ["_law_one", "_law_other"]
theorem sc__law_mul : FnScope N__law_mul ["_law_one", "_law_other"] (defScope s__law_mul) := ⟨rfl, rfl, rfl, by decide +kernel, rfl, by decide +kernel, by decide +kernel⟩
abbrev s__law_number : Stmt := top 18
abbrev N__law_number : List Str := ["_law_well_here", "_law_way"]
theorem sc__law_number : FnScope N__law_number ["_law_well_here"] (defScope s__law_number) := ⟨rfl, rfl, rfl, by decide +kernel, rfl, by decide +kernel, by decide +kernel⟩
abbrev s__law_whole : Stmt := top 19
abbrev N__law_whole : List Str := ["_law_found"]
theorem sc__law_whole : FnScope N__law_whole ["_law_found"] (defScope s__law_whole) := ⟨rfl, rfl, rfl, by decide +kernel, rfl, by decide +kernel, by decide +kernel⟩
abbrev s__law_is : Stmt := top 20
abbrev N__law_is : List Str := ["_law_found", "_law_due_here"]
theorem sc__law_is : FnScope N__law_is ["_law_found", "_law_due_here"] (defScope s__law_is) := ⟨rfl, rfl, rfl, by decide +kernel, rfl, by decide +kernel, by decide +kernel⟩
abbrev s__law_name : Stmt := top 21
abbrev N__law_name : List Str := ["_law_well_here", "_law_most", "_law_signs", "_law_size", "_law_k"]
theorem sc__law_name : FnScope N__law_name ["_law_well_here", "_law_most"] (defScope s__law_name) := ⟨rfl, rfl, rfl, by decide +kernel, rfl, by decide +kernel, by decide +kernel⟩
abbrev s__law_names : Stmt := top 22
abbrev N__law_names : List Str := ["_law_well_here", "_law_many", "_law_names_here", "_law_name_here", "_law_turn"]
theorem sc__law_names : FnScope N__law_names ["_law_well_here", "_law_many"] (defScope s__law_names) := ⟨rfl, rfl, rfl, by decide +kernel, rfl, by decide +kernel, by decide +kernel⟩
abbrev s__law_is_sum : Stmt := top 23
abbrev N__law_is_sum : List Str := ["_law_found", "_law_due_here", "_law_one", "_law_other"]
theorem sc__law_is_sum : FnScope N__law_is_sum ["_law_found", "_law_due_here"] (defScope s__law_is_sum) := ⟨rfl, rfl, rfl, by decide +kernel, rfl, by decide +kernel, by decide +kernel⟩
abbrev s__law_pairs : Stmt := top 24
abbrev N__law_pairs : List Str := ["_law_well_here", "_law_names_here", "_law_pairs_here", "_law_k", "_law_name_here", "_law_number_here"]
theorem sc__law_pairs : FnScope N__law_pairs ["_law_well_here"] (defScope s__law_pairs) := ⟨rfl, rfl, rfl, by decide +kernel, rfl, by decide +kernel, by decide +kernel⟩
abbrev s__law_due : Stmt := top 25
abbrev N__law_due : List Str := ["_law_number_here", "_law_pairs_here", "_law_factors", "_law_name_here", "_law_factor"]
theorem sc__law_due : FnScope N__law_due ["_law_number_here", "_law_pairs_here"] (defScope s__law_due) := ⟨rfl, rfl, rfl, by decide +kernel, rfl, by decide +kernel, by decide +kernel⟩
abbrev s_law : Stmt := top 26
abbrev N_law : List Str := ["_law_script", "_law_k", "_law_well_here", "_law_number_here", "_law_pairs_here", "_law_handed", "_law_due_here", "_law_found"]
theorem sc_law : FnScope N_law ["_law_script"] (defScope s_law) := ⟨rfl, rfl, rfl, by decide +kernel, rfl, by decide +kernel, by decide +kernel⟩
def sp_is_whole (K : PySem.W.Frag) : Sp := fsp (T := String) (fun n => [Of K n]) (fun n => n ∈ kinds) (fun n => .ok (DB K (decide (n = "int"))))

def sp_common (K : PySem.W.Frag) : Sp := fsp (T := Int × Int) (fun x => [DI K x.1, DI K x.2]) (fun _ => True) (fun x => .ok (DI K (Int.gcd x.1 x.2)))

def sp_number_of (K : PySem.W.Frag) : Sp := fsp (NA.args K) NA.pre (NA.out K)

def sp_plus (K : PySem.W.Frag) : Sp := fsp (T := Rat × Rat) (fun x => [DQ K x.1, DQ K x.2]) (fun x => Nu.Bd 3000 x.1 ∧ Nu.Bd 3000 x.2) (fun x => .ok (DQ K (x.1 + x.2)))

/-- number, pairs as a list or a tuple, how big -/
structure SuT where
  tup : Bool
  n : Rat
  ps : List (Str × Rat)
  b : Nat
def SuT.d (x : SuT) : PyData := if x.tup then .tuple (x.ps.map pairD) else .list (x.ps.map pairD)
structure SuT.ok (x : SuT) : Prop where
  bd : ∀ e ∈ x.ps, Nu.Bd x.b e.2
  size : ∀ k, 1 + (x.b + 1) * cnt x.ps k ≤ 3000
  b : x.b ≤ 3000
  len : x.ps.length ≤ 60
def sp_sum_of (K : PySem.W.Frag) : Sp := fsp (T := SuT) (fun x => [DQ K x.n, D K x.d]) SuT.ok (fun x => .ok (D K (sumD x.n (res x.ps))))

def sp__law_well (K : PySem.W.Frag) : Sp := fsp (T := List Int × Int) (fun x => [D K (.list (x.1.map .int)), DI K x.2]) (fun x => 0 ≤ x.2 ∧ x.2 ≤ 63) (fun x => .new (OL K (well x.1 x.2).d))

def sp__law_take (K : PySem.W.Frag) : Sp := fspM (T := We × Int) (fun x => OL K x.1.d) (fun x => OL K (x.1.nx x.2).d) (fun x => [DI K x.2]) (fun x => (∃ n, n ≤ 2 ^ 40 ∧ x.1.ok n) ∧ 0 < x.2 ∧ x.2.natAbs < 2 ^ 8000) (fun x => .ok (DI K (x.1.val x.2)))

def sp__law_common (K : PySem.W.Frag) : Sp := sp_common K

def sp__law_num (K : PySem.W.Frag) : Sp := fsp (T := Int × Int) (fun x => [DI K x.1, DI K x.2]) (fun x => x.2 ≠ 0 ∧ x.2.natAbs < 2 ^ 8000) (fun x => .ok (DQ K (Nu.q x.1 x.2)))

def sp__law_add (K : PySem.W.Frag) : Sp := fsp (T := Rat × Rat) (fun x => [DQ K x.1, DQ K x.2]) (fun x => Nu.Bd 3000 x.1 ∧ Nu.Bd 3000 x.2) (fun x => .ok (DQ K (x.1 + x.2)))

def sp__law_mul (K : PySem.W.Frag) : Sp := fsp (T := Rat × Rat) (fun x => [DQ K x.1, DQ K x.2]) (fun x => Nu.Bd 3000 x.1 ∧ Nu.Bd 3000 x.2) (fun x => .ok (DQ K (x.1 * x.2)))

/-- a drawn number, and the well behind it -/
def numR (w : We) : Rat :=
  if w.val 8 = 7 then Nu.q ((w.nx 8).val (2 * 10 ^ 17 + 1) - 10 ^ 17) (1 + ((w.nx 8).nx (2 * 10 ^ 17 + 1)).val (10 ^ 17))
  else if w.val 8 > 4 then Nu.q ((w.nx 8).val 201 - 100) (1 + ((w.nx 8).nx 201).val 6)
  else Nu.q ((w.nx 8).val 9 - 4) 1
def numW (w : We) : We :=
  if w.val 8 = 7 then ((w.nx 8).nx (2 * 10 ^ 17 + 1)).nx (10 ^ 17)
  else if w.val 8 > 4 then ((w.nx 8).nx 201).nx 6
  else (w.nx 8).nx 9
def sp__law_number (K : PySem.W.Frag) : Sp := fspM (T := We) (fun w => OL K w.d) (fun w => OL K (numW w).d) (fun _ => []) (fun w => ∃ n, n ≤ 2 ^ 39 ∧ w.ok n) (fun w => .ok (DQ K (numR w)))

def sp__law_whole (K : PySem.W.Frag) : Sp := sp_is_whole K

def sp__law_is (K : PySem.W.Frag) : Sp := fsp (T := Rat × Rat) (fun x => [DQ K x.1, DQ K x.2]) (fun _ => True) (fun x => .ok (DB K (decide (x.1 = x.2))))

def sp__law_name (K : PySem.W.Frag) : Sp := fspM (T := Nat) (fun n => OWl K n) (fun n => OWl K (n + 22)) (fun _ => [DI K 20]) (fun n => n ≤ 2 ^ 38) (fun _ => .ok (Ty.ex (DS K) Sh))

structure NamesOk (many : Int) (zs : List Str) : Prop where
  len : (zs.length : Int) = many
  nd : zs.Nodup
  short : ∀ z ∈ zs, Sh z
def sp__law_names (K : PySem.W.Frag) : Sp := fspM (T := Nat × Int) (fun x => OWl K x.1) (fun x => OWl K (x.1 + 200)) (fun x => [DI K x.2]) (fun x => x.1 ≤ 2 ^ 37 ∧ 1 ≤ x.2 ∧ x.2 ≤ 6) (fun x => .ok (Ty.ex (fun zs : List Str => DLs K (zs.map .str)) (NamesOk x.2)))

def sp__law_is_sum (K : PySem.W.Frag) : Sp := fsp (T := Rat × List (Str × Rat)) (fun x => [D K (sumD x.1 x.2), D K (sumD x.1 x.2)]) (fun x => x.2.length ≤ 1000) (fun _ => .ok (DB K true))

structure PairsOk (ps : List (Str × Rat)) : Prop where
  len : ps.length ≤ 12
  bd : ∀ e ∈ ps, Nu.Bd 60 e.2
  short : ∀ e ∈ ps, Sh e.1
def sp__law_pairs (K : PySem.W.Frag) : Sp := fspM (T := Nat) (fun n => OWl K n) (fun n => OWl K (n + 1000)) (fun _ => []) (fun n => n ≤ 2 ^ 36) (fun _ => .ok (Ty.ex (fun ps : List (Str × Rat) => DLs K (ps.map pairD)) PairsOk))

def sp__law_due (K : PySem.W.Frag) : Sp := fsp (T := SuT) (fun x => [DQ K x.n, D K x.d]) SuT.ok (fun x => .ok (D K (sumD x.n (res x.ps))))

abbrev sp_law (K : PySem.W.Frag) : Sp := lawSp K

structure Txt (K : PySem.W.Frag) (mg : Str → Option Value) : Prop where
  b_abs : mg "abs" = none
  b_bool : mg "bool" = none
  b_int : mg "int" = none
  b_isinstance : mg "isinstance" = none
  b_len : mg "len" = none
  b_list : mg "list" = none
  b_max : mg "max" = none
  b_min : mg "min" = none
  b_range : mg "range" = none
  b_sorted : mg "sorted" = none
  b_str : mg "str" = none
  b_tuple : mg "tuple" = none
  b_zip : mg "zip" = none
  c_NOUGHT : dataB K (.ref (He.ga K "NOUGHT")) (.tuple [.int (0), .int (1)]) = true
  e_NoNumber : ExOk K (He.ga K "NoNumber")
  g_NOUGHT : mg "NOUGHT" = some (.ref (He.ga K "NOUGHT"))
  g_NoNumber : mg "NoNumber" = some (.ref (He.ga K "NoNumber"))
def t_is_whole (K : PySem.W.Frag) (X : XK) : TS :=
  (tRet (tAndV (tCB (cIsi K) (tCons (tVar 0) (tCons (tC (.ty "int")) tNil))) (tNotV (tCB (cIsi K) (tCons (tVar 0) (tCons (tC (.ty "bool")) tNil))))))
def t_common (K : PySem.W.Frag) (X : XK) : TS :=
  (tSeq (tWhile (tTest (tOp (qNe K) (tVar 1) (tC (.int 0))))
  (tPar 0 1 (tCons (tVar 1) (tCons (tOp rModI (tVar 0) (tVar 1)) tNil))))
  (tRet (tCB cAbs (tCons (tVar 0) tNil))))
def t_number_of (K : PySem.W.Frag) (X : XK) : TS :=
  (tSeq (tIfS (tOr (tNot (tB (tCall (sp_is_whole K) [] X (tCons (tVar 0) tNil)))) (tOr (tNot (tB (tCall (sp_is_whole K) [] X (tCons (tVar 1) tNil)))) (tTest (tOp (qEq K) (tVar 1) (tC (.int 0))))))
  (tRaiseX (He.ga K "NoNumber") X)
  tNext)
  (tSeq (tAsg (tCall (sp_common K) [] X (tCons (tVar 0) (tCons (tVar 1) tNil))) (gName 2))
  (tSeq (tIfS (tTest (tOp rLtI (tVar 1) (tC (.int 0))))
  (tAsg (tOp rSubI (tC (.int 0)) (tVar 2)) (gName 2))
  tNext)
  (tRet (tTup (tCons (tOp rDivI (tVar 0) (tVar 2)) (tCons (tOp rDivI (tVar 1) (tVar 2)) tNil)))))))
def t_plus (K : PySem.W.Frag) (X : XK) : TS :=
  (tRet (tCall (sp_number_of K) [] X (tCons (tOp (qAdd K) (tOp (qMul K) (tOp (rIx K) (tVar 0) (tC (.int 0))) (tOp (rIx K) (tVar 1) (tC (.int 1)))) (tOp (qMul K) (tOp (rIx K) (tVar 1) (tC (.int 0))) (tOp (rIx K) (tVar 0) (tC (.int 1))))) (tCons (tOp (qMul K) (tOp (rIx K) (tVar 0) (tC (.int 1))) (tOp (rIx K) (tVar 1) (tC (.int 1)))) tNil))))
def t_sum_of (K : PySem.W.Frag) (X : XK) : TS :=
  (tSeq (tAsg tDNewK (gName 2))
  (tSeq (tFor (iSeq K (tVar 1)) (gTup K 2 (gCons (gName 3) (gCons (gName 4) gNil)))
  (sDPut (tVar 2) (tVar 3) (tCall (sp_plus K) [] X (tCons (tDGet2 (tVar 2) (tVar 3) (tC (.ref (He.ga K "NOUGHT")))) (tCons (tVar 4) tNil)))))
  (tRet (tTup (tCons (tVar 0) (tCons (tCB (cTup K) (tCons (tLc (iSeq K (tCB (qSort K) (tCons (tVar 2) tNil))) (gName 3) (tTest (tOp (qNe K) (tDGet (tVar 2) (tVar 3)) (tC (.ref (He.ga K "NOUGHT"))))) (tTup (tCons (tVar 3) (tCons (tDGet (tVar 2) (tVar 3)) tNil))) [3]) tNil)) tNil))))))
def t__law_well (K : PySem.W.Frag) (X : XK) : TS :=
  (tSeq (tAsg (tC (.int 0)) (gName 2))
  (tSeq (tIfS (tTest (tOp rLtI (tVar 1) (tCB (cLen K) (tCons (tVar 0) tNil))))
  (tAsg (tOp (rIx K) (tVar 0) (tVar 1)) (gName 2))
  tNext)
  (tRet (tLst (tCons (tCB cInt1 (tCons (tOp rGeI (tCB cAbs (tCons (tVar 2) tNil)) (tOp rPowI (tC (.int 10)) (tC (.int 18)))) tNil)) (tCons (tVar 2) (tCons (tOp (qMul K) (tC (.int 17)) (tVar 1)) tNil)))))))
def t__law_take (K : PySem.W.Frag) (X : XK) : TS :=
  (tSeq (tIfS (tTest (tOp (qEq K) (tOp (rIx K) (tVar 0) (tC (.int 0))) (tC (.int 1))))
  (tSeq (tAsg (tOp rModI (tOp (rIx K) (tVar 0) (tC (.int 1))) (tVar 1)) (gName 2))
  (tSeq (tAsg (tOp rDivI (tOp (rIx K) (tVar 0) (tC (.int 1))) (tVar 1)) (gSub (tVar 0) (tC (.int 1)) rSetL))
  (tRet (tVar 2))))
  tNext)
  (tSeq (tAsg (tOp (qAdd K) (tOp (rIx K) (tVar 0) (tC (.int 2))) (tC (.int 1))) (gName 3))
  (tSeq (tAsg (tVar 3) (gSub (tVar 0) (tC (.int 2)) rSetL))
  (tSeq (tAsg (tOp rModI (tOp (qMul K) (tOp (qAdd K) (tOp (qAdd K) (tOp (rIx K) (tVar 0) (tC (.int 1))) (tOp (qMul K) (tOp (qMul K) (tC (.int 7919)) (tVar 3)) (tVar 3))) (tVar 3)) (tC (.int 48271))) (tC (.int 2305843009213693951))) (gName 4))
  (tRet (tOp rModI (tOp rDivI (tOp rModI (tOp (qAdd K) (tOp (qMul K) (tVar 4) (tC (.int 1442695040888963407))) (tC (.int 4321))) (tC (.int 2305843009213693921))) (tC (.int 64))) (tVar 1)))))))
def t__law_common (K : PySem.W.Frag) (X : XK) : TS :=
  (tSeq (tWhile (tTest (tOp (qNe K) (tVar 1) (tC (.int 0))))
  (tPar 0 1 (tCons (tVar 1) (tCons (tOp rModI (tVar 0) (tVar 1)) tNil))))
  (tRet (tCB cAbs (tCons (tVar 0) tNil))))
def t__law_num (K : PySem.W.Frag) (X : XK) : TS :=
  (tSeq (tIfS (tTest (tOp rLtI (tVar 1) (tC (.int 0))))
  (tSeq (tAsg (tOp rSubI (tC (.int 0)) (tVar 0)) (gName 0))
  (tAsg (tOp rSubI (tC (.int 0)) (tVar 1)) (gName 1)))
  tNext)
  (tSeq (tAsg (tCall (sp__law_common K) [] X (tCons (tVar 0) (tCons (tVar 1) tNil))) (gName 2))
  (tRet (tTup (tCons (tOp rDivI (tVar 0) (tVar 2)) (tCons (tOp rDivI (tVar 1) (tVar 2)) tNil))))))
def t__law_add (K : PySem.W.Frag) (X : XK) : TS :=
  (tRet (tCall (sp__law_num K) [] X (tCons (tOp (qAdd K) (tOp (qMul K) (tOp (rIx K) (tVar 0) (tC (.int 0))) (tOp (rIx K) (tVar 1) (tC (.int 1)))) (tOp (qMul K) (tOp (rIx K) (tVar 1) (tC (.int 0))) (tOp (rIx K) (tVar 0) (tC (.int 1))))) (tCons (tOp (qMul K) (tOp (rIx K) (tVar 0) (tC (.int 1))) (tOp (rIx K) (tVar 1) (tC (.int 1)))) tNil))))
def t__law_mul (K : PySem.W.Frag) (X : XK) : TS :=
  (tRet (tCall (sp__law_num K) [] X (tCons (tOp (qMul K) (tOp (rIx K) (tVar 0) (tC (.int 0))) (tOp (rIx K) (tVar 1) (tC (.int 0)))) (tCons (tOp (qMul K) (tOp (rIx K) (tVar 0) (tC (.int 1))) (tOp (rIx K) (tVar 1) (tC (.int 1)))) tNil))))
def t__law_number (K : PySem.W.Frag) (X : XK) : TS :=
  (tSeq (tAsg (tCall (sp__law_take K) [] X (tCons (tVar 0) (tCons (tC (.int 8)) tNil))) (gName 1))
  (tSeq (tIfS (tTest (tOp (qEq K) (tVar 1) (tC (.int 7))))
  (tRet (tCall (sp__law_num K) [] X (tCons (tOp rSubI (tCall (sp__law_take K) [] X (tCons (tVar 0) (tCons (tOp (qAdd K) (tOp (qMul K) (tC (.int 2)) (tOp rPowI (tC (.int 10)) (tC (.int 17)))) (tC (.int 1))) tNil))) (tOp rPowI (tC (.int 10)) (tC (.int 17)))) (tCons (tOp (qAdd K) (tC (.int 1)) (tCall (sp__law_take K) [] X (tCons (tVar 0) (tCons (tOp rPowI (tC (.int 10)) (tC (.int 17))) tNil)))) tNil))))
  tNext)
  (tSeq (tIfS (tTest (tOp rGtI (tVar 1) (tC (.int 4))))
  (tRet (tCall (sp__law_num K) [] X (tCons (tOp rSubI (tCall (sp__law_take K) [] X (tCons (tVar 0) (tCons (tC (.int 201)) tNil))) (tC (.int 100))) (tCons (tOp (qAdd K) (tC (.int 1)) (tCall (sp__law_take K) [] X (tCons (tVar 0) (tCons (tC (.int 6)) tNil)))) tNil))))
  tNext)
  (tRet (tTup (tCons (tOp rSubI (tCall (sp__law_take K) [] X (tCons (tVar 0) (tCons (tC (.int 9)) tNil))) (tC (.int 4))) (tCons (tC (.int 1)) tNil)))))))
def t__law_whole (K : PySem.W.Frag) (X : XK) : TS :=
  (tRet (tAndV (tCB (cIsi K) (tCons (tVar 0) (tCons (tC (.ty "int")) tNil))) (tNotV (tCB (cIsi K) (tCons (tVar 0) (tCons (tC (.ty "bool")) tNil))))))
def t__law_is (K : PySem.W.Frag) (X : XK) : TS :=
  (tSeq (tIfS (tOr (tNot (tB (tCB (cIsi K) (tCons (tVar 0) (tCons (tC (.ty "tuple")) tNil))))) (tOr (tTest (tOp (qNe K) (tCB (cLen K) (tCons (tVar 0) tNil)) (tC (.int 2)))) (tOr (tNot (tB (tCall (sp__law_whole K) [] X (tCons (tOp (rIx K) (tVar 0) (tC (.int 0))) tNil)))) (tNot (tB (tCall (sp__law_whole K) [] X (tCons (tOp (rIx K) (tVar 0) (tC (.int 1))) tNil)))))))
  (tRet (tC (.bl false)))
  tNext)
  (tRet (tOp (qEq K) (tVar 0) (tVar 1))))
def t__law_name (K : PySem.W.Frag) (X : XK) : TS :=
  (tSeq (tAsg (tC (.str "abcdefghijklmnopqrstuvwxyz0123456789.")) (gName 2))
  (tSeq (tAsg (tOp (qAdd K) (tC (.int 1)) (tCall (sp__law_take K) [] X (tCons (tVar 0) (tCons (tOp (rIx K) (tLst (tCons (tC (.int 4)) (tCons (tVar 1) tNil))) (tCB cInt1 (tCons (tOp (qEq K) (tCall (sp__law_take K) [] X (tCons (tVar 0) (tCons (tC (.int 6)) tNil))) (tC (.int 5))) tNil))) tNil)))) (gName 3))
  (tRet (tM1 (rJoin K) (tC (.str "")) (tLc (iRng1 (tCons (tVar 3) tNil)) (gName 4) tYes (tOp (rIx K) (tVar 2) (tCall (sp__law_take K) [] E0 (tCons (tVar 0) (tCons (tC (.int 37)) tNil)))) [4])))))
def t__law_names (K : PySem.W.Frag) (X : XK) : TS :=
  (tSeq (tAsg (tLst (tCons (tCall (sp__law_name K) [] X (tCons (tVar 0) (tCons (tC (.int 20)) tNil))) tNil)) (gName 2))
  (tSeq (tWhile (tTest (tOp rLtI (tCB (cLen K) (tCons (tVar 2) tNil)) (tVar 1)))
  (tSeq (tAsg (tCall (sp__law_name K) [] X (tCons (tVar 0) (tCons (tC (.int 20)) tNil))) (gName 3))
  (tSeq (tIfS (tTest (tOp (qEq K) (tCall (sp__law_take K) [] X (tCons (tVar 0) (tCons (tC (.int 3)) tNil))) (tC (.int 0))))
  (tAsg (tSl rSlS (tOp (qAdd K) (tOp (rIx K) (tVar 2) (tUn qNegI (tC (.int 1)))) (tOp (rIx K) (tC (.str "a0.z")) (tCall (sp__law_take K) [] X (tCons (tVar 0) (tCons (tC (.int 4)) tNil))))) tNoPart (tPart (tC (.int 20)))) (gName 3))
  tNext)
  (tSeq (tAsg (tC (.int 0)) (gName 4))
  (tSeq (tWhile (tTest (tOp (rIn K false) (tVar 3) (tVar 2)))
  (tSeq (tAsg (tOp (qAdd K) (tOp (qAdd K) (tSl rSlS (tVar 3) tNoPart (tPart (tC (.int 18)))) (tOp (rIx K) (tC (.str "0123456789")) (tOp rModI (tVar 4) (tC (.int 10))))) (tOp (rIx K) (tC (.str "abcdefghij")) (tOp rModI (tOp rDivI (tVar 4) (tC (.int 10))) (tC (.int 10))))) (gName 3))
  (tAsg (tOp (qAdd K) (tVar 4) (tC (.int 1))) (gName 4))))
  (tDrop (tBM K "list" rAppend (tVar 2) (tCons (tVar 3) tNil))))))))
  (tRet (tVar 2))))
def t__law_is_sum (K : PySem.W.Frag) (X : XK) : TS :=
  (tSeq (tIfS (tOr (tNot (tB (tCB (cIsi K) (tCons (tVar 0) (tCons (tC (.ty "tuple")) tNil))))) (tOr (tTest (tOp (qNe K) (tCB (cLen K) (tCons (tVar 0) tNil)) (tC (.int 2)))) (tNot (tB (tCB (cIsi K) (tCons (tOp (rIx K) (tVar 0) (tC (.int 1))) (tCons (tC (.ty "tuple")) tNil)))))))
  (tRet (tC (.bl false)))
  tNext)
  (tSeq (tIfS (tOr (tNot (tB (tCall (sp__law_is K) [] X (tCons (tOp (rIx K) (tVar 0) (tC (.int 0))) (tCons (tOp (rIx K) (tVar 1) (tC (.int 0))) tNil))))) (tTest (tOp (qNe K) (tCB (cLen K) (tCons (tOp (rIx K) (tVar 0) (tC (.int 1))) tNil)) (tCB (cLen K) (tCons (tOp (rIx K) (tVar 1) (tC (.int 1))) tNil)))))
  (tRet (tC (.bl false)))
  tNext)
  (tSeq (tFor (RZ.iZipA K (tCons (tOp (rIx K) (tVar 0) (tC (.int 1))) (tCons (tOp (rIx K) (tVar 1) (tC (.int 1))) tNil))) (gTup K 2 (gCons (gName 2) (gCons (gName 3) gNil)))
  (tSeq (tIfS (tOr (tNot (tB (tCB (cIsi K) (tCons (tVar 2) (tCons (tC (.ty "tuple")) tNil))))) (tOr (tTest (tOp (qNe K) (tCB (cLen K) (tCons (tVar 2) tNil)) (tC (.int 2)))) (tNot (tB (tCB (cIsi K) (tCons (tOp (rIx K) (tVar 2) (tC (.int 0))) (tCons (tC (.ty "str")) tNil)))))))
  (tRet (tC (.bl false)))
  tNext)
  (tIfS (tOr (tTest (tOp (qNe K) (tOp (rIx K) (tVar 2) (tC (.int 0))) (tOp (rIx K) (tVar 3) (tC (.int 0))))) (tNot (tB (tCall (sp__law_is K) [] X (tCons (tOp (rIx K) (tVar 2) (tC (.int 1))) (tCons (tOp (rIx K) (tVar 3) (tC (.int 1))) tNil))))))
  (tRet (tC (.bl false)))
  tNext)))
  (tRet (tC (.bl true))))))
def t__law_pairs (K : PySem.W.Frag) (X : XK) : TS :=
  (tSeq (tAsg (tCall (sp__law_names K) [] X (tCons (tVar 0) (tCons (tOp (qAdd K) (tC (.int 1)) (tCall (sp__law_take K) [] X (tCons (tVar 0) (tCons (tC (.int 6)) tNil)))) tNil))) (gName 1))
  (tSeq (tAsg (tLst tNil) (gName 2))
  (tSeq (tFor (iRng1 (tCons (tCall (sp__law_take K) [] X (tCons (tVar 0) (tCons (tC (.int 13)) tNil))) tNil)) (gName 3)
  (tSeq (tAsg (tOp (rIx K) (tVar 1) (tCall (sp__law_take K) [] X (tCons (tVar 0) (tCons (tCB (cLen K) (tCons (tVar 1) tNil)) tNil)))) (gName 4))
  (tSeq (tAsg (tCall (sp__law_number K) [] X (tCons (tVar 0) tNil)) (gName 5))
  (tSeq (tIfS (tAnd (tTest (tOp (qEq K) (tCall (sp__law_take K) [] X (tCons (tVar 0) (tCons (tC (.int 4)) tNil))) (tC (.int 0)))) (tTest (tOp (qNe K) (tVar 2) (tLst tNil))))
  (tSeq (tAsg (tOp (rIx K) (tVar 2) (tCall (sp__law_take K) [] X (tCons (tVar 0) (tCons (tCB (cLen K) (tCons (tVar 2) tNil)) tNil)))) (gTup K 2 (gCons (gName 4) (gCons (gName 5) gNil))))
  (tAsg (tCall (sp__law_mul K) [] X (tCons (tVar 5) (tCons (tOp (rIx K) (tLst (tCons (tTup (tCons (tUn qNegI (tC (.int 1))) (tCons (tC (.int 1)) tNil))) (tCons (tTup (tCons (tC (.int 1)) (tCons (tC (.int 1)) tNil))) tNil))) (tCB cInt1 (tCons (tOp (qEq K) (tCall (sp__law_take K) [] X (tCons (tVar 0) (tCons (tC (.int 3)) tNil))) (tC (.int 0))) tNil))) tNil))) (gName 5)))
  tNext)
  (tDrop (tBM K "list" rAppend (tVar 2) (tCons (tTup (tCons (tVar 4) (tCons (tVar 5) tNil))) tNil)))))))
  (tRet (tVar 2)))))
def t__law_due (K : PySem.W.Frag) (X : XK) : TS :=
  (tSeq (tAsg tDNewK (gName 2))
  (tSeq (tFor (iSeq K (tVar 1)) (gTup K 2 (gCons (gName 3) (gCons (gName 4) gNil)))
  (sDPut (tVar 2) (tVar 3) (tCall (sp__law_add K) [] X (tCons (tDGet2 (tVar 2) (tVar 3) (tTup (tCons (tC (.int 0)) (tCons (tC (.int 1)) tNil)))) (tCons (tVar 4) tNil)))))
  (tRet (tTup (tCons (tVar 0) (tCons (tCB (cTup K) (tCons (tLc (iSeq K (tCB (qSort K) (tCons (tCB (cLst K) (tCons (tVar 2) tNil)) tNil))) (gName 3) (tTest (tOp (qNe K) (tDGet (tVar 2) (tVar 3)) (tTup (tCons (tC (.int 0)) (tCons (tC (.int 1)) tNil))))) (tTup (tCons (tVar 3) (tCons (tDGet (tVar 2) (tVar 3)) tNil))) [3]) tNil)) tNil))))))
def t_law (K : PySem.W.Frag) (X : XK) : TS :=
  (tSeq (tFor (iRng1 (tCons (tCB cMax2 (tCons (tC (.int 1)) (tCons (tCB cMin2 (tCons (tCB (cLen K) (tCons (tVar 0) tNil)) (tCons (tC (.int 30)) tNil))) tNil))) tNil)) (gName 1)
  (tSeq (tAsg (tCall (sp__law_well K) [] X (tCons (tVar 0) (tCons (tVar 1) tNil))) (gName 2))
  (tSeq (tAsg (tCall (sp__law_number K) [] X (tCons (tVar 2) tNil)) (gName 3))
  (tSeq (tAsg (tCall (sp__law_pairs K) [] X (tCons (tVar 2) tNil)) (gName 4))
  (tSeq (tAsg (tCB (cLst K) (tCons (tVar 4) tNil)) (gName 5))
  (tSeq (tAsg (tCall (sp__law_due K) [] X (tCons (tVar 3) (tCons (tVar 4) tNil))) (gName 6))
  (tSeq (tAsg (tCall (sp_sum_of K) [] X (tCons (tVar 3) (tCons (tVar 5) tNil))) (gName 7))
  (tSeq (tIfS (tOr (tNot (tB (tCall (sp__law_is_sum K) [] X (tCons (tVar 7) (tCons (tVar 6) tNil))))) (tTest (tOp (qNe K) (tVar 5) (tVar 4))))
  (tRet (tC (.bl false)))
  tNext)
  (tSeq (tIfS (tOr (tNot (tB (tCall (sp__law_is_sum K) [] X (tCons (tCall (sp_sum_of K) [] X (tCons (tVar 3) (tCons (tCB (cTup K) (tCons (tVar 4) tNil)) tNil))) (tCons (tVar 6) tNil))))) (tNot (tB (tCall (sp__law_is_sum K) [] X (tCons (tCall (sp_sum_of K) [] X (tCons (tVar 3) (tCons (tRevL K (tVar 5)) tNil))) (tCons (tVar 6) tNil))))))
  (tRet (tC (.bl false)))
  tNext)
  (tIfS (tOr (tNot (tB (tCall (sp__law_is_sum K) [] X (tCons (tCall (sp_sum_of K) [] X (tCons (tOp (rIx K) (tVar 7) (tC (.int 0))) (tCons (tOp (rIx K) (tVar 7) (tC (.int 1))) tNil))) (tCons (tVar 6) tNil))))) (tNot (tB (tCall (sp__law_is_sum K) [] X (tCons (tCall (sp_sum_of K) [] X (tCons (tVar 3) (tCons (tLst tNil) tNil))) (tCons (tTup (tCons (tVar 3) (tCons (tTup tNil) tNil))) tNil))))))
  (tRet (tC (.bl false)))
  tNext))))))))))
  (tRet (tC (.bl true))))
section
variable {P : Program} {w : World} {K : PySem.W.Frag} {mg : Str → Option Value} {base : Heap}
theorem body_is_whole (T : Txt K mg) {f : Addr} {cdv : Value} {A : Around} {outer : List Env} {s : Shared} {H : Hp} {X : XK} (hr : Room 0 (A.deeper (PyProof.Rows.envOfC "is_whole" (defScope s_is_whole) s.heap.objs.size f cdv))) :
    PSs (cxOf (L2.CX P w) P w K mg base N_is_whole "is_whole" (defScope s_is_whole) f cdv A outer s H X) (defBody s_is_whole) (t_is_whole K X) :=
  (pss_one (ps_ret (pe_and (pe_callB call_isiA rfl T.b_isinstance (by decide +kernel) (pa_cons (pv 0) (pa_cons (pe_bltn rfl T.b_int (by decide +kernel) rfl) pa_nil))) (pe_one (pe_not (pe_callB call_isiA rfl T.b_isinstance (by decide +kernel) (pa_cons (pv 0) (pa_cons (pe_bltn rfl T.b_bool (by decide +kernel) rfl) pa_nil))))))))
theorem body_common (T : Txt K mg) {f : Addr} {cdv : Value} {A : Around} {outer : List Env} {s : Shared} {H : Hp} {X : XK} (hr : Room 0 (A.deeper (PyProof.Rows.envOfC "common" (defScope s_common) s.heap.objs.size f cdv))) :
    PSs (cxOf (L2.CX P w) P w K mg base N_common "common" (defScope s_common) f cdv A outer s H X) (defBody s_common) (t_common K X) :=
  (pss_cons (ps_while (passes_of rfl) (pt_cmpR (op_neU hr.units) (pv 1) pe_int (nomark _))
    (pss_one (ps_par (by rfl) sc_common.nd rfl rfl (by decide) rfl rfl (pa_cons (pv 1) (pa_cons (pe_op op_modN (pv 0) (pv 1)) pa_nil)) (by rfl))))
    (pss_one (ps_ret (pe_callB call_abs rfl T.b_abs (by decide +kernel) (pa_cons (pv 0) pa_nil)))))
theorem body_number_of (T : Txt K mg) (F_common : Fo P w K mg base "common" ["one", "other"] [] 1 (sp_common K)) (F_is_whole : Fo P w K mg base "is_whole" ["thing"] [] 1 (sp_is_whole K)) {f : Addr} {cdv : Value} {A : Around} {outer : List Env} {s : Shared} {H : Hp} {X : XK} (hr : Room 1 (A.deeper (PyProof.Rows.envOfC "number_of" (defScope s_number_of) s.heap.objs.size f cdv))) :
    PSs (cxOf (L2.CX P w) P w K mg base N_number_of "number_of" (defScope s_number_of) f cdv A outer s H X) (defBody s_number_of) (t_number_of K X) :=
  (pss_cons (ps_if (PW.pt (pw_or (pt_not (pt_val (pe_callF F_is_whole (hr.mono (by decide)) (passes_call (takes_of rfl rfl rfl rfl) (fun _ _ _ _ h => h)) (pa_cons (pv 0) pa_nil)))) (pw_or (pt_not (pt_val (pe_callF F_is_whole (hr.mono (by decide)) (passes_call (takes_of rfl rfl rfl rfl) (fun _ _ _ _ h => h)) (pa_cons (pv 1) pa_nil)))) (pw_or1 (pt_cmpR (op_eqU hr.units) (pv 1) pe_int (nomark _))))))
    (pss_one (ps_raiseX rfl (takes_of rfl rfl rfl rfl) (T.e_NoNumber.pmk T.g_NoNumber (by exact rfl))))
    pss_nil)
    (pss_cons (ps_set (i := 2) sc_number_of.nd rfl (Or.inl rfl) (pe_callF F_common (hr.mono (by decide)) (passes_call (takes_of rfl rfl rfl rfl) (fun _ _ _ _ h => h)) (pa_cons (pv 0) (pa_cons (pv 1) pa_nil))))
    (pss_cons (ps_if (pt_cmpR op_lt (pv 1) pe_int (nomark _))
    (pss_one (ps_set (i := 2) sc_number_of.nd rfl (Or.inl rfl) (pe_op op_sub pe_int (pv 2))))
    pss_nil)
    (pss_one (ps_ret (pe_tup (pa_cons (pe_op op_div (pv 0) (pv 2)) (pa_cons (pe_op op_div (pv 1) (pv 2)) pa_nil))))))))
theorem body_plus (T : Txt K mg) (F_number_of : Fo P w K mg base "number_of" ["top", "bottom"] [] 2 (sp_number_of K)) {f : Addr} {cdv : Value} {A : Around} {outer : List Env} {s : Shared} {H : Hp} {X : XK} (hr : Room 2 (A.deeper (PyProof.Rows.envOfC "plus" (defScope s_plus) s.heap.objs.size f cdv))) :
    PSs (cxOf (L2.CX P w) P w K mg base N_plus "plus" (defScope s_plus) f cdv A outer s H X) (defBody s_plus) (t_plus K X) :=
  (pss_one (ps_ret (pe_callF F_number_of (hr.mono (by decide)) (passes_call (takes_of rfl rfl rfl rfl) (fun _ _ _ _ h => h)) (pa_cons (pe_op op_addU (pe_op op_mulU (pe_ix ix_seq (pv 0) pe_int (fun _ _ => rfl)) (pe_ix ix_seq (pv 1) pe_int (fun _ _ => rfl))) (pe_op op_mulU (pe_ix ix_seq (pv 1) pe_int (fun _ _ => rfl)) (pe_ix ix_seq (pv 0) pe_int (fun _ _ => rfl)))) (pa_cons (pe_op op_mulU (pe_ix ix_seq (pv 0) pe_int (fun _ _ => rfl)) (pe_ix ix_seq (pv 1) pe_int (fun _ _ => rfl))) pa_nil)))))
theorem body_sum_of (T : Txt K mg) (F_plus : Fo P w K mg base "plus" ["a", "b"] [] 3 (sp_plus K)) {f : Addr} {cdv : Value} {A : Around} {outer : List Env} {s : Shared} {H : Hp} {X : XK} (hr : Room 3 (A.deeper (PyProof.Rows.envOfC "sum_of" (defScope s_sum_of) s.heap.objs.size f cdv))) :
    PSs (cxOf (L2.CX P w) P w K mg base N_sum_of "sum_of" (defScope s_sum_of) f cdv A outer s H X) (defBody s_sum_of) (t_sum_of K X) :=
  (pss_cons (ps_set (i := 2) sc_sum_of.nd rfl (Or.inr rfl) pe_dnewK)
    (pss_cons (ps_for (passes_of rfl) rfl (pi_seq (pv 1)) (pg_tup rfl (pgs_cons (pg_name (i := 3) sc_sum_of.nd rfl (Or.inl rfl)) (pgs_cons (pg_name (i := 4) sc_sum_of.nd rfl (Or.inl rfl)) pgs_nil)))
    (pss_one (ps_dput (hu_of hr) (pv 2) (pv 3) (pe_callF F_plus (hr.mono (by decide)) (passes_call (takes_of rfl rfl rfl rfl) (fun _ _ _ _ h => h)) (pa_cons (pe_dget2 (hu_of hr) (pv 2) (pv 3) (pe_glob rfl T.g_NOUGHT rfl) ⟨rfl, rfl, rfl, rfl⟩) (pa_cons (pv 4) pa_nil))) rfl)))
    (pss_one (ps_ret (pe_tup (pa_cons (pv 0) (pa_cons (pe_callTy call_tuple_of rfl T.b_tuple (by decide +kernel) (pa_cons (pe_lc (own := [("name", 3)]) (g := (gName 3)) (tt := (tTest (tOp (qNe K) (tDGet (tVar 2) (tVar 3)) (tC (.ref (He.ga K "NOUGHT")))))) rfl sc_sum_of.nd  (pi_seq (pe_callB (call_sort rfl) rfl T.b_sorted (by decide +kernel) (pa_cons (pv 2) pa_nil))) (blkOk_by (N := N_sum_of) (sc := defScope s_sum_of) (by decide +kernel)) (fun _ _ _ _ _ => (pg_name (i := 3) sc_sum_of.nd rfl (Or.inl rfl))) (fun _ _ _ _ _ => pts_one (pt_cmpR (op_neU hr.units) (pe_dget (hu_of hr) (pv 2) (pv 3) (fun _ _ => rfl)) (pe_glob rfl T.g_NOUGHT rfl) (nomark _))) (fun _ _ _ _ _ => (pe_tup (pa_cons (pv 3) (pa_cons (pe_dget (hu_of hr) (pv 2) (pv 3) (fun _ _ => rfl)) pa_nil))))) pa_nil)) pa_nil)))))))
theorem body__law_well (T : Txt K mg) {f : Addr} {cdv : Value} {A : Around} {outer : List Env} {s : Shared} {H : Hp} {X : XK} (hr : Room 0 (A.deeper (PyProof.Rows.envOfC "_law_well" (defScope s__law_well) s.heap.objs.size f cdv))) :
    PSs (cxOf (L2.CX P w) P w K mg base N__law_well "_law_well" (defScope s__law_well) f cdv A outer s H X) (defBody s__law_well) (t__law_well K X) :=
  (pss_cons (ps_set (i := 2) sc__law_well.nd rfl (Or.inl rfl) pe_int)
    (pss_cons (ps_if (pt_cmpR op_lt (pv 1) (pe_callB call_len rfl T.b_len (by decide +kernel) (pa_cons (pv 0) pa_nil)) (nomark _))
    (pss_one (ps_set (i := 2) sc__law_well.nd rfl (Or.inl rfl) (pe_ix ix_seq (pv 0) (pv 1) (fun _ _ => rfl))))
    pss_nil)
    (pss_one (ps_ret (pe_lst (pa_cons (pe_callTy call_int1 rfl T.b_int (by decide +kernel) (pa_cons (pe_cmpR op_ge (pe_callB call_abs rfl T.b_abs (by decide +kernel) (pa_cons (pv 2) pa_nil)) (pe_op op_pow pe_int pe_int) (nomark _)) pa_nil)) (pa_cons (pv 2) (pa_cons (pe_op op_mulU pe_int (pv 1)) pa_nil))))))))
theorem body__law_take (T : Txt K mg) {f : Addr} {cdv : Value} {A : Around} {outer : List Env} {s : Shared} {H : Hp} {X : XK} (hr : Room 0 (A.deeper (PyProof.Rows.envOfC "_law_take" (defScope s__law_take) s.heap.objs.size f cdv))) :
    PSs (cxOf (L2.CX P w) P w K mg base N__law_take "_law_take" (defScope s__law_take) f cdv A outer s H X) (defBody s__law_take) (t__law_take K X) :=
  (pss_cons (ps_if (pt_cmpR (op_eqU hr.units) (pe_ix ix_seq (pv 0) pe_int (fun _ _ => rfl)) pe_int (nomark _))
    (pss_cons (ps_set (i := 2) sc__law_take.nd rfl (Or.inl rfl) (pe_op op_modN (pe_ix ix_seq (pv 0) pe_int (fun _ _ => rfl)) (pv 1)))
    (pss_cons (ps_asg (pe_op op_div (pe_ix ix_seq (pv 0) pe_int (fun _ _ => rfl)) (pv 1)) (pg_sub (pv 0) pe_int set_list))
    (pss_one (ps_ret (pv 2)))))
    pss_nil)
    (pss_cons (ps_set (i := 3) sc__law_take.nd rfl (Or.inl rfl) (pe_op op_addU (pe_ix ix_seq (pv 0) pe_int (fun _ _ => rfl)) pe_int))
    (pss_cons (ps_asg (pv 3) (pg_sub (pv 0) pe_int set_list))
    (pss_cons (ps_set (i := 4) sc__law_take.nd rfl (Or.inl rfl) (pe_op op_modN (pe_op op_mulU (pe_op op_addU (pe_op op_addU (pe_ix ix_seq (pv 0) pe_int (fun _ _ => rfl)) (pe_op op_mulU (pe_op op_mulU pe_int (pv 3)) (pv 3))) (pv 3)) pe_int) pe_int))
    (pss_one (ps_ret (pe_op op_modN (pe_op op_div (pe_op op_modN (pe_op op_addU (pe_op op_mulU (pv 4) pe_int) pe_int) pe_int) pe_int) (pv 1))))))))
theorem body__law_common (T : Txt K mg) {f : Addr} {cdv : Value} {A : Around} {outer : List Env} {s : Shared} {H : Hp} {X : XK} (hr : Room 0 (A.deeper (PyProof.Rows.envOfC "_law_common" (defScope s__law_common) s.heap.objs.size f cdv))) :
    PSs (cxOf (L2.CX P w) P w K mg base N__law_common "_law_common" (defScope s__law_common) f cdv A outer s H X) (defBody s__law_common) (t__law_common K X) :=
  (pss_cons (ps_while (passes_of rfl) (pt_cmpR (op_neU hr.units) (pv 1) pe_int (nomark _))
    (pss_one (ps_par (by rfl) sc__law_common.nd rfl rfl (by decide) rfl rfl (pa_cons (pv 1) (pa_cons (pe_op op_modN (pv 0) (pv 1)) pa_nil)) (by rfl))))
    (pss_one (ps_ret (pe_callB call_abs rfl T.b_abs (by decide +kernel) (pa_cons (pv 0) pa_nil)))))
theorem body__law_num (T : Txt K mg) (F__law_common : Fo P w K mg base "_law_common" ["_law_one", "_law_other"] [] 1 (sp__law_common K)) {f : Addr} {cdv : Value} {A : Around} {outer : List Env} {s : Shared} {H : Hp} {X : XK} (hr : Room 1 (A.deeper (PyProof.Rows.envOfC "_law_num" (defScope s__law_num) s.heap.objs.size f cdv))) :
    PSs (cxOf (L2.CX P w) P w K mg base N__law_num "_law_num" (defScope s__law_num) f cdv A outer s H X) (defBody s__law_num) (t__law_num K X) :=
  (pss_cons (ps_if (pt_cmpR op_lt (pv 1) pe_int (nomark _))
    (pss_cons (ps_set (i := 0) sc__law_num.nd rfl (Or.inl rfl) (pe_op op_sub pe_int (pv 0)))
    (pss_one (ps_set (i := 1) sc__law_num.nd rfl (Or.inl rfl) (pe_op op_sub pe_int (pv 1)))))
    pss_nil)
    (pss_cons (ps_set (i := 2) sc__law_num.nd rfl (Or.inl rfl) (pe_callF F__law_common (hr.mono (by decide)) (passes_call (takes_of rfl rfl rfl rfl) (fun _ _ _ _ h => h)) (pa_cons (pv 0) (pa_cons (pv 1) pa_nil))))
    (pss_one (ps_ret (pe_tup (pa_cons (pe_op op_div (pv 0) (pv 2)) (pa_cons (pe_op op_div (pv 1) (pv 2)) pa_nil)))))))
theorem body__law_add (T : Txt K mg) (F__law_num : Fo P w K mg base "_law_num" ["_law_top", "_law_bottom"] [] 2 (sp__law_num K)) {f : Addr} {cdv : Value} {A : Around} {outer : List Env} {s : Shared} {H : Hp} {X : XK} (hr : Room 2 (A.deeper (PyProof.Rows.envOfC "_law_add" (defScope s__law_add) s.heap.objs.size f cdv))) :
    PSs (cxOf (L2.CX P w) P w K mg base N__law_add "_law_add" (defScope s__law_add) f cdv A outer s H X) (defBody s__law_add) (t__law_add K X) :=
  (pss_one (ps_ret (pe_callF F__law_num (hr.mono (by decide)) (passes_call (takes_of rfl rfl rfl rfl) (fun _ _ _ _ h => h)) (pa_cons (pe_op op_addU (pe_op op_mulU (pe_ix ix_seq (pv 0) pe_int (fun _ _ => rfl)) (pe_ix ix_seq (pv 1) pe_int (fun _ _ => rfl))) (pe_op op_mulU (pe_ix ix_seq (pv 1) pe_int (fun _ _ => rfl)) (pe_ix ix_seq (pv 0) pe_int (fun _ _ => rfl)))) (pa_cons (pe_op op_mulU (pe_ix ix_seq (pv 0) pe_int (fun _ _ => rfl)) (pe_ix ix_seq (pv 1) pe_int (fun _ _ => rfl))) pa_nil)))))
theorem body__law_mul (T : Txt K mg) (F__law_num : Fo P w K mg base "_law_num" ["_law_top", "_law_bottom"] [] 2 (sp__law_num K)) {f : Addr} {cdv : Value} {A : Around} {outer : List Env} {s : Shared} {H : Hp} {X : XK} (hr : Room 2 (A.deeper (PyProof.Rows.envOfC "_law_mul" (defScope s__law_mul) s.heap.objs.size f cdv))) :
    PSs (cxOf (L2.CX P w) P w K mg base N__law_mul "_law_mul" (defScope s__law_mul) f cdv A outer s H X) (defBody s__law_mul) (t__law_mul K X) :=
  (pss_one (ps_ret (pe_callF F__law_num (hr.mono (by decide)) (passes_call (takes_of rfl rfl rfl rfl) (fun _ _ _ _ h => h)) (pa_cons (pe_op op_mulU (pe_ix ix_seq (pv 0) pe_int (fun _ _ => rfl)) (pe_ix ix_seq (pv 1) pe_int (fun _ _ => rfl))) (pa_cons (pe_op op_mulU (pe_ix ix_seq (pv 0) pe_int (fun _ _ => rfl)) (pe_ix ix_seq (pv 1) pe_int (fun _ _ => rfl))) pa_nil)))))
theorem body__law_number (T : Txt K mg) (F__law_num : Fo P w K mg base "_law_num" ["_law_top", "_law_bottom"] [] 2 (sp__law_num K)) (F__law_take : Fo P w K mg base "_law_take" ["_law_well_here", "_law_many"] [] 1 (sp__law_take K)) {f : Addr} {cdv : Value} {A : Around} {outer : List Env} {s : Shared} {H : Hp} {X : XK} (hr : Room 2 (A.deeper (PyProof.Rows.envOfC "_law_number" (defScope s__law_number) s.heap.objs.size f cdv))) :
    PSs (cxOf (L2.CX P w) P w K mg base N__law_number "_law_number" (defScope s__law_number) f cdv A outer s H X) (defBody s__law_number) (t__law_number K X) :=
  (pss_cons (ps_set (i := 1) sc__law_number.nd rfl (Or.inl rfl) (pe_callF F__law_take (hr.mono (by decide)) (passes_call (takes_of rfl rfl rfl rfl) (fun _ _ _ _ h => h)) (pa_cons (pv 0) (pa_cons pe_int pa_nil))))
    (pss_cons (ps_if (pt_cmpR (op_eqU hr.units) (pv 1) pe_int (nomark _))
    (pss_one (ps_ret (pe_callF F__law_num (hr.mono (by decide)) (passes_call (takes_of rfl rfl rfl rfl) (fun _ _ _ _ h => h)) (pa_cons (pe_op op_sub (pe_callF F__law_take (hr.mono (by decide)) (passes_call (takes_of rfl rfl rfl rfl) (fun _ _ _ _ h => h)) (pa_cons (pv 0) (pa_cons (pe_op op_addU (pe_op op_mulU pe_int (pe_op op_pow pe_int pe_int)) pe_int) pa_nil))) (pe_op op_pow pe_int pe_int)) (pa_cons (pe_op op_addU pe_int (pe_callF F__law_take (hr.mono (by decide)) (passes_call (takes_of rfl rfl rfl rfl) (fun _ _ _ _ h => h)) (pa_cons (pv 0) (pa_cons (pe_op op_pow pe_int pe_int) pa_nil)))) pa_nil)))))
    pss_nil)
    (pss_cons (ps_if (pt_cmpR op_gt (pv 1) pe_int (nomark _))
    (pss_one (ps_ret (pe_callF F__law_num (hr.mono (by decide)) (passes_call (takes_of rfl rfl rfl rfl) (fun _ _ _ _ h => h)) (pa_cons (pe_op op_sub (pe_callF F__law_take (hr.mono (by decide)) (passes_call (takes_of rfl rfl rfl rfl) (fun _ _ _ _ h => h)) (pa_cons (pv 0) (pa_cons pe_int pa_nil))) pe_int) (pa_cons (pe_op op_addU pe_int (pe_callF F__law_take (hr.mono (by decide)) (passes_call (takes_of rfl rfl rfl rfl) (fun _ _ _ _ h => h)) (pa_cons (pv 0) (pa_cons pe_int pa_nil)))) pa_nil)))))
    pss_nil)
    (pss_one (ps_ret (pe_tup (pa_cons (pe_op op_sub (pe_callF F__law_take (hr.mono (by decide)) (passes_call (takes_of rfl rfl rfl rfl) (fun _ _ _ _ h => h)) (pa_cons (pv 0) (pa_cons pe_int pa_nil))) pe_int) (pa_cons pe_int pa_nil))))))))
theorem body__law_whole (T : Txt K mg) {f : Addr} {cdv : Value} {A : Around} {outer : List Env} {s : Shared} {H : Hp} {X : XK} (hr : Room 0 (A.deeper (PyProof.Rows.envOfC "_law_whole" (defScope s__law_whole) s.heap.objs.size f cdv))) :
    PSs (cxOf (L2.CX P w) P w K mg base N__law_whole "_law_whole" (defScope s__law_whole) f cdv A outer s H X) (defBody s__law_whole) (t__law_whole K X) :=
  (pss_one (ps_ret (pe_and (pe_callB call_isiA rfl T.b_isinstance (by decide +kernel) (pa_cons (pv 0) (pa_cons (pe_bltn rfl T.b_int (by decide +kernel) rfl) pa_nil))) (pe_one (pe_not (pe_callB call_isiA rfl T.b_isinstance (by decide +kernel) (pa_cons (pv 0) (pa_cons (pe_bltn rfl T.b_bool (by decide +kernel) rfl) pa_nil))))))))
theorem body__law_is (T : Txt K mg) (F__law_whole : Fo P w K mg base "_law_whole" ["_law_found"] [] 1 (sp__law_whole K)) {f : Addr} {cdv : Value} {A : Around} {outer : List Env} {s : Shared} {H : Hp} {X : XK} (hr : Room 1 (A.deeper (PyProof.Rows.envOfC "_law_is" (defScope s__law_is) s.heap.objs.size f cdv))) :
    PSs (cxOf (L2.CX P w) P w K mg base N__law_is "_law_is" (defScope s__law_is) f cdv A outer s H X) (defBody s__law_is) (t__law_is K X) :=
  (pss_cons (ps_if (PW.pt (pw_or (pt_not (pt_val (pe_callB call_isiA rfl T.b_isinstance (by decide +kernel) (pa_cons (pv 0) (pa_cons (pe_bltn rfl T.b_tuple (by decide +kernel) rfl) pa_nil))))) (pw_or (pt_cmpR (op_neU hr.units) (pe_callB call_len rfl T.b_len (by decide +kernel) (pa_cons (pv 0) pa_nil)) pe_int (nomark _)) (pw_or (pt_not (pt_val (pe_callF F__law_whole (hr.mono (by decide)) (passes_call (takes_of rfl rfl rfl rfl) (fun _ _ _ _ h => h)) (pa_cons (pe_ix ix_seq (pv 0) pe_int (fun _ _ => rfl)) pa_nil)))) (pw_or1 (pt_not (pt_val (pe_callF F__law_whole (hr.mono (by decide)) (passes_call (takes_of rfl rfl rfl rfl) (fun _ _ _ _ h => h)) (pa_cons (pe_ix ix_seq (pv 0) pe_int (fun _ _ => rfl)) pa_nil)))))))))
    (pss_one (ps_ret pe_bl))
    pss_nil)
    (pss_one (ps_ret (pe_cmpR (op_eqU hr.units) (pv 0) (pv 1) (nomark _)))))
theorem body__law_name (T : Txt K mg) (F__law_take : Fo P w K mg base "_law_take" ["_law_well_here", "_law_many"] [] 1 (sp__law_take K)) {f : Addr} {cdv : Value} {A : Around} {outer : List Env} {s : Shared} {H : Hp} {X : XK} (hr : Room 1 (A.deeper (PyProof.Rows.envOfC "_law_name" (defScope s__law_name) s.heap.objs.size f cdv))) :
    PSs (cxOf (L2.CX P w) P w K mg base N__law_name "_law_name" (defScope s__law_name) f cdv A outer s H X) (defBody s__law_name) (t__law_name K X) :=
  (pss_cons (ps_set (i := 2) sc__law_name.nd rfl (Or.inr rfl) pe_str)
    (pss_cons (ps_set (i := 3) sc__law_name.nd rfl (Or.inl rfl) (pe_op op_addU pe_int (pe_callF F__law_take (hr.mono (by decide)) (passes_call (takes_of rfl rfl rfl rfl) (fun _ _ _ _ h => h)) (pa_cons (pv 0) (pa_cons (pe_ix ix_seq (pe_lst (pa_cons pe_int (pa_cons (pv 1) pa_nil))) (pe_callTy call_int1 rfl T.b_int (by decide +kernel) (pa_cons (pe_cmpR (op_eqU hr.units) (pe_callF F__law_take (hr.mono (by decide)) (passes_call (takes_of rfl rfl rfl rfl) (fun _ _ _ _ h => h)) (pa_cons (pv 0) (pa_cons pe_int pa_nil))) pe_int (nomark _)) pa_nil)) (fun _ _ => rfl)) pa_nil)))))
    (pss_one (ps_ret (pe_join pe_str (pe_lc (own := [("_law_k", 4)]) (g := (gName 4)) (tt := tYes) rfl sc__law_name.nd  (pi_range1 rfl T.b_range (pa_cons (pv 3) pa_nil)) (blkOk_by (N := N__law_name) (sc := defScope s__law_name) (by decide +kernel)) (fun _ _ _ _ _ => (pg_name (i := 4) sc__law_name.nd rfl (Or.inl rfl))) (fun _ _ _ _ _ => pts_nil) (fun _ _ _ _ _ => (pe_ix ix_seq (pv 2) (pe_callF F__law_take (hr.mono (by decide)) passL (pa_cons (pv 0) (pa_cons pe_int pa_nil))) (fun _ _ => rfl)))))))))
theorem body__law_names (T : Txt K mg) (F__law_name : Fo P w K mg base "_law_name" ["_law_well_here", "_law_most"] [] 2 (sp__law_name K)) (F__law_take : Fo P w K mg base "_law_take" ["_law_well_here", "_law_many"] [] 1 (sp__law_take K)) {f : Addr} {cdv : Value} {A : Around} {outer : List Env} {s : Shared} {H : Hp} {X : XK} (hr : Room 2 (A.deeper (PyProof.Rows.envOfC "_law_names" (defScope s__law_names) s.heap.objs.size f cdv))) :
    PSs (cxOf (L2.CX P w) P w K mg base N__law_names "_law_names" (defScope s__law_names) f cdv A outer s H X) (defBody s__law_names) (t__law_names K X) :=
  (pss_cons (ps_set (i := 2) sc__law_names.nd rfl (Or.inl rfl) (pe_lst (pa_cons (pe_callF F__law_name (hr.mono (by decide)) (passes_call (takes_of rfl rfl rfl rfl) (fun _ _ _ _ h => h)) (pa_cons (pv 0) (pa_cons pe_int pa_nil))) pa_nil)))
    (pss_cons (ps_while (passes_of rfl) (pt_cmpR op_lt (pe_callB call_len rfl T.b_len (by decide +kernel) (pa_cons (pv 2) pa_nil)) (pv 1) (nomark _))
    (pss_cons (ps_set (i := 3) sc__law_names.nd rfl (Or.inl rfl) (pe_callF F__law_name (hr.mono (by decide)) (passes_call (takes_of rfl rfl rfl rfl) (fun _ _ _ _ h => h)) (pa_cons (pv 0) (pa_cons pe_int pa_nil))))
    (pss_cons (ps_if (pt_cmpR (op_eqU hr.units) (pe_callF F__law_take (hr.mono (by decide)) (passes_call (takes_of rfl rfl rfl rfl) (fun _ _ _ _ h => h)) (pa_cons (pv 0) (pa_cons pe_int pa_nil))) pe_int (nomark _))
    (pss_one (ps_set (i := 3) sc__law_names.nd rfl (Or.inl rfl) (pe_slice sl_str (pe_op op_addU (pe_ix ix_seq (pv 2) (pe_un un_negU pe_int) (fun _ _ => rfl)) (pe_ix ix_seq pe_str (pe_callF F__law_take (hr.mono (by decide)) (passes_call (takes_of rfl rfl rfl rfl) (fun _ _ _ _ h => h)) (pa_cons (pv 0) (pa_cons pe_int pa_nil))) (fun _ _ => rfl))) po_none (po_some pe_int))))
    pss_nil)
    (pss_cons (ps_set (i := 4) sc__law_names.nd rfl (Or.inl rfl) pe_int)
    (pss_cons (ps_while (passes_of rfl) (pt_cmpR op_in_seq (pv 3) (pv 2) (by rfl))
    (pss_cons (ps_set (i := 3) sc__law_names.nd rfl (Or.inl rfl) (pe_op op_addU (pe_op op_addU (pe_slice sl_str (pv 3) po_none (po_some pe_int)) (pe_ix ix_seq pe_str (pe_op op_modN (pv 4) pe_int) (fun _ _ => rfl))) (pe_ix ix_seq pe_str (pe_op op_modN (pe_op op_div (pv 4) pe_int) pe_int) (fun _ _ => rfl))))
    (pss_one (ps_set (i := 4) sc__law_names.nd rfl (Or.inl rfl) (pe_op op_addU (pv 4) pe_int)))))
    (pss_one (ps_expr (pe_bm PySem.F.plainAttrs_list PySem.F.slot_list_append PySem.F.type_list_append mt_append (pv 2) (pa_cons (pv 3) pa_nil)))))))))
    (pss_one (ps_ret (pv 2)))))
theorem body__law_is_sum (T : Txt K mg) (F__law_is : Fo P w K mg base "_law_is" ["_law_found", "_law_due_here"] [] 2 (sp__law_is K)) {f : Addr} {cdv : Value} {A : Around} {outer : List Env} {s : Shared} {H : Hp} {X : XK} (hr : Room 2 (A.deeper (PyProof.Rows.envOfC "_law_is_sum" (defScope s__law_is_sum) s.heap.objs.size f cdv))) :
    PSs (cxOf (L2.CX P w) P w K mg base N__law_is_sum "_law_is_sum" (defScope s__law_is_sum) f cdv A outer s H X) (defBody s__law_is_sum) (t__law_is_sum K X) :=
  (pss_cons (ps_if (PW.pt (pw_or (pt_not (pt_val (pe_callB call_isiA rfl T.b_isinstance (by decide +kernel) (pa_cons (pv 0) (pa_cons (pe_bltn rfl T.b_tuple (by decide +kernel) rfl) pa_nil))))) (pw_or (pt_cmpR (op_neU hr.units) (pe_callB call_len rfl T.b_len (by decide +kernel) (pa_cons (pv 0) pa_nil)) pe_int (nomark _)) (pw_or1 (pt_not (pt_val (pe_callB call_isiA rfl T.b_isinstance (by decide +kernel) (pa_cons (pe_ix ix_seq (pv 0) pe_int (fun _ _ => rfl)) (pa_cons (pe_bltn rfl T.b_tuple (by decide +kernel) rfl) pa_nil)))))))))
    (pss_one (ps_ret pe_bl))
    pss_nil)
    (pss_cons (ps_if (PW.pt (pw_or (pt_not (pt_val (pe_callF F__law_is (hr.mono (by decide)) (passes_call (takes_of rfl rfl rfl rfl) (fun _ _ _ _ h => h)) (pa_cons (pe_ix ix_seq (pv 0) pe_int (fun _ _ => rfl)) (pa_cons (pe_ix ix_seq (pv 1) pe_int (fun _ _ => rfl)) pa_nil))))) (pw_or1 (pt_cmpR (op_neU hr.units) (pe_callB call_len rfl T.b_len (by decide +kernel) (pa_cons (pe_ix ix_seq (pv 0) pe_int (fun _ _ => rfl)) pa_nil)) (pe_callB call_len rfl T.b_len (by decide +kernel) (pa_cons (pe_ix ix_seq (pv 1) pe_int (fun _ _ => rfl)) pa_nil)) (nomark _)))))
    (pss_one (ps_ret pe_bl))
    pss_nil)
    (pss_cons (ps_for (passes_of rfl) rfl (RZ.pi_zipA rfl T.b_zip (pa_cons (pe_ix ix_seq (pv 0) pe_int (fun _ _ => rfl)) (pa_cons (pe_ix ix_seq (pv 1) pe_int (fun _ _ => rfl)) pa_nil))) (pg_tup rfl (pgs_cons (pg_name (i := 2) sc__law_is_sum.nd rfl (Or.inl rfl)) (pgs_cons (pg_name (i := 3) sc__law_is_sum.nd rfl (Or.inl rfl)) pgs_nil)))
    (pss_cons (ps_if (PW.pt (pw_or (pt_not (pt_val (pe_callB call_isiA rfl T.b_isinstance (by decide +kernel) (pa_cons (pv 2) (pa_cons (pe_bltn rfl T.b_tuple (by decide +kernel) rfl) pa_nil))))) (pw_or (pt_cmpR (op_neU hr.units) (pe_callB call_len rfl T.b_len (by decide +kernel) (pa_cons (pv 2) pa_nil)) pe_int (nomark _)) (pw_or1 (pt_not (pt_val (pe_callB call_isiA rfl T.b_isinstance (by decide +kernel) (pa_cons (pe_ix ix_seq (pv 2) pe_int (fun _ _ => rfl)) (pa_cons (pe_bltn rfl T.b_str (by decide +kernel) rfl) pa_nil)))))))))
    (pss_one (ps_ret pe_bl))
    pss_nil)
    (pss_one (ps_if (PW.pt (pw_or (pt_cmpR (op_neU hr.units) (pe_ix ix_seq (pv 2) pe_int (fun _ _ => rfl)) (pe_ix ix_seq (pv 3) pe_int (fun _ _ => rfl)) (nomark _)) (pw_or1 (pt_not (pt_val (pe_callF F__law_is (hr.mono (by decide)) (passes_call (takes_of rfl rfl rfl rfl) (fun _ _ _ _ h => h)) (pa_cons (pe_ix ix_seq (pv 2) pe_int (fun _ _ => rfl)) (pa_cons (pe_ix ix_seq (pv 3) pe_int (fun _ _ => rfl)) pa_nil))))))))
    (pss_one (ps_ret pe_bl))
    pss_nil))))
    (pss_one (ps_ret pe_bl)))))
theorem body__law_pairs (T : Txt K mg) (F__law_mul : Fo P w K mg base "_law_mul" ["_law_one", "_law_other"] [] 3 (sp__law_mul K)) (F__law_names : Fo P w K mg base "_law_names" ["_law_well_here", "_law_many"] [] 3 (sp__law_names K)) (F__law_number : Fo P w K mg base "_law_number" ["_law_well_here"] [] 3 (sp__law_number K)) (F__law_take : Fo P w K mg base "_law_take" ["_law_well_here", "_law_many"] [] 1 (sp__law_take K)) {f : Addr} {cdv : Value} {A : Around} {outer : List Env} {s : Shared} {H : Hp} {X : XK} (hr : Room 3 (A.deeper (PyProof.Rows.envOfC "_law_pairs" (defScope s__law_pairs) s.heap.objs.size f cdv))) :
    PSs (cxOf (L2.CX P w) P w K mg base N__law_pairs "_law_pairs" (defScope s__law_pairs) f cdv A outer s H X) (defBody s__law_pairs) (t__law_pairs K X) :=
  (pss_cons (ps_set (i := 1) sc__law_pairs.nd rfl (Or.inl rfl) (pe_callF F__law_names (hr.mono (by decide)) (passes_call (takes_of rfl rfl rfl rfl) (fun _ _ _ _ h => h)) (pa_cons (pv 0) (pa_cons (pe_op op_addU pe_int (pe_callF F__law_take (hr.mono (by decide)) (passes_call (takes_of rfl rfl rfl rfl) (fun _ _ _ _ h => h)) (pa_cons (pv 0) (pa_cons pe_int pa_nil)))) pa_nil))))
    (pss_cons (ps_set (i := 2) sc__law_pairs.nd rfl (Or.inl rfl) (pe_lst pa_nil))
    (pss_cons (ps_for (passes_of rfl) rfl (pi_range1 rfl T.b_range (pa_cons (pe_callF F__law_take (hr.mono (by decide)) (passes_call (takes_of rfl rfl rfl rfl) (fun _ _ _ _ h => h)) (pa_cons (pv 0) (pa_cons pe_int pa_nil))) pa_nil)) (pg_name (i := 3) sc__law_pairs.nd rfl (Or.inl rfl))
    (pss_cons (ps_set (i := 4) sc__law_pairs.nd rfl (Or.inl rfl) (pe_ix ix_seq (pv 1) (pe_callF F__law_take (hr.mono (by decide)) (passes_call (takes_of rfl rfl rfl rfl) (fun _ _ _ _ h => h)) (pa_cons (pv 0) (pa_cons (pe_callB call_len rfl T.b_len (by decide +kernel) (pa_cons (pv 1) pa_nil)) pa_nil))) (fun _ _ => rfl)))
    (pss_cons (ps_set (i := 5) sc__law_pairs.nd rfl (Or.inl rfl) (pe_callF F__law_number (hr.mono (by decide)) (passes_call (takes_of rfl rfl rfl rfl) (fun _ _ _ _ h => h)) (pa_cons (pv 0) pa_nil)))
    (pss_cons (ps_if (PW.pt (pw_and (pt_cmpR (op_eqU hr.units) (pe_callF F__law_take (hr.mono (by decide)) (passes_call (takes_of rfl rfl rfl rfl) (fun _ _ _ _ h => h)) (pa_cons (pv 0) (pa_cons pe_int pa_nil))) pe_int (nomark _)) (pw_and1 (pt_cmpR (op_neU hr.units) (pv 2) (pe_lst pa_nil) (nomark _)))))
    (pss_cons (ps_asg (pe_ix ix_seq (pv 2) (pe_callF F__law_take (hr.mono (by decide)) (passes_call (takes_of rfl rfl rfl rfl) (fun _ _ _ _ h => h)) (pa_cons (pv 0) (pa_cons (pe_callB call_len rfl T.b_len (by decide +kernel) (pa_cons (pv 2) pa_nil)) pa_nil))) (fun _ _ => rfl)) (pg_tup rfl (pgs_cons (pg_name (i := 4) sc__law_pairs.nd rfl (Or.inl rfl)) (pgs_cons (pg_name (i := 5) sc__law_pairs.nd rfl (Or.inl rfl)) pgs_nil))))
    (pss_one (ps_set (i := 5) sc__law_pairs.nd rfl (Or.inl rfl) (pe_callF F__law_mul (hr.mono (by decide)) (passes_call (takes_of rfl rfl rfl rfl) (fun _ _ _ _ h => h)) (pa_cons (pv 5) (pa_cons (pe_ix ix_seq (pe_lst (pa_cons (pe_tup (pa_cons (pe_un un_negU pe_int) (pa_cons pe_int pa_nil))) (pa_cons (pe_tup (pa_cons pe_int (pa_cons pe_int pa_nil))) pa_nil))) (pe_callTy call_int1 rfl T.b_int (by decide +kernel) (pa_cons (pe_cmpR (op_eqU hr.units) (pe_callF F__law_take (hr.mono (by decide)) (passes_call (takes_of rfl rfl rfl rfl) (fun _ _ _ _ h => h)) (pa_cons (pv 0) (pa_cons pe_int pa_nil))) pe_int (nomark _)) pa_nil)) (fun _ _ => rfl)) pa_nil))))))
    pss_nil)
    (pss_one (ps_expr (pe_bm PySem.F.plainAttrs_list PySem.F.slot_list_append PySem.F.type_list_append mt_append (pv 2) (pa_cons (pe_tup (pa_cons (pv 4) (pa_cons (pv 5) pa_nil))) pa_nil))))))))
    (pss_one (ps_ret (pv 2))))))
theorem body__law_due (T : Txt K mg) (F__law_add : Fo P w K mg base "_law_add" ["_law_one", "_law_other"] [] 3 (sp__law_add K)) {f : Addr} {cdv : Value} {A : Around} {outer : List Env} {s : Shared} {H : Hp} {X : XK} (hr : Room 3 (A.deeper (PyProof.Rows.envOfC "_law_due" (defScope s__law_due) s.heap.objs.size f cdv))) :
    PSs (cxOf (L2.CX P w) P w K mg base N__law_due "_law_due" (defScope s__law_due) f cdv A outer s H X) (defBody s__law_due) (t__law_due K X) :=
  (pss_cons (ps_set (i := 2) sc__law_due.nd rfl (Or.inr rfl) pe_dnewK)
    (pss_cons (ps_for (passes_of rfl) rfl (pi_seq (pv 1)) (pg_tup rfl (pgs_cons (pg_name (i := 3) sc__law_due.nd rfl (Or.inl rfl)) (pgs_cons (pg_name (i := 4) sc__law_due.nd rfl (Or.inl rfl)) pgs_nil)))
    (pss_one (ps_dput (hu_of hr) (pv 2) (pv 3) (pe_callF F__law_add (hr.mono (by decide)) (passes_call (takes_of rfl rfl rfl rfl) (fun _ _ _ _ h => h)) (pa_cons (pe_dget2 (hu_of hr) (pv 2) (pv 3) (pe_tup (pa_cons pe_int (pa_cons pe_int pa_nil))) ⟨rfl, rfl, rfl, rfl⟩) (pa_cons (pv 4) pa_nil))) rfl)))
    (pss_one (ps_ret (pe_tup (pa_cons (pv 0) (pa_cons (pe_callTy call_tuple_of rfl T.b_tuple (by decide +kernel) (pa_cons (pe_lc (own := [("_law_name_here", 3)]) (g := (gName 3)) (tt := (tTest (tOp (qNe K) (tDGet (tVar 2) (tVar 3)) (tTup (tCons (tC (.int 0)) (tCons (tC (.int 1)) tNil)))))) rfl sc__law_due.nd  (pi_seq (pe_callB (call_sort rfl) rfl T.b_sorted (by decide +kernel) (pa_cons (pe_callTy (call_lstU rfl) rfl T.b_list (by decide +kernel) (pa_cons (pv 2) pa_nil)) pa_nil))) (blkOk_by (N := N__law_due) (sc := defScope s__law_due) (by decide +kernel)) (fun _ _ _ _ _ => (pg_name (i := 3) sc__law_due.nd rfl (Or.inl rfl))) (fun _ _ _ _ _ => pts_one (pt_cmpR (op_neU hr.units) (pe_dget (hu_of hr) (pv 2) (pv 3) (fun _ _ => rfl)) (pe_tup (pa_cons pe_int (pa_cons pe_int pa_nil))) (nomark _))) (fun _ _ _ _ _ => (pe_tup (pa_cons (pv 3) (pa_cons (pe_dget (hu_of hr) (pv 2) (pv 3) (fun _ _ => rfl)) pa_nil))))) pa_nil)) pa_nil)))))))
theorem body_law (T : Txt K mg) (F__law_due : Fo P w K mg base "_law_due" ["_law_number_here", "_law_pairs_here"] [] 4 (sp__law_due K)) (F__law_is_sum : Fo P w K mg base "_law_is_sum" ["_law_found", "_law_due_here"] [] 3 (sp__law_is_sum K)) (F__law_number : Fo P w K mg base "_law_number" ["_law_well_here"] [] 3 (sp__law_number K)) (F__law_pairs : Fo P w K mg base "_law_pairs" ["_law_well_here"] [] 4 (sp__law_pairs K)) (F__law_well : Fo P w K mg base "_law_well" ["_law_script", "_law_k"] [] 1 (sp__law_well K)) (F_sum_of : Fo P w K mg base "sum_of" ["number", "pairs"] [] 4 (sp_sum_of K)) {f : Addr} {cdv : Value} {A : Around} {outer : List Env} {s : Shared} {H : Hp} {X : XK} (hr : Room 4 (A.deeper (PyProof.Rows.envOfC "law" (defScope s_law) s.heap.objs.size f cdv))) :
    PSs (cxOf (L2.CX P w) P w K mg base N_law "law" (defScope s_law) f cdv A outer s H X) (defBody s_law) (t_law K X) :=
  (pss_cons (ps_for (passes_of rfl) rfl (pi_range1 rfl T.b_range (pa_cons (pe_callB (call_max2 rfl) rfl T.b_max (by decide +kernel) (pa_cons pe_int (pa_cons (pe_callB (call_min2 rfl) rfl T.b_min (by decide +kernel) (pa_cons (pe_callB call_len rfl T.b_len (by decide +kernel) (pa_cons (pv 0) pa_nil)) (pa_cons pe_int pa_nil))) pa_nil))) pa_nil)) (pg_name (i := 1) sc_law.nd rfl (Or.inl rfl))
    (pss_cons (ps_set (i := 2) sc_law.nd rfl (Or.inl rfl) (pe_callF F__law_well (hr.mono (by decide)) (passes_call (takes_of rfl rfl rfl rfl) (fun _ _ _ _ h => h)) (pa_cons (pv 0) (pa_cons (pv 1) pa_nil))))
    (pss_cons (ps_set (i := 3) sc_law.nd rfl (Or.inl rfl) (pe_callF F__law_number (hr.mono (by decide)) (passes_call (takes_of rfl rfl rfl rfl) (fun _ _ _ _ h => h)) (pa_cons (pv 2) pa_nil)))
    (pss_cons (ps_set (i := 4) sc_law.nd rfl (Or.inl rfl) (pe_callF F__law_pairs (hr.mono (by decide)) (passes_call (takes_of rfl rfl rfl rfl) (fun _ _ _ _ h => h)) (pa_cons (pv 2) pa_nil)))
    (pss_cons (ps_set (i := 5) sc_law.nd rfl (Or.inl rfl) (pe_callTy (call_lstU rfl) rfl T.b_list (by decide +kernel) (pa_cons (pv 4) pa_nil)))
    (pss_cons (ps_set (i := 6) sc_law.nd rfl (Or.inl rfl) (pe_callF F__law_due (hr.mono (by decide)) (passes_call (takes_of rfl rfl rfl rfl) (fun _ _ _ _ h => h)) (pa_cons (pv 3) (pa_cons (pv 4) pa_nil))))
    (pss_cons (ps_set (i := 7) sc_law.nd rfl (Or.inl rfl) (pe_callF F_sum_of (hr.mono (by decide)) (passes_call (takes_of rfl rfl rfl rfl) (fun _ _ _ _ h => h)) (pa_cons (pv 3) (pa_cons (pv 5) pa_nil))))
    (pss_cons (ps_if (PW.pt (pw_or (pt_not (pt_val (pe_callF F__law_is_sum (hr.mono (by decide)) (passes_call (takes_of rfl rfl rfl rfl) (fun _ _ _ _ h => h)) (pa_cons (pv 7) (pa_cons (pv 6) pa_nil))))) (pw_or1 (pt_cmpR (op_neU hr.units) (pv 5) (pv 4) (nomark _)))))
    (pss_one (ps_ret pe_bl))
    pss_nil)
    (pss_cons (ps_if (PW.pt (pw_or (pt_not (pt_val (pe_callF F__law_is_sum (hr.mono (by decide)) (passes_call (takes_of rfl rfl rfl rfl) (fun _ _ _ _ h => h)) (pa_cons (pe_callF F_sum_of (hr.mono (by decide)) (passes_call (takes_of rfl rfl rfl rfl) (fun _ _ _ _ h => h)) (pa_cons (pv 3) (pa_cons (pe_callTy call_tuple_of rfl T.b_tuple (by decide +kernel) (pa_cons (pv 4) pa_nil)) pa_nil))) (pa_cons (pv 6) pa_nil))))) (pw_or1 (pt_not (pt_val (pe_callF F__law_is_sum (hr.mono (by decide)) (passes_call (takes_of rfl rfl rfl rfl) (fun _ _ _ _ h => h)) (pa_cons (pe_callF F_sum_of (hr.mono (by decide)) (passes_call (takes_of rfl rfl rfl rfl) (fun _ _ _ _ h => h)) (pa_cons (pv 3) (pa_cons (pe_revL (pv 5)) pa_nil))) (pa_cons (pv 6) pa_nil))))))))
    (pss_one (ps_ret pe_bl))
    pss_nil)
    (pss_one (ps_if (PW.pt (pw_or (pt_not (pt_val (pe_callF F__law_is_sum (hr.mono (by decide)) (passes_call (takes_of rfl rfl rfl rfl) (fun _ _ _ _ h => h)) (pa_cons (pe_callF F_sum_of (hr.mono (by decide)) (passes_call (takes_of rfl rfl rfl rfl) (fun _ _ _ _ h => h)) (pa_cons (pe_ix ix_seq (pv 7) pe_int (fun _ _ => rfl)) (pa_cons (pe_ix ix_seq (pv 7) pe_int (fun _ _ => rfl)) pa_nil))) (pa_cons (pv 6) pa_nil))))) (pw_or1 (pt_not (pt_val (pe_callF F__law_is_sum (hr.mono (by decide)) (passes_call (takes_of rfl rfl rfl rfl) (fun _ _ _ _ h => h)) (pa_cons (pe_callF F_sum_of (hr.mono (by decide)) (passes_call (takes_of rfl rfl rfl rfl) (fun _ _ _ _ h => h)) (pa_cons (pv 3) (pa_cons (pe_lst pa_nil) pa_nil))) (pa_cons (pe_tup (pa_cons (pv 3) (pa_cons (pe_tup pa_nil) pa_nil))) pa_nil))))))))
    (pss_one (ps_ret pe_bl))
    pss_nil)))))))))))
    (pss_one (ps_ret pe_bl)))
end
end K04
set_option Elab.async false
set_option linter.all false
set_option maxRecDepth 100000
set_option maxHeartbeats 4000000
open PySem PySem.Spec L2 TL
/-! ## small steps of the walk, by their names -/
local macro_rules | `(tactic| walk_at "side") => `(tactic| first | assumption | rfl | decide | omega)
local macro_rules | `(tactic| walk_at "evL") => `(tactic| fail)
local macro_rules | `(tactic| walk_at "ev") => `(tactic| first
  | exact ev_int | exact ev_bl | exact ev_str | exact ev_non | exact ev_var rfl
  | walk_at "evL"
  | (refine ev_add ?_ ?_; walk_at "ev"; walk_at "ev")
  | (refine ev_sub ?_ ?_; walk_at "ev"; walk_at "ev")
  | (refine ev_mul ?_ ?_ ?_; walk_at "ev"; walk_at "ev"; walk_at "side")
  | (refine ev_mod ?_ ?_ ?_; walk_at "ev"; walk_at "ev"; walk_at "side")
  | (refine ev_div ?_ ?_ ?_; walk_at "ev"; walk_at "ev"; walk_at "side")
  | (refine ev_pow ?_ ?_ ?_; walk_at "ev"; walk_at "ev"; walk_at "side")
  | (refine ev_neg ?_; walk_at "ev")
  | (refine ev_lt ?_ ?_; walk_at "ev"; walk_at "ev")
  | (refine ev_le ?_ ?_; walk_at "ev"; walk_at "ev")
  | (refine ev_gt ?_ ?_; walk_at "ev"; walk_at "ev")
  | (refine ev_ge ?_ ?_; walk_at "ev"; walk_at "ev")
  | (refine eq_I ?_ ?_; walk_at "ev"; walk_at "ev")
  | (refine ne_I ?_ ?_; walk_at "ev"; walk_at "ev")
  | (refine eq_S ?_ ?_; walk_at "ev"; walk_at "ev")
  | (refine ne_S ?_ ?_; walk_at "ev"; walk_at "ev")
  | (refine eq_B ?_ ?_; walk_at "ev"; walk_at "ev")
  | (refine ix_T ?_ ?_ ?_; walk_at "ev"; walk_at "ev"; walk_at "side")
  | (refine ix_L ?_ ?_ ?_; walk_at "ev"; walk_at "ev"; walk_at "side")
  | (refine ev_tup ?_ ?_; walk_at "evD"; walk_at "side")
  | (refine ev_lst ?_ ?_; walk_at "evD"; walk_at "side")
  | (refine ev_abs ?_; walk_at "ev")
  | (refine ev_max2 ?_ ?_; walk_at "ev"; walk_at "ev")
  | (refine ev_min2 ?_ ?_; walk_at "ev"; walk_at "ev")
  | (refine ev_intB ?_; walk_at "ev")
  | (refine ev_lenT ?_; walk_at "ev")
  | (refine ev_lenL ?_; walk_at "ev")
  | (refine ev_notV ?_; walk_at "ev"))
local macro_rules | `(tactic| walk_at "evD") => `(tactic| first
  | exact evD_nil
  | (refine evD_cons ?_ ?_; walk_at "ev"; walk_at "evD"))
local macro_rules | `(tactic| walk_at "evA") => `(tactic| first
  | exact evA_nil
  | (refine evA_cons ?_ ?_; walk_at "ev"; walk_at "evA"))
local macro_rules | `(tactic| walk_at "evT") => `(tactic| first
  | (refine evT_test ?_; walk_at "ev")
  | (refine evT_B ?_; walk_at "ev")
  | (refine evT_not ?_; walk_at "evT"))
local macro_rules | `(tactic| walk_at "sle") => `(tactic| repeat' first | exact SLe.nil | refine SLe.keep ?_ | refine SLe.drop ?_)
namespace K04
section
variable {K : PySem.W.Frag} {mg : Str → Option Value} {G : Sto} {D0 D1 D2 : Own} {te ta tb : TE} {F0 : Hp} {E : Ends} {X : XK} {n : String}
/-! ### is_whole -/
theorem walk_is_whole {n : String} (h : n ∈ kinds) (k : GoV E.rt F0 (DB K (decide (n = "int"))) D0) : Go (t_is_whole K X E) F0 [some (Of K n)] D0 :=
  go_ret (ev_d (ev_andV (ev_isiO (ev_var rfl) (kit_int h)) fun _ => ev_notV (ev_isiO (ev_var rfl) (kit_bool h))) (by rw [whole_val])) k
theorem pure_is_whole (T : Txt K mg) (vs : List V) (H : Hp) (Q : VK) (X : XK) (h : sp_is_whole K vs H Q X) : t_is_whole K X { nx := fun _ H' => Q .non H', rt := Q } (L2.start N_is_whole vs) H :=
  pure_of (fun n F D E hr _ hp po => by subst hr; exact walk_is_whole hp po) h
theorem len_is_whole (K : PySem.W.Frag) : ∀ vs H Q E, sp_is_whole K vs H Q E → vs.length = 1 := fsp_len fun _ => rfl
theorem ev_whole (h : Ev te G D0 (Of K n) D1) (hn : n ∈ kinds) : Ev (tCall (sp_is_whole K) [] X (tCons te tNil)) G D0 (DB K (decide (n = "int"))) D1 := ev_call0 (args := fun n => [Of K n]) n (evA_cons h evA_nil) hn rfl

/-! ### common -/
theorem walk_common {a b : Int} (k : GoV E.rt F0 (DI K (Int.gcd a b)) D0) : Go (t_common K X E) F0 [some (DI K a), some (DI K b)] D0 := by
  refine go_seq (go_while (S := Int × Int) (I := fun s => Int.gcd s.1 s.2 = Int.gcd a b) (Gs := fun s => [some (DI K s.1), some (DI K s.2)]) (Ds := fun _ => D0) (μ := fun s => s.2.natAbs) (bv := fun s => !decide (s.2 = 0)) (a, b) rfl (SLe.refl _) (List.Sublist.refl _) ?_ ?_ ?_)
  · intro s hs
    exact evT_test (ne_I (ev_var rfl) ev_int)
  · intro s hs hb Nx hN
    have h0 : s.2 ≠ 0 := by simpa using hb
    refine go_par (evA_cons (ev_var rfl) (evA_cons (ev_mod (ev_var rfl) (ev_var rfl) h0) evA_nil)) ?_
    exact hN (s.2, s.1.fmod s.2) ((Nu.gcd_fmod s.1 s.2).trans hs) (Nu.fmod_natAbs_lt h0)
  · intro s hs hb
    have h0 : s.2 = 0 := by simpa using hb
    refine go_ret (ev_d (ev_abs (ev_var rfl)) ?_) k
    have e : Int.gcd s.1 0 = Int.gcd a b := by rw [← h0]; exact hs
    rw [Int.gcd_zero_right] at e
    rw [← e]
    have : (if s.1 < 0 then -s.1 else s.1) = (s.1.natAbs : Int) := by split <;> omega
    rw [this]
theorem pure_common (T : Txt K mg) (vs : List V) (H : Hp) (Q : VK) (X : XK) (h : sp_common K vs H Q X) : t_common K X { nx := fun _ H' => Q .non H', rt := Q } (L2.start N_common vs) H :=
  pure_of (fun n F D E hr _ hp po => by subst hr; exact walk_common po) h
theorem len_common (K : PySem.W.Frag) : ∀ vs H Q E, sp_common K vs H Q E → vs.length = 2 := fsp_len fun _ => rfl
theorem ev_common {a b : Int} (ha : Ev ta G D0 (DI K a) D1) (hb : Ev tb G D1 (DI K b) D2) : Ev (tCall (sp_common K) [] X (tCons ta (tCons tb tNil))) G D0 (DI K (Int.gcd a b)) D2 := ev_call0 (args := fun x : Int × Int => [DI K x.1, DI K x.2]) (a, b) (evA_cons ha (evA_cons hb evA_nil)) trivial rfl

/-! ### number_of -/
theorem walk_number_ok (x : NA) (hp : x.pre) (k : Post (NA.out K x) E.rt X F0 D0) : Go (t_number_of K X E) F0 ((x.args K).map some ++ [none]) D0 := by
  cases x with
  | odd1 n m =>
    obtain ⟨h1, h2, h3⟩ := hp
    refine go_seq (go_if (evT_or (a := true) (b := true) (evT_b (evT_not (evT_B (ev_whole (ev_var rfl) h1))) (by simp [h2])) (fun z => nomatch z)) (fun _ => ?_) (fun z => nomatch z))
    exact go_raise k
  | odd2 t n =>
    obtain ⟨h1, h2⟩ := hp
    refine go_seq (go_if (evT_or (a := false) (b := true) (evT_b (evT_not (evT_B (ev_whole (ev_of (ev_var rfl)) mem_int))) rfl) (fun _ => evT_or (a := true) (b := true) (evT_b (evT_not (evT_B (ev_whole (ev_var rfl) h1))) (by simp [h2])) (fun z => nomatch z))) (fun _ => ?_) (fun z => nomatch z))
    exact go_raise k
  | good t b =>
    have hb : b.natAbs < 2 ^ 8000 := hp
    refine go_seq (go_if (evT_or (a := false) (b := decide (b = 0)) (evT_b (evT_not (evT_B (ev_whole (ev_of (ev_var rfl)) mem_int))) rfl) (fun _ => evT_or (a := false) (b := decide (b = 0)) (evT_b (evT_not (evT_B (ev_whole (ev_of (ev_var rfl)) mem_int))) rfl) (fun _ => evT_test (eq_I (ev_var rfl) ev_int)))) (fun hc => ?_) (fun hc => ?_))
    · have h0 : b = 0 := by simpa using hc
      subst h0
      exact go_raise k
    · have h0 : b ≠ 0 := by simpa using hc
      have k : GoV E.rt F0 (DQ K (Nu.q t b)) D0 := k.ok (if_neg h0)
      refine go_next (go_seq (go_set (ev_common (ev_var rfl) (ev_var rfl)) ?_))
      have rest : Go (fun σ H => (tRet (tTup (tCons (tOp rDivI (tVar 0) (tVar 2)) (tCons (tOp rDivI (tVar 1) (tVar 2)) tNil)))) E σ H) F0 [some (DI K t), some (DI K b), some (DI K (Nu.by_ t b))] D0 := by
        refine go_ret (ev_d (ev_tup (evD_cons (ev_div (ev_var rfl) (ev_var rfl) (div_ok h0 hb)) (evD_cons (ev_div (ev_var rfl) (ev_var rfl) (div_ok h0 hb)) evD_nil)) (by simp)) ?_) k
        rw [Nu.top_is h0, Nu.bot_is h0]
      refine go_seq (go_if (evT_test (ev_lt (ev_var rfl) ev_int)) (fun c => ?_) (fun c => ?_))
      · have hc : b < 0 := by simpa using c
        refine go_set (ev_sub ev_int (ev_var rfl)) ?_
        have e : Nu.by_ t b = 0 - (Int.gcd t b : Int) := by unfold Nu.by_; rw [if_pos hc]
        rw [e] at rest
        exact rest
      · have hc : ¬ b < 0 := by simpa using c
        have e : Nu.by_ t b = (Int.gcd t b : Int) := by unfold Nu.by_; rw [if_neg hc]
        rw [e] at rest
        exact rest
theorem pure_number_of (T : Txt K mg) (vs : List V) (H : Hp) (Q : VK) (X : XK) (h : sp_number_of K vs H Q X) : t_number_of K X { nx := fun _ H' => Q .non H', rt := Q } (L2.start N_number_of vs) H :=
  pure_of (fun x F D E hr _ hp po => by
    subst hr
    have := walk_number_ok x hp po
    cases x <;> exact this) h
theorem len_number_of (K : PySem.W.Frag) : ∀ vs H Q E, sp_number_of K vs H Q E → vs.length = 2 := fsp_len fun x => by cases x <;> rfl
theorem ev_num2 {t b : Int} (ha : Ev ta G D0 (DI K t) D1) (hb : Ev tb G D1 (DI K b) D2) (h0 : b ≠ 0) (h : b.natAbs < 2 ^ 8000) : Ev (tCall (sp_number_of K) [] X (tCons ta (tCons tb tNil))) G D0 (DQ K (Nu.q t b)) D2 :=
  ev_call0 (args := NA.args K) (.good t b) (evA_cons ha (evA_cons hb evA_nil)) h (out_good h0)
theorem ev_num1 {t : Int} (ha : Ev ta G D0 (DI K t) D1) : Ev (tCall (sp_number_of K) [.int 1] X (tCons ta tNil)) G D0 (DQ K (Nu.q t 1)) D1 :=
  ev_call (args := NA.args K) (Rs := [DI K t]) (Rd := [DI K 1]) (.good t 1) (evA_cons ha evA_nil) (fun F => .cons (.int 1) .nil) rfl (small (by decide)) (out_good (by decide))

/-! ### plus -/
theorem walk_plus {a b : Rat} (ha : Nu.Bd 3000 a) (hb : Nu.Bd 3000 b) (k : GoV E.rt F0 (DQ K (a + b)) D0) : Go (t_plus K X E) F0 [some (DQ K a), some (DQ K b)] D0 := by
  have h := ev_num2 (K := K) (X := X) (G := [some (DQ K a), some (DQ K b)]) (D0 := D0) (ev_add (ev_mul (ev_q0 (ev_var (i := 0) rfl)) (ev_q1 (ev_var (i := 1) rfl)) (cq ha.1 (denOf hb) (by decide) (by decide))) (ev_mul (ev_q0 (ev_var (i := 1) rfl)) (ev_q1 (ev_var (i := 0) rfl)) (cq hb.1 (denOf ha) (by decide) (by decide))))
    (ev_mul (ev_q1 (ev_var (i := 0) rfl)) (ev_q1 (ev_var (i := 1) rfl)) (cq (denOf ha) (denOf hb) (by decide) (by decide))) (dd_ne a b) (dd_small ha hb)
  rw [Nu.plus_is] at h
  exact go_ret h k
theorem pure_plus (T : Txt K mg) (vs : List V) (H : Hp) (Q : VK) (X : XK) (h : sp_plus K vs H Q X) : t_plus K X { nx := fun _ H' => Q .non H', rt := Q } (L2.start N_plus vs) H :=
  pure_of (fun x F D E hr _ hp po => by subst hr; exact walk_plus hp.1 hp.2 po) h
theorem len_plus (K : PySem.W.Frag) : ∀ vs H Q E, sp_plus K vs H Q E → vs.length = 2 := fsp_len fun _ => rfl
theorem ev_plus {a b : Rat} (ha : Ev ta G D0 (DQ K a) D1) (hb : Ev tb G D1 (DQ K b) D2) (pa : Nu.Bd 3000 a) (pb : Nu.Bd 3000 b) : Ev (tCall (sp_plus K) [] X (tCons ta (tCons tb tNil))) G D0 (DQ K (a + b)) D2 :=
  ev_call0 (args := fun x : Rat × Rat => [DQ K x.1, DQ K x.2]) (a, b) (evA_cons ha (evA_cons hb evA_nil)) ⟨pa, pb⟩ rfl

/-! ### sum_of -/
theorem evIt_seqX {tl : TE} {x : SuT} (h : Ev tl G D0 (D K x.d) D1) : EvIt K (iSeq K tl) G D0 (x.ps.map pairD) D1 := by
  obtain ⟨t, n, ps, b⟩ := x
  cases t with
  | true => exact evIt_seqT h
  | false => exact evIt_seqL h
theorem evG_pair {i j : Nat} {e : Str × Rat} : EvG (gTup K 2 (gCons (gName i) (gCons (gName j) gNil))) G (D K (pairD e)) ((G.set i (some (DS K e.1))).set j (some (DQ K e.2))) := evG_tup (evGs_cons evG_name (evGs_cons evG_name evGs_nil)) rfl
theorem take_succ' {α : Type} {xs : List α} {j : Nat} {x : α} (h : xs[j]? = some x) : xs.take (j + 1) = xs.take j ++ [x] := by
  rw [List.take_succ, h]
  rfl
theorem map_get {α β : Type} {f : α → β} {xs : List α} {j : Nat} {d : β} (h : (xs.map f)[j]? = some d) : ∃ x, xs[j]? = some x ∧ d = f x := by
  rw [List.getElem?_map] at h
  cases e : xs[j]? with
  | none => rw [e] at h; cases h
  | some x => rw [e] at h; cases h; exact ⟨x, rfl, rfl⟩
def resC (ps : List (Str × Rat)) : PyData → Bool
  | .str k => !decide (tot ps k = 0)
  | _ => false
def resF (ps : List (Str × Rat)) : PyData → PyData
  | .str k => .tuple [.str k, qT (tot ps k)]
  | _ => .none
theorem res_is (ps : List (Str × Rat)) : ((((inOrder (ps.map (·.1))).map PyData.str).filter (resC ps)).map (resF ps)) = (res ps).map pairD := by
  unfold res
  rw [List.filter_map, List.map_map, List.map_map]
  rfl
theorem evIt_sorted {m : List (Str × PyData)} {ps : List (Str × Rat)} {k : Nat} {a : Addr} {i : Nat} (hm : TabOf m ps) (hl : m.length < 64) (hi : G[i]? = some (some (Is (.ref a)))) (hk : D0[k]? = some (a, OD K m)) : EvIt K (iSeq K (tCB (qSort K) (tCons (tVar i) tNil))) G D0 ((inOrder (ps.map (·.1))).map .str) D0 :=
  evIt_seqL (ev_imp (ev_sortD (ev_var hi) hk hl) fun v F r => by
    obtain ⟨ds, h1, h2⟩ := r
    rw [← sort_is h1 hm.nd hm.mem]
    exact dls_d _ _ h2)
/-- the pairs of a table, in order, without nought -/
theorem ev_tabs {m : List (Str × PyData)} {ps : List (Str × Rat)} {wi : TI} {p : Addr} {i j : Nat} {tn : TE} (hm : TabOf m ps) (hl : (inOrder (ps.map (·.1))).length ≤ 100000) (hi : G[i]? = some (some (Is (.ref p)))) (hij : j ≠ i) (hj : j < G.length) (it : EvIt K wi G ((p, OD K m) :: D0) ((inOrder (ps.map (·.1))).map .str) ((p, OD K m) :: D0)) (hc : ∀ G D, Ev tn G D (DQ K 0) D) :
    EvN (tLc wi (gName j) (tTest (tOp (qNe K) (tDGet (tVar i) (tVar j)) tn)) (tTup (tCons (tVar j) (tCons (tDGet (tVar i) (tVar j)) tNil))) [j]) G ((p, OD K m) :: D0) (OL K ((res ps).map pairD)) ((p, OD K m) :: D0) := by
  rw [← res_is]
  refine evN_lc (S := Unit) it (fun k _ acc => acc = (((inOrder (ps.map (·.1))).map PyData.str).take k |>.filter (resC ps)).map (resF ps)) (fun _ => (p, OD K m) :: D0) () rfl (List.Sublist.refl _) (by rw [List.length_map]; exact hl) ?_ ?_
  · rintro k _ acc d q hd rfl
    have tk := take_succ' hd
    obtain ⟨y, hy, rfl⟩ := map_get hd
    have my : y ∈ ps.map (·.1) := mem_inOrder.mp (List.mem_of_getElem? hy)
    refine ⟨_, evW_name (by simp), resC ps (.str y), (), ?_, fun e => ⟨resF ps (.str y), (), ?_, ?_⟩, fun e => ?_⟩
    · have vi : ((wipeG G [j]).set j (some (D K (.str y))))[i]? = some (some (Is (.ref p))) := by
        show ((G.set j none).set j (some (D K (.str y))))[i]? = _
        rw [List.getElem?_set_ne hij, List.getElem?_set_ne hij, hi]
      have vj : ((wipeG G [j]).set j (some (D K (.str y))))[j]? = some (some (D K (.str y))) := by
        show ((G.set j none).set j (some (D K (.str y))))[j]? = _
        rw [List.getElem?_set_self (by simpa using hj)]
      exact evT_b (evT_test (ne_Q (ev_dget (k := 1) (ev_var vi) (ev_var vj) rfl (hm.get y my)) (hc _ _))) rfl
    · have vi : ((wipeG G [j]).set j (some (D K (.str y))))[i]? = some (some (Is (.ref p))) := by
        show ((G.set j none).set j (some (D K (.str y))))[i]? = _
        rw [List.getElem?_set_ne hij, List.getElem?_set_ne hij, hi]
      have vj : ((wipeG G [j]).set j (some (D K (.str y))))[j]? = some (some (D K (.str y))) := by
        show ((G.set j none).set j (some (D K (.str y))))[j]? = _
        rw [List.getElem?_set_self (by simpa using hj)]
      exact ev_tup (ds := [.str y, qT (tot ps y)]) (evD_cons (ev_var vj) (evD_cons (ev_dget (k := 1) (ev_var vi) (ev_var vj) rfl (hm.get y my)) evD_nil)) (by simp)
    · rw [tk, List.filter_append, List.map_append]
      simp [e]
    · rw [tk, List.filter_append, List.map_append]
      simp [e]
  · rintro _ acc rfl
    rw [List.take_length]
    exact ⟨rfl, rfl⟩
theorem inOrder_len (ks : List Str) : (inOrder ks).length ≤ ks.length := by
  have h1 : ∀ (k : Str) (ys : List Str), (insU k ys).length ≤ ys.length + 1 := by
    intro k ys
    induction ys with
    | nil => exact Nat.le_refl _
    | cons y ys ih =>
      unfold insU
      split
      · simp
      · split
        · simp
        · simp only [List.length_cons]
          omega
  induction ks with
  | nil => exact Nat.le_refl _
  | cons k ks ih =>
    have := h1 k (inOrder ks)
    show (insU k (inOrder ks)).length ≤ ks.length + 1
    omega
theorem walk_sum_of (T : Txt K mg) {x : SuT} (hx : x.ok) (k : GoV E.rt F0 (D K (sumD x.n (res x.ps))) D0) : Go (t_sum_of K X E) F0 [some (DQ K x.n), some (D K x.d), none, none, none] D0 := by
  refine go_seq (go_setN (evN_dnew (K := K)) fun p => ?_)
  dsimp only
  refine go_seq (go_for (K := K) (S := List (Str × PyData)) (evIt_seqX (ev_var rfl)) (fun j m => TabOf m (x.ps.take j)) (fun _ => [some (DQ K x.n), some (D K x.d), some (Is (.ref p)), none, none]) (fun m => (p, OD K m) :: D0) [] TabOf.nil (by walk_at "sle") (List.Sublist.refl _) ?_ ?_)
  · intro F1 s1 j m d hd hm
    obtain ⟨e, he, rfl⟩ := map_get hd
    refine ⟨_, evG_pair, fun Nx hN => ?_⟩
    dsimp only
    have hb : Nu.Bd 3000 (tot (x.ps.take j) e.1) := by
      refine (tot_bd (b := x.b) fun f hf => hx.bd f (List.mem_of_mem_take hf)).mono (Nat.le_trans ?_ (hx.size e.1))
      have := cnt_take e.1 j x.ps
      have := Nat.mul_le_mul_left (x.b + 1) this
      omega
    have he2 : Nu.Bd 3000 e.2 := (hx.bd e (List.mem_of_getElem? he)).mono hx.b
    refine go_dput (k := 0) (m := m) (d := qT (tot (x.ps.take j) e.1 + e.2)) (ev_plus (ev_d (ev_dgetD (k := 0) (k1 := 0) (m := m) (m1 := m) (ev_var rfl) rfl (ev_var rfl) (ev_con T.c_NOUGHT) rfl) (hm.look e.1)) (ev_var rfl) hb he2) (ev_var rfl) (ev_var rfl) rfl ?_ ?_
    · have h1 := hm.len
      have h2 := hx.len
      rw [List.length_take] at h1
      omega
    · refine (hN (putM m e.1 (qT (tot (x.ps.take j) e.1 + e.2))) ?_).weak (by walk_at "sle") (List.Sublist.refl _)
      rw [take_succ' he]
      exact hm.put e.1 e.2
  · intro m hm
    rw [List.length_map, List.take_length] at hm
    have hl : m.length < 64 := by
      have := hm.len
      have := hx.len
      omega
    have h100 : (inOrder (x.ps.map (·.1))).length ≤ 100000 := by
      have h1 := inOrder_len (x.ps.map (·.1))
      have h2 := hx.len
      rw [List.length_map] at h1
      omega
    refine go_ret (ev_tup (ds := [qT x.n, .tuple ((res x.ps).map pairD)]) (evD_cons (ev_var rfl) (evD_cons (ev_tupN (ev_tabs (i := 2) (j := 3) hm h100 rfl (by decide) (by simp) (evIt_sorted (k := 0) hm hl rfl rfl) fun _ _ => ev_con T.c_NOUGHT)) evD_nil)) (by simp)) (k.drop (List.sublist_cons_self _ _))
theorem pure_sum_of (T : Txt K mg) (vs : List V) (H : Hp) (Q : VK) (X : XK) (h : sp_sum_of K vs H Q X) : t_sum_of K X { nx := fun _ H' => Q .non H', rt := Q } (L2.start N_sum_of vs) H :=
  pure_of (fun x F D E hr _ hp po => by subst hr; exact walk_sum_of T hp po) h
theorem len_sum_of (K : PySem.W.Frag) : ∀ vs H Q E, sp_sum_of K vs H Q E → vs.length = 2 := fsp_len fun _ => rfl

/-! ### _law_well -/
theorem walk_well {ns : List Int} {i : Int} (h0 : 0 ≤ i) (h1 : i ≤ 63) (k : GoN E.rt F0 (OL K (well ns i).d) D0) : Go (t__law_well K X E) F0 [some (D K (.list (ns.map .int))), some (DI K i), none] D0 := by
  refine go_seq (go_set (ev_int (K := K)) ?_)
  have rest : ∀ c : Int, c = (well ns i).v → Go (fun σ H => (tRet (tLst (tCons (tCB cInt1 (tCons (tOp rGeI (tCB cAbs (tCons (tVar 2) tNil)) (tOp rPowI (tC (.int 10)) (tC (.int 18)))) tNil)) (tCons (tVar 2) (tCons (tOp (qMul K) (tC (.int 17)) (tVar 1)) tNil))))) E σ H) F0 [some (D K (.list (ns.map .int))), some (DI K i), some (DI K c)] D0 := by
    intro c hc
    have m : CMulW 17 i := wmul 6 7 (by decide) (by omega)
    have e : [PyData.int (if decide ((10 : Int) ^ (18 : Int).toNat ≤ if c < 0 then -c else c) = true then 1 else 0), .int c, .int (17 * i)] = (well ns i).d := by
      subst hc
      simp only [decide_eq_true_eq]
      rfl
    refine go_retO (O := OL K (well ns i).d) ?_ k
    rw [← e]
    exact evN_lst (evD_cons (ev_intB (ev_ge (ev_abs (ev_var rfl)) (ev_pow ev_int ev_int ⟨by decide, by decide, by decide⟩))) (evD_cons (ev_var rfl) (evD_cons (ev_mul ev_int (ev_var rfl) m) evD_nil))) (by simp)
  refine go_seq (go_if (evT_test (ev_lt (ev_var rfl) (ev_lenL (ev_var rfl)))) (fun c => ?_) (fun c => ?_))
  · have hc : i < ns.length := by simpa using c
    refine go_set (ix_L (ev_var rfl) (ev_var rfl) (pick_at h0 hc)) (rest _ ?_)
    show _ = if i < ns.length then ns.getD i.toNat 0 else 0
    rw [if_pos hc]; rfl
  · have hc : ¬ i < ns.length := by simpa using c
    refine rest 0 ?_
    show _ = if i < ns.length then ns.getD i.toNat 0 else 0
    rw [if_neg hc]
theorem pure__law_well (T : Txt K mg) (vs : List V) (H : Hp) (Q : VK) (X : XK) (h : sp__law_well K vs H Q X) : t__law_well K X { nx := fun _ H' => Q .non H', rt := Q } (L2.start N__law_well vs) H :=
  pure_of (fun x F D E hr _ hp po => by subst hr; exact walk_well hp.1 hp.2 po) h
theorem len__law_well (K : PySem.W.Frag) : ∀ vs H Q E, sp__law_well K vs H Q E → vs.length = 2 := fsp_len fun _ => rfl

/-! ### _law_take -/
theorem walk_take {w : We} {m : Int} {k : Nat} {a : Addr} (hk : D0[k]? = some (a, OL K w.d)) (hw : ∃ n, n ≤ 2 ^ 40 ∧ w.ok n) (hm : 0 < m) (hm2 : m.natAbs < 2 ^ 8000) (po : GoV E.rt F0 (DI K (w.val m)) (D0.set k (a, OL K (w.nx m).d))) :
    Go (t__law_take K X E) F0 [some (Is (.ref a)), some (DI K m), none, none, none] D0 := by
  have m0 : m ≠ 0 := by omega
  refine go_seq (go_if (evT_test (eq_I (ix_O (ev_var rfl) ev_int hk rfl) ev_int)) (fun c => ?_) (fun c => ?_))
  · have hf : w.f = 1 := by simpa using c
    refine go_seq (go_set (ev_mod (ix_O (ev_var rfl) ev_int hk rfl) (ev_var rfl) m0) ?_)
    refine go_seq (go_setO (ev_div (ix_O (ev_var rfl) ev_int hk rfl) (ev_var rfl) (cdiv m0 hm2)) (ev_var rfl) ev_int hk rfl ?_)
    have e1 : w.val m = w.v.fmod m := if_pos hf
    have e2 : (w.nx m).d = w.d.set 1 (.int (w.v.fdiv m)) := by
      unfold We.nx
      rw [if_pos hf]
      rfl
    rw [e1, e2] at po
    exact go_ret (ev_var rfl) po
  · have hf : ¬ w.f = 1 := by simpa using c
    obtain ⟨n, hn, hw⟩ := hw
    obtain ⟨h1, h2, h3, h4⟩ := hw.resolve_left hf
    have t1 : (w.t + 1).natAbs < 2 ^ 41 := by
      have : ((2 : Nat) ^ 41) = 2 * 2 ^ 40 := by decide
      omega
    have m1 : CMulW 7919 (w.t + 1) := wmul 13 41 (by decide) t1
    have b2 : (7919 * (w.t + 1)).natAbs < 2 ^ 54 := Nu.natAbs_mul_lt (n := 13) (m := 41) (by decide) t1
    have m2 : CMulW (7919 * (w.t + 1)) (w.t + 1) := wmul 54 41 b2 t1
    have b3 : (7919 * (w.t + 1) * (w.t + 1)).natAbs < 2 ^ 95 := Nu.natAbs_mul_lt (n := 54) (m := 41) b2 t1
    have b4 : (w.v + 7919 * (w.t + 1) * (w.t + 1)).natAbs < 2 ^ 96 := Nu.natAbs_add_lt (Nu.lt_pow_mono h2 (by decide)) b3
    have b5 : (w.v + 7919 * (w.t + 1) * (w.t + 1) + (w.t + 1)).natAbs < 2 ^ 97 := Nu.natAbs_add_lt b4 (Nu.lt_pow_mono t1 (by decide))
    have m3 : CMulW (w.v + 7919 * (w.t + 1) * (w.t + 1) + (w.t + 1)) 48271 := wmul 97 16 b5 (by decide)
    have b6 : (((w.v + 7919 * (w.t + 1) * (w.t + 1) + (w.t + 1)) * 48271).fmod 2305843009213693951).natAbs < 2 ^ 61 := by
      have := mod_ok (a := (w.v + 7919 * (w.t + 1) * (w.t + 1) + (w.t + 1)) * 48271) (m := 2305843009213693951) (by decide)
      have e : ((2 : Nat) ^ 61) = 2305843009213693952 := by decide
      omega
    have m4 : CMulW (((w.v + 7919 * (w.t + 1) * (w.t + 1) + (w.t + 1)) * 48271).fmod 2305843009213693951) 1442695040888963407 := wmul 61 61 b6 (by decide)
    refine go_next (go_seq (go_set (ev_add (ix_O (ev_var rfl) ev_int hk rfl) ev_int) ?_))
    refine go_seq (go_setO (ev_var rfl) (ev_var rfl) ev_int hk rfl ?_)
    have hk2 : (D0.set k (a, OL K (w.d.set 2 (.int (w.t + 1)))))[k]? = some (a, OL K (w.d.set 2 (.int (w.t + 1)))) := set_at hk
    refine go_seq (go_set (ev_mod (ev_mul (ev_add (ev_add (ix_O (ev_var rfl) ev_int hk2 rfl) (ev_mul (ev_mul ev_int (ev_var rfl) m1) (ev_var rfl) m2)) (ev_var rfl)) ev_int m3) ev_int (by decide)) ?_)
    have e1 : w.val m = (mix w.v (w.t + 1)).fmod m := if_neg hf
    have e2 : (w.nx m).d = w.d.set 2 (.int (w.t + 1)) := by
      unfold We.nx
      rw [if_neg hf]
      rfl
    rw [e1, e2] at po
    exact go_ret (ev_mod (ev_div (ev_mod (ev_add (ev_mul (ev_var rfl) ev_int m4) ev_int) ev_int (by decide)) ev_int (cdiv (by decide) (by decide))) (ev_var rfl) m0) po
theorem pure__law_take (T : Txt K mg) (vs : List V) (H : Hp) (Q : VK) (X : XK) (h : sp__law_take K vs H Q X) : t__law_take K X { nx := fun _ H' => Q .non H', rt := Q } (L2.start N__law_take vs) H :=
  pure_ofM (fun x F D k a E hk hr _ hp po => by subst hr; exact walk_take hk hp.1 hp.2.1 hp.2.2 po) h
theorem len__law_take (K : PySem.W.Frag) : ∀ vs H Q E, sp__law_take K vs H Q E → vs.length = 2 := fspM_len fun _ => rfl
/-- a draw of the well at k -/
theorem ev_take {w : We} {m : Int} {k : Nat} {a : Addr} {D : Own} (n : Nat) (hk : k < D.length) (ha : Ev ta G D0 (Is (.ref a)) D1) (hb : Ev tb G D1 (DI K m) (D.set k (a, OL K w.d))) (hw : w.ok n) (hn : n ≤ 2 ^ 40) (hm : 0 < m) (hm2 : m.natAbs < 2 ^ 8000) :
    Ev (tCall (sp__law_take K) [] X (tCons ta (tCons tb tNil))) G D0 (DI K (w.val m)) (D.set k (a, OL K (w.nx m).d)) := by
  have h := ev_callM (X := X) (O := fun x : We × Int => OL K x.1.d) (O1 := fun x => OL K (x.1.nx x.2).d) (args := fun x => [DI K x.2]) (pre := fun x => (∃ n, n ≤ 2 ^ 40 ∧ x.1.ok n) ∧ 0 < x.2 ∧ x.2.natAbs < 2 ^ 8000) (out := fun x => .ok (DI K (x.1.val x.2))) (k := k) (a := a) (w, m)
    (evA_cons ha (evA_cons hb evA_nil)) (set_lt hk) ⟨⟨n, hn, hw⟩, hm, hm2⟩ rfl
  rw [List.set_set] at h
  exact h

/-! ### _law_common -/
theorem pure__law_common (T : Txt K mg) (vs : List V) (H : Hp) (Q : VK) (X : XK) (h : sp__law_common K vs H Q X) : t__law_common K X { nx := fun _ H' => Q .non H', rt := Q } (L2.start N__law_common vs) H := pure_common T vs H Q X h
theorem len__law_common (K : PySem.W.Frag) : ∀ vs H Q E, sp__law_common K vs H Q E → vs.length = 2 := fsp_len fun _ => rfl
theorem ev_lcommon {a b : Int} (ha : Ev ta G D0 (DI K a) D1) (hb : Ev tb G D1 (DI K b) D2) : Ev (tCall (sp__law_common K) [] X (tCons ta (tCons tb tNil))) G D0 (DI K (Int.gcd a b)) D2 := ev_common ha hb

/-! ### _law_num -/
theorem walk_num {t b : Int} (h0 : b ≠ 0) (hb : b.natAbs < 2 ^ 8000) (k : GoV E.rt F0 (DQ K (Nu.q t b)) D0) : Go (t__law_num K X E) F0 [some (DI K t), some (DI K b), none] D0 := by
  have rest : ∀ t' b' : Int, 0 < b' → b'.natAbs < 2 ^ 8000 → Nu.q t' b' = Nu.q t b → Go (fun σ H => (tSeq (tAsg (tCall (sp__law_common K) [] X (tCons (tVar 0) (tCons (tVar 1) tNil))) (gName 2))
  (tRet (tTup (tCons (tOp rDivI (tVar 0) (tVar 2)) (tCons (tOp rDivI (tVar 1) (tVar 2)) tNil))))) E σ H) F0 [some (DI K t'), some (DI K b'), none] D0 := by
    intro t' b' p hb' e
    have d := div_ok (t := t') (b := b') (by omega) hb'
    rw [Nu.by_pos p] at d
    have d2 : CDivA b' (Int.gcd t' b' : Int) := d
    refine go_seq (go_set (ev_lcommon (ev_var rfl) (ev_var rfl)) ?_)
    refine go_ret (ev_d (ev_tup (evD_cons (ev_div (ev_var rfl) (ev_var rfl) d) (evD_cons (ev_div (ev_var rfl) (ev_var rfl) d2) evD_nil)) (by simp)) ?_) k
    have h1 := Nu.top_is (t := t') (b := b') (by omega)
    have h2 := Nu.bot_is (t := t') (b := b') (by omega)
    rw [Nu.by_pos p] at h1 h2
    rw [h1, h2, e]
  refine go_seq (go_if (evT_test (ev_lt (ev_var rfl) ev_int)) (fun c => ?_) (fun c => ?_))
  · have hc : b < 0 := by simpa using c
    refine go_seq (go_set (ev_sub ev_int (ev_var rfl)) (go_set (ev_sub ev_int (ev_var rfl)) ?_))
    exact rest (0 - t) (0 - b) (by omega) (by omega) Nu.q_neg
  · have hc : ¬ b < 0 := by simpa using c
    exact rest t b (by omega) hb rfl
theorem pure__law_num (T : Txt K mg) (vs : List V) (H : Hp) (Q : VK) (X : XK) (h : sp__law_num K vs H Q X) : t__law_num K X { nx := fun _ H' => Q .non H', rt := Q } (L2.start N__law_num vs) H :=
  pure_of (fun x F D E hr _ hp po => by subst hr; exact walk_num hp.1 hp.2 po) h
theorem len__law_num (K : PySem.W.Frag) : ∀ vs H Q E, sp__law_num K vs H Q E → vs.length = 2 := fsp_len fun _ => rfl
theorem ev_lnum {t b : Int} (ha : Ev ta G D0 (DI K t) D1) (hb : Ev tb G D1 (DI K b) D2) (h0 : b ≠ 0) (h : b.natAbs < 2 ^ 8000) : Ev (tCall (sp__law_num K) [] X (tCons ta (tCons tb tNil))) G D0 (DQ K (Nu.q t b)) D2 :=
  ev_call0 (args := fun x : Int × Int => [DI K x.1, DI K x.2]) (t, b) (evA_cons ha (evA_cons hb evA_nil)) ⟨h0, h⟩ rfl

/-! ### _law_add -/
theorem walk_ladd {a b : Rat} (ha : Nu.Bd 3000 a) (hb : Nu.Bd 3000 b) (k : GoV E.rt F0 (DQ K (a + b)) D0) : Go (t__law_add K X E) F0 [some (DQ K a), some (DQ K b)] D0 := by
  have h := ev_lnum (K := K) (X := X) (G := [some (DQ K a), some (DQ K b)]) (D0 := D0) (ev_add (ev_mul (ev_q0 (ev_var (i := 0) rfl)) (ev_q1 (ev_var (i := 1) rfl)) (cq ha.1 (denOf hb) (by decide) (by decide))) (ev_mul (ev_q0 (ev_var (i := 1) rfl)) (ev_q1 (ev_var (i := 0) rfl)) (cq hb.1 (denOf ha) (by decide) (by decide))))
    (ev_mul (ev_q1 (ev_var (i := 0) rfl)) (ev_q1 (ev_var (i := 1) rfl)) (cq (denOf ha) (denOf hb) (by decide) (by decide))) (dd_ne a b) (dd_small ha hb)
  rw [Nu.plus_is] at h
  exact go_ret h k
theorem pure__law_add (T : Txt K mg) (vs : List V) (H : Hp) (Q : VK) (X : XK) (h : sp__law_add K vs H Q X) : t__law_add K X { nx := fun _ H' => Q .non H', rt := Q } (L2.start N__law_add vs) H :=
  pure_of (fun x F D E hr _ hp po => by subst hr; exact walk_ladd hp.1 hp.2 po) h
theorem len__law_add (K : PySem.W.Frag) : ∀ vs H Q E, sp__law_add K vs H Q E → vs.length = 2 := fsp_len fun _ => rfl
theorem ev_ladd {a b : Rat} (ha : Ev ta G D0 (DQ K a) D1) (hb : Ev tb G D1 (DQ K b) D2) (pa : Nu.Bd 3000 a) (pb : Nu.Bd 3000 b) : Ev (tCall (sp__law_add K) [] X (tCons ta (tCons tb tNil))) G D0 (DQ K (a + b)) D2 :=
  ev_call0 (args := fun x : Rat × Rat => [DQ K x.1, DQ K x.2]) (a, b) (evA_cons ha (evA_cons hb evA_nil)) ⟨pa, pb⟩ rfl

/-! ### _law_mul -/
theorem walk_lmul {a b : Rat} (ha : Nu.Bd 3000 a) (hb : Nu.Bd 3000 b) (k : GoV E.rt F0 (DQ K (a * b)) D0) : Go (t__law_mul K X E) F0 [some (DQ K a), some (DQ K b)] D0 := by
  have h := ev_lnum (K := K) (X := X) (G := [some (DQ K a), some (DQ K b)]) (D0 := D0) (ev_mul (ev_q0 (ev_var (i := 0) rfl)) (ev_q0 (ev_var (i := 1) rfl)) (cq ha.1 hb.1 (by decide) (by decide)))
    (ev_mul (ev_q1 (ev_var (i := 0) rfl)) (ev_q1 (ev_var (i := 1) rfl)) (cq (denOf ha) (denOf hb) (by decide) (by decide))) (dd_ne a b) (dd_small ha hb)
  rw [Nu.times_is] at h
  exact go_ret h k
theorem pure__law_mul (T : Txt K mg) (vs : List V) (H : Hp) (Q : VK) (X : XK) (h : sp__law_mul K vs H Q X) : t__law_mul K X { nx := fun _ H' => Q .non H', rt := Q } (L2.start N__law_mul vs) H :=
  pure_of (fun x F D E hr _ hp po => by subst hr; exact walk_lmul hp.1 hp.2 po) h
theorem len__law_mul (K : PySem.W.Frag) : ∀ vs H Q E, sp__law_mul K vs H Q E → vs.length = 2 := fsp_len fun _ => rfl
theorem ev_lmul {a b : Rat} (ha : Ev ta G D0 (DQ K a) D1) (hb : Ev tb G D1 (DQ K b) D2) (pa : Nu.Bd 3000 a) (pb : Nu.Bd 3000 b) : Ev (tCall (sp__law_mul K) [] X (tCons ta (tCons tb tNil))) G D0 (DQ K (a * b)) D2 :=
  ev_call0 (args := fun x : Rat × Rat => [DQ K x.1, DQ K x.2]) (a, b) (evA_cons ha (evA_cons hb evA_nil)) ⟨pa, pb⟩ rfl

/-! ### _law_number -/
theorem q1_pair {t : Int} : (Nu.q t 1).num = t ∧ (((Nu.q t 1).den : Nat) : Int) = 1 := ⟨(Nu.q_one t).1, by rw [(Nu.q_one t).2]; rfl⟩
theorem numW_ok {w : We} {n : Nat} (h : w.ok n) : (numW w).ok (n + 3) := by
  unfold numW
  have up : ∀ {u : We}, u.ok (n + 2) → u.ok (n + 3) := fun h => by
    rcases h with h | ⟨h1, h2, h3, h4⟩
    · exact .inl h
    · exact .inr ⟨h1, h2, h3, by omega⟩
  split
  · exact We.nx_ok (We.nx_ok (We.nx_ok h))
  · split
    · exact We.nx_ok (We.nx_ok (We.nx_ok h))
    · exact up (We.nx_ok (We.nx_ok h))
theorem numR_bd (w : We) : Nu.Bd 60 (numR w) := by
  unfold numR
  have a1 := We.val_ok (w := w.nx 8) (m := 2 * 10 ^ 17 + 1) (by decide)
  have a2 := We.val_ok (w := (w.nx 8).nx (2 * 10 ^ 17 + 1)) (m := 10 ^ 17) (by decide)
  have a3 := We.val_ok (w := w.nx 8) (m := 201) (by decide)
  have a4 := We.val_ok (w := (w.nx 8).nx 201) (m := 6) (by decide)
  have a5 := We.val_ok (w := w.nx 8) (m := 9) (by decide)
  have e1 : (10 : Int) ^ 17 = 100000000000000000 := by decide
  have e2 : (2 : Nat) ^ 60 = 1152921504606846976 := by decide
  split
  · refine Nu.q_bd ?_ ?_ ?_ <;> omega
  · split
    · refine Nu.q_bd ?_ ?_ ?_ <;> omega
    · refine Nu.q_bd ?_ ?_ ?_ <;> omega
theorem walk_number {w : We} {n k : Nat} {a : Addr} (hk : D0[k]? = some (a, OL K w.d)) (hn : n ≤ 2 ^ 39) (hw : w.ok n) (po : GoV E.rt F0 (DQ K (numR w)) (D0.set k (a, OL K (numW w).d))) : Go (t__law_number K X E) F0 [some (Is (.ref a)), none] D0 := by
  have lt : k < D0.length := (List.getElem?_eq_some_iff.mp hk).1
  have e0 : D0 = D0.set k (a, OL K w.d) := (set_id hk).symm
  have l39 : (2 : Nat) ^ 40 = 2 * 2 ^ 39 := by decide
  have hw1 : (w.nx 8).ok (n + 1) := We.nx_ok hw
  have c1 : CMulW 2 ((10 : Int) ^ (17 : Int).toNat) := wmul 2 60 (by decide) (by decide)
  have m1 : (0 : Int) < 2 * 10 ^ (17 : Int).toNat + 1 := by decide
  rw [e0]
  refine go_seq (go_set (ev_take (D := D0) n lt (ev_var rfl) ev_int hw (by omega) (by decide) (small (by decide))) ?_)
  refine go_seq (go_if (evT_test (eq_I (ev_var rfl) ev_int)) (fun z => ?_) (fun z => go_next ?_))
  · have hz : w.val 8 = 7 := by simpa using z
    have f1 : numR w = Nu.q ((w.nx 8).val (2 * 10 ^ 17 + 1) - 10 ^ 17) (1 + ((w.nx 8).nx (2 * 10 ^ 17 + 1)).val (10 ^ 17)) := if_pos hz
    have f2 : numW w = ((w.nx 8).nx (2 * 10 ^ 17 + 1)).nx (10 ^ 17) := if_pos hz
    have a2 := We.val_ok (w := (w.nx 8).nx (2 * 10 ^ 17 + 1)) (m := 10 ^ 17) (by decide)
    rw [f1, f2] at po
    refine go_ret (ev_lnum (ev_sub (ev_take (D := D0) (n + 1) lt (ev_var rfl) (ev_add (ev_mul ev_int (ev_pow ev_int ev_int ⟨by decide, by decide, by decide⟩) c1) ev_int) hw1 (by omega) m1 (small (by decide))) (ev_pow ev_int ev_int ⟨by decide, by decide, by decide⟩))
      (ev_add ev_int (ev_take (D := D0) (n + 2) lt (ev_var rfl) (ev_pow ev_int ev_int ⟨by decide, by decide, by decide⟩) (We.nx_ok hw1) (by omega) (by decide) (small (by decide)))) ?_ (small ?_)) po
    · show 1 + ((w.nx 8).nx (2 * 10 ^ 17 + 1)).val (10 ^ 17) ≠ 0
      omega
    · show (1 + ((w.nx 8).nx (2 * 10 ^ 17 + 1)).val (10 ^ 17)).natAbs < 2 ^ 62
      have e1 : (10 : Int) ^ 17 = 100000000000000000 := by decide
      have e2 : (2 : Nat) ^ 62 = 4611686018427387904 := by decide
      omega
  · have hz : ¬ w.val 8 = 7 := by simpa using z
    refine go_seq (go_if (evT_test (ev_gt (ev_var rfl) ev_int)) (fun y => ?_) (fun y => go_next ?_))
    · have hy : w.val 8 > 4 := by simpa using y
      have f1 : numR w = Nu.q ((w.nx 8).val 201 - 100) (1 + ((w.nx 8).nx 201).val 6) := (if_neg hz).trans (if_pos hy)
      have f2 : numW w = ((w.nx 8).nx 201).nx 6 := (if_neg hz).trans (if_pos hy)
      have a2 := We.val_ok (w := (w.nx 8).nx 201) (m := 6) (by decide)
      rw [f1, f2] at po
      have sm : (1 + ((w.nx 8).nx 201).val 6).natAbs < 2 ^ 8000 := small (by
        have e2 : (2 : Nat) ^ 62 = 4611686018427387904 := by decide
        omega)
      exact go_ret (ev_lnum (ev_sub (ev_take (D := D0) (n + 1) lt (ev_var rfl) ev_int hw1 (by omega) (by decide) (small (by decide))) ev_int)
        (ev_add ev_int (ev_take (D := D0) (n + 2) lt (ev_var rfl) ev_int (We.nx_ok hw1) (by omega) (by decide) (small (by decide)))) (by omega) sm) po
    · have hy : ¬ w.val 8 > 4 := by simpa using y
      have f1 : numR w = Nu.q ((w.nx 8).val 9 - 4) 1 := (if_neg hz).trans (if_neg hy)
      have f2 : numW w = (w.nx 8).nx 9 := (if_neg hz).trans (if_neg hy)
      rw [f1, f2] at po
      exact go_ret (ev_pair _ (ev_sub (ev_take (D := D0) (n + 1) lt (ev_var rfl) ev_int hw1 (by omega) (by decide) (small (by decide))) ev_int) ev_int q1_pair.1 q1_pair.2) po
theorem pure__law_number (T : Txt K mg) (vs : List V) (H : Hp) (Q : VK) (X : XK) (h : sp__law_number K vs H Q X) : t__law_number K X { nx := fun _ H' => Q .non H', rt := Q } (L2.start N__law_number vs) H :=
  pure_ofM (fun x F D k a E hk hr _ hp po => by subst hr; exact let ⟨n, hn, hw⟩ := hp; walk_number hk hn hw po) h
theorem len__law_number (K : PySem.W.Frag) : ∀ vs H Q E, sp__law_number K vs H Q E → vs.length = 1 := fspM_len fun _ => rfl
theorem ev_number {w : We} {k : Nat} {a : Addr} {D : Own} (n : Nat) (hk : k < D.length) (ha : Ev ta G D0 (Is (.ref a)) (D.set k (a, OL K w.d))) (hw : w.ok n) (hn : n ≤ 2 ^ 39) :
    Ev (tCall (sp__law_number K) [] X (tCons ta tNil)) G D0 (DQ K (numR w)) (D.set k (a, OL K (numW w).d)) := by
  have h := ev_callM (X := X) (O := fun w : We => OL K w.d) (O1 := fun w => OL K (numW w).d) (args := fun _ => []) (pre := fun w => ∃ n, n ≤ 2 ^ 39 ∧ w.ok n) (out := fun w => .ok (DQ K (numR w))) (k := k) (a := a) w
    (evA_cons ha evA_nil) (set_lt hk) ⟨n, hn, hw⟩ rfl
  rw [List.set_set] at h
  exact h

/-! ### _law_whole -/
theorem pure__law_whole (T : Txt K mg) (vs : List V) (H : Hp) (Q : VK) (X : XK) (h : sp__law_whole K vs H Q X) : t__law_whole K X { nx := fun _ H' => Q .non H', rt := Q } (L2.start N__law_whole vs) H := pure_is_whole T vs H Q X h
theorem len__law_whole (K : PySem.W.Frag) : ∀ vs H Q E, sp__law_whole K vs H Q E → vs.length = 1 := fsp_len fun _ => rfl
theorem ev_lwhole {i : Int} (h : Ev te G D0 (DI K i) D1) : Ev (tCall (sp__law_whole K) [] X (tCons te tNil)) G D0 (DB K true) D1 := ev_whole (ev_of h) mem_int

/-! ### _law_is -/
theorem walk_is {a b : Rat} (k : GoV E.rt F0 (DB K (decide (a = b))) D0) : Go (t__law_is K X E) F0 [some (DQ K a), some (DQ K b)] D0 := by
  refine go_seq (go_if (b := false) (evT_or (a := false) (b := false) (evT_b (evT_not (evT_B (ev_isi (ev_var rfl) (show kitB "tuple" "tuple" = some true by decide +kernel)))) rfl) fun _ =>
    evT_or (a := false) (b := false) (evT_b (evT_test (ne_I (ev_lenT (ev_var rfl)) ev_int)) rfl) fun _ =>
    evT_or (a := false) (b := false) (evT_b (evT_not (evT_B (ev_lwhole (ix_T (ev_var rfl) ev_int rfl)))) rfl) fun _ =>
    (evT_b (evT_not (evT_B (ev_lwhole (ix_T (ev_var rfl) ev_int rfl)))) rfl)) (fun z => nomatch z) fun _ => ?_)
  exact go_next (go_ret (ev_d (eq_D (ev_var rfl) (ev_var rfl) (shaped_q _ _) (shaped_q _ _)) (by rw [eqv_q])) k)
theorem pure__law_is (T : Txt K mg) (vs : List V) (H : Hp) (Q : VK) (X : XK) (h : sp__law_is K vs H Q X) : t__law_is K X { nx := fun _ H' => Q .non H', rt := Q } (L2.start N__law_is vs) H :=
  pure_of (fun x F D E hr _ hp po => by subst hr; exact walk_is po) h
theorem len__law_is (K : PySem.W.Frag) : ∀ vs H Q E, sp__law_is K vs H Q E → vs.length = 2 := fsp_len fun _ => rfl
theorem ev_is {a b : Rat} (ha : Ev ta G D0 (DQ K a) D1) (hb : Ev tb G D1 (DQ K b) D2) : Ev (tCall (sp__law_is K) [] X (tCons ta (tCons tb tNil))) G D0 (DB K (decide (a = b))) D2 :=
  ev_call0 (args := fun x : Rat × Rat => [DQ K x.1, DQ K x.2]) (a, b) (evA_cons ha (evA_cons hb evA_nil)) trivial rfl

/-! ### _law_name -/
def signs : Str := "abcdefghijklmnopqrstuvwxyz0123456789."
theorem signs_len : signs.cps.toList.length = 37 := by decide +kernel
def signAt (i : Int) : Nat := signs.cps.toList.getD i.toNat 0
theorem sign_at {i : Int} (h0 : 0 ≤ i) (h1 : i < 37) : atI signs.cps.toList i = some (signAt i) := by
  have h2 : i.toNat < signs.cps.toList.length := by rw [signs_len]; omega
  unfold atI ixN signAt
  rw [if_pos h0, signs_len, if_pos (by omega), Option.bind_some, List.getD_eq_getElem?_getD, List.getElem?_eq_getElem h2]
  rfl
def wt (w : We) : Nat → We
  | 0 => w
  | k + 1 => (wt w k).nx 37
theorem wt_ok {w : We} {n : Nat} (h : w.ok n) : ∀ k, (wt w k).ok (n + k)
  | 0 => h
  | k + 1 => We.nx_ok (wt_ok h k)
def signsOf (w : We) (n : Nat) : List Str := (List.range n).map fun j => ⟨#[signAt ((wt w j).val 37)]⟩
theorem ev_signs {w : We} {n k : Nat} {p : Addr} {m : Int} {g1 g4 : Option Ty} (hk : D0[k]? = some (p, OL K w.d)) (h : w.ok n) (hn : n ≤ 2 ^ 39) (hm : 0 ≤ m ∧ m ≤ 1000) :
    EvN (tLc (iRng1 (tCons (tVar 3) tNil)) (gName 4) tYes (tOp (rIx K) (tVar 2) (tCall (sp__law_take K) [] E0 (tCons (tVar 0) (tCons (tC (.int 37)) tNil)))) [4]) [some (Is (.ref p)), g1, some (DS K signs), some (DI K m), g4] D0 (OL K ((signsOf w m.toNat).map .str)) (D0.set k (p, OL K (wt w m.toNat).d)) := by
  have hk2 : k < D0.length := (List.getElem?_eq_some_iff.mp hk).1
  have h40 : (2 : Nat) ^ 40 = 1099511627776 := by decide
  have h39 : (2 : Nat) ^ 39 = 549755813888 := by decide
  refine evN_lc (S := Nat) (evIt_rng1 (ev_var rfl) ⟨by omega, by omega⟩) (fun k s acc => s = k ∧ acc = (signsOf w k).map .str) (fun j => D0.set k (p, OL K (wt w j).d)) 0 ⟨rfl, rfl⟩ ?_ (by rw [rangeD_len]; omega) ?_ ?_
  · show (D0.set k (p, OL K w.d)).Sublist D0
    rw [set_id hk]
    exact List.Sublist.refl _
  · rintro j s acc d q hd ⟨rfl, rfl⟩
    have u := wt_ok h s
    have v := We.val_ok (w := wt w s) (m := 37) (by decide)
    have hs := (rangeD_get hd).1
    refine ⟨_, evW_name (by simp), true, s, evT_yes, fun _ => ⟨.str ⟨#[signAt ((wt w s).val 37)]⟩, s + 1, ?_, rfl, ?_⟩, fun z => nomatch z⟩
    · refine ix_S (x := signs) (ev_var rfl) (ev_take (k := k + 1) (D := (q, OL K ((signsOf w s).map .str)) :: D0) (n + s) (by simpa using hk2) (ev_var rfl) ev_int u (by omega) (by decide) (small (by decide))) (Nat.le_trans (by decide +kernel : signs.length ≤ 100000) sizeLine_big) (sign_at v.1 v.2)
    · unfold signsOf
      rw [List.range_succ, List.map_append, List.map_append]
      rfl
  · rintro s acc ⟨rfl, rfl⟩
    rw [rangeD_len]
    exact ⟨rfl, rfl⟩
theorem sum_ones {α : Type} : ∀ l : List α, (l.map fun _ => 1).sum = l.length
  | [] => rfl
  | x :: l => by
    rw [List.map_cons, List.sum_cons, sum_ones l, List.length_cons]
    omega
theorem signs_sum (w : We) (n : Nat) : ((signsOf w n).map (·.length)).sum = n := by
  unfold signsOf
  rw [List.map_map]
  have : (fun x : Str => x.length) ∘ (fun j => (⟨#[signAt ((wt w j).val 37)]⟩ : Str)) = fun _ => 1 := rfl
  rw [this, sum_ones, List.length_range]
theorem join_len (ys : List Str) : (Txt.join "" ys).length ≤ (ys.map (·.length)).sum := by
  show (PySem.Builtin.Str.glued "" ys).length ≤ _
  rw [PySem.StrLaws.glued_eq_join]
  have := PySem.StrLaws.join_length_le "" ys
  have e : (("" : Str)).length = 0 := by decide +kernel
  rw [e] at this
  omega
theorem join_mem {c : Nat} : ∀ {ys : List Str}, c ∈ (Txt.join "" ys).cps.toList → ∃ y ∈ ys, c ∈ y.cps.toList := by
  have h : ∀ ys : List Str, c ∈ (Str.join "" ys).cps.toList → ∃ y ∈ ys, c ∈ y.cps.toList := by
    intro ys
    induction ys with
    | nil => intro h; cases h
    | cons x r ih =>
      cases r with
      | nil => exact fun h => ⟨x, List.mem_cons_self, h⟩
      | cons y r =>
        intro h
        have h' : c ∈ (x ++ "" ++ Str.join "" (y :: r)).cps.toList := h
        rw [app_cps, app_cps, List.append_assoc, List.mem_append, List.mem_append] at h'
        rcases h' with h' | h' | h'
        · exact ⟨x, List.mem_cons_self, h'⟩
        · exact absurd h' (by have e : (("" : Str)).cps.toList = [] := by decide +kernel
                              rw [e]; exact List.not_mem_nil)
        · obtain ⟨z, hz, hc⟩ := ih h'
          exact ⟨z, List.mem_cons_of_mem _ hz, hc⟩
  intro ys hc
  have e : Txt.join "" ys = Str.join "" ys := PySem.StrLaws.glued_eq_join "" ys
  rw [e] at hc
  exact h ys hc
theorem sign_ok {i : Int} (h0 : 0 ≤ i) (h1 : i < 37) : signAt i < 0x110000 := by
  have h2 : i.toNat < signs.cps.toList.length := by rw [signs_len]; omega
  have all : ∀ c ∈ signs.cps.toList, c < 0x110000 := by decide +kernel
  unfold signAt
  rw [List.getD_eq_getElem?_getD, List.getElem?_eq_getElem h2]
  exact all _ (List.getElem_mem h2)
theorem walk_name {n k : Nat} {a : Addr} (hk : D0[k]? = some (a, OWl K n)) (hn : n ≤ 2 ^ 38) (po : GoV E.rt F0 (Ty.ex (DS K) Sh) (D0.set k (a, OWl K (n + 22)))) : Go (t__law_name K X E) F0 [some (Is (.ref a)), some (DI K 20), none, none, none] D0 := by
  have h38 : (2 : Nat) ^ 38 = 274877906944 := by decide
  have h40 : (2 : Nat) ^ 40 = 1099511627776 := by decide
  have h39 : (2 : Nat) ^ 39 = 549755813888 := by decide
  have hk2 : k < D0.length := (List.getElem?_eq_some_iff.mp hk).1
  refine go_openW hk fun w hw => ?_
  refine go_seq (go_set (R := DS K signs) (ev_str (K := K)) ?_)
  dsimp only
  have w1 : (w.nx 6).ok (n + 1) := We.nx_ok hw
  have hm : ∃ m : Int, (m = 4 ∨ m = 20) ∧ atI [PyData.int 4, .int 20] (if (decide (w.val 6 = 5)) = true then 1 else 0) = some (.int m) := by
    by_cases q : w.val 6 = 5
    · exact ⟨20, .inr rfl, by rw [if_pos (decide_eq_true q)]; rfl⟩
    · exact ⟨4, .inl rfl, by rw [if_neg (by simpa using q)]; rfl⟩
  obtain ⟨m, m2, e⟩ := hm
  have mpos : 0 < m := by omega
  have v := We.val_ok (w := w.nx 6) (m := m) mpos
  refine go_seq (go_set (ev_add ev_int (ev_take (k := k) (D := D0) (w := w.nx 6) (n + 1) hk2 (ev_var rfl) (ix_L (ev_lst (ds := [.int 4, .int 20]) (evD_cons ev_int (evD_cons (ev_var rfl) evD_nil)) (by simp)) (ev_intB (eq_I (ev_take (k := k) (D := D0) n hk2 (ev_var rfl) ev_int hw (by omega) (by decide) (small (by decide))) ev_int)) e) w1 (by omega) mpos (small (by rcases m2 with rfl | rfl <;> decide)))) ?_)
  dsimp only
  have w2 : ((w.nx 6).nx m).ok (n + 1 + 1) := We.nx_ok w1
  generalize (w.nx 6).val m = i at *
  generalize (w.nx 6).nx m = u at *
  have hs := signs_sum u (1 + i).toNat
  refine go_ret (ev_ex (f := DS K) (p := Sh) (Txt.join "" (signsOf u (1 + i).toNat)) (ev_joinN ev_str (ev_signs (k := k) (n := n + 1 + 1) (set_lt hk2) w2 (by omega) ⟨by omega, by omega⟩) ?_) ?_) ?_
  · have e : (("" : Str)).length = 0 := by decide +kernel
    rw [hs, e]
    omega
  · refine ⟨Nat.le_trans (join_len _) (by rw [hs]; omega), fun c hc => ?_⟩
    obtain ⟨y, hy, hcy⟩ := join_mem hc
    obtain ⟨j, hj, rfl⟩ := List.mem_map.mp hy
    have e : c = signAt ((wt u j).val 37) := by simpa using hcy
    have v := We.val_ok (w := wt u j) (m := 37) (by decide)
    rw [e]
    exact sign_ok v.1 v.2
  · rw [List.set_set] 
    refine GoV.reown (k := k) (a := a) (O' := OWl K (n + 22)) ?_ (set_lt hk2) (owl_in ((wt_ok w2 _).up (by omega)))
    rw [List.set_set]
    exact po
theorem pure__law_name (T : Txt K mg) (vs : List V) (H : Hp) (Q : VK) (X : XK) (h : sp__law_name K vs H Q X) : t__law_name K X { nx := fun _ H' => Q .non H', rt := Q } (L2.start N__law_name vs) H :=
  pure_ofM (fun n F D k a E hk hr _ hp po => by subst hr; exact walk_name hk hp po) h
theorem len__law_name (K : PySem.W.Frag) : ∀ vs H Q E, sp__law_name K vs H Q E → vs.length = 2 := fspM_len fun _ => rfl

/-! ### _law_names -/
theorem ev_name {n k : Nat} {a : Addr} {D : Own} (hk : k < D.length) (ha : Ev ta G D0 (Is (.ref a)) D1) (hb : Ev tb G D1 (DI K 20) (D.set k (a, OWl K n))) (hn : n ≤ 2 ^ 38) : Ev (tCall (sp__law_name K) [] X (tCons ta (tCons tb tNil))) G D0 (Ty.ex (DS K) Sh) (D.set k (a, OWl K (n + 22))) := by
  have h := ev_callM (X := X) (O := fun n : Nat => OWl K n) (O1 := fun n => OWl K (n + 22)) (args := fun _ => [DI K 20]) (pre := fun n => n ≤ 2 ^ 38) (out := fun _ => .ok (Ty.ex (DS K) Sh)) (k := k) (a := a) n
    (evA_cons ha (evA_cons hb evA_nil)) (set_lt hk) hn rfl
  rw [List.set_set] at h
  exact h
theorem pigeon {α : Type} [DecidableEq α] (f : Nat → α) (inj : ∀ i j, f i = f j → i = j) : ∀ (t : Nat) (L : List α), (∀ s, s < t → f s ∈ L) → t ≤ L.length
  | 0, _, _ => Nat.zero_le _
  | t + 1, L, h => by
    have m := h t (Nat.lt_succ_self t)
    have l := List.length_erase_of_mem m
    have ih := pigeon f inj t (L.erase (f t)) fun s hs => (List.mem_erase_of_ne fun e => absurd (inj _ _ e) (by omega)).mpr (h s (by omega))
    have := List.length_pos_of_mem m
    omega
def tail2 (z : Str) : List Nat := z.cps.toList.drop (z.cps.toList.length - 2)
def code2 (s : Nat) : List Nat := [48 + s, 97]
theorem code_inj (i j : Nat) (h : code2 i = code2 j) : i = j := by
  have := List.cons.inj h
  omega
theorem dig_at {t : Nat} (h : t ≤ 6) : atI ("0123456789" : Str).cps.toList ((t : Int).fmod 10) = some (48 + t) := by
  have cs : t = 0 ∨ t = 1 ∨ t = 2 ∨ t = 3 ∨ t = 4 ∨ t = 5 ∨ t = 6 := by omega
  rcases cs with rfl | rfl | rfl | rfl | rfl | rfl | rfl <;> decide +kernel
theorem let_at {t : Nat} (h : t ≤ 6) : atI ("abcdefghij" : Str).cps.toList (((t : Int).fdiv 10).fmod 10) = some 97 := by
  have cs : t = 0 ∨ t = 1 ∨ t = 2 ∨ t = 3 ∨ t = 4 ∨ t = 5 ∨ t = 6 := by omega
  rcases cs with rfl | rfl | rfl | rfl | rfl | rfl | rfl <;> decide +kernel
theorem cut_le (z : Str) (k : Nat) : (cutS z none (some (k : Int))).length ≤ k := by
  show (((z.cps.toList.drop (HT.sIx z.length 0 none)).take (HT.sIx z.length z.length (some (k : Int)) - HT.sIx z.length 0 none)).toArray).size ≤ k
  rw [HT.sIx_nat, HT.sIx_none, List.size_toArray, List.length_take]
  omega
def nextName (z : Str) (t : Nat) : Str := cutS z none (some 18) ++ ⟨#[48 + t]⟩ ++ ⟨#[97]⟩
theorem next_tail (z : Str) (t : Nat) : tail2 (nextName z t) = code2 t := by
  have e : (nextName z t).cps.toList = (cutS z none (some 18)).cps.toList ++ [48 + t, 97] := by
    show (((cutS z none (some 18)).cps ++ #[48 + t]) ++ #[97]).toList = _
    rw [Array.toList_append, Array.toList_append, List.append_assoc]
    rfl
  unfold tail2
  rw [e, List.length_append]
  have : (cutS z none (some 18)).cps.toList.length + [48 + t, 97].length - 2 = (cutS z none (some 18)).cps.toList.length := by simp
  rw [this, List.drop_left]
  rfl
theorem next_len (z : Str) (t : Nat) : (nextName z t).length ≤ 20 := by
  have h := cut_le z 18
  have e : (nextName z t).length = (cutS z none (some 18)).length + 2 := by
    show (((cutS z none (some 18)).cps ++ #[48 + t]) ++ #[97]).size = _
    rw [Array.size_append, Array.size_append]
    rfl
  have h2 : (cutS z none (some 18)).length ≤ 18 := h
  omega
theorem big20 {z : Str} (h : z.length ≤ 20) : z.length ≤ sizeLine := Nat.le_trans (Nat.le_trans h (by decide : 20 ≤ 100000)) sizeLine_big
theorem next_sh {z : Str} (h : Sh z) {t : Nat} (ht : t ≤ 6) : Sh (nextName z t) := ⟨next_len z t, fun c hc => by
  unfold nextName at hc
  rw [app_cps, app_cps, List.append_assoc, List.mem_append] at hc
  rcases hc with hc | hc
  · exact h.ok c (mem_cut hc)
  · have e : c = 48 + t ∨ c = 97 := by simpa using hc
    omega⟩
/-- a name that is new, behind the others -/
theorem walk_new {zs : List Str} {z0 : Str} {q : Addr} {g0 g1 g4 : Option Ty} (h6 : zs.length ≤ 5) (hz : Sh z0)
    (k : ∀ z : Str, z ∉ zs → Sh z → Go E.nx F0 [g0, g1, some (Is (.ref q)), none, none] ((q, OL K ((zs ++ [z]).map .str)) :: D0)) :
    Go (tSeq (tAsg (tC (.int 0)) (gName 4))
  (tSeq (tWhile (tTest (tOp (rIn K false) (tVar 3) (tVar 2)))
  (tSeq (tAsg (tOp (qAdd K) (tOp (qAdd K) (tSl rSlS (tVar 3) tNoPart (tPart (tC (.int 18)))) (tOp (rIx K) (tC (.str "0123456789")) (tOp rModI (tVar 4) (tC (.int 10))))) (tOp (rIx K) (tC (.str "abcdefghij")) (tOp rModI (tOp rDivI (tVar 4) (tC (.int 10))) (tC (.int 10))))) (gName 3))
  (tAsg (tOp (qAdd K) (tVar 4) (tC (.int 1))) (gName 4))))
  (tDrop (tBM K "list" rAppend (tVar 2) (tCons (tVar 3) tNil)))) E) F0 [g0, g1, some (Is (.ref q)), some (DS K z0), g4] ((q, OL K (zs.map .str)) :: D0) := by
  refine go_seq (go_set (ev_int (K := K)) ?_)
  dsimp only
  refine go_seq (go_while (S := Str × Nat) (fun s => Sh s.1 ∧ s.2 ≤ zs.length + 1 ∧ (s.2 = 0 ∨ ∃ t, s.2 = t + 1 ∧ tail2 s.1 = code2 t) ∧ ∀ t, t + 1 < s.2 → code2 t ∈ zs.map tail2)
    (fun s => [g0, g1, some (Is (.ref q)), some (DS K s.1), some (DI K (s.2 : Int))]) (fun _ => (q, OL K (zs.map .str)) :: D0) (fun s => zs.length + 1 - s.2) (fun s => decide (s.1 ∈ zs)) (z0, 0)
    ⟨hz, Nat.zero_le _, .inl rfl, fun t h => by omega⟩ (SLe.refl _) (List.Sublist.refl _) (fun s _ => evT_test (ev_inO (k := 0) (ev_var rfl) (ev_var rfl) rfl)) ?_ ?_)
  · rintro ⟨z, t⟩ ⟨h1, h2, h3, h4⟩ hin Nx hN
    dsimp only at h1 h2 h3 h4 hin hN ⊢
    have hm : z ∈ zs := of_decide_eq_true hin
    have all : ∀ s, s < t → code2 s ∈ zs.map tail2 := fun s hs => by
      by_cases q : s + 1 < t
      · exact h4 s q
      · rcases h3 with h3 | ⟨u, rfl, h3⟩
        · omega
        · have : s = u := by omega
          subst this
          rw [← h3]
          exact List.mem_map_of_mem hm
    have ht := pigeon code2 code_inj t _ all
    rw [List.length_map] at ht
    have t6 : t ≤ 6 := by omega
    have c18 : (cutS z none (some 18)).length ≤ 18 := cut_le z 18
    refine go_seq (go_set (R := DS K (nextName z t)) (ev_addS (ev_addS (ev_slS (ev_var rfl) evO_none (evO_some (K := K) ev_int) (big20 h1.len)) (ix_S (x := "0123456789") ev_str (ev_mod (ev_var rfl) ev_int (by decide)) (Nat.le_trans (by decide +kernel : ("0123456789" : Str).length ≤ 100000) sizeLine_big) (dig_at t6)) ?_)
      (ix_S (x := "abcdefghij") ev_str (ev_mod (ev_div (ev_var rfl) ev_int (cdiv (by decide) (small (by decide)))) ev_int (by decide)) (Nat.le_trans (by decide +kernel : ("abcdefghij" : Str).length ≤ 100000) sizeLine_big) (let_at t6)) ?_) ?_)
    · show (cutS z none (some 18)).length + 1 ≤ 100000
      omega
    · have e : (cutS z none (some 18) ++ (⟨#[48 + t]⟩ : Str)).length = (cutS z none (some 18)).length + 1 := by
        show ((cutS z none (some 18)).cps ++ #[48 + t]).size = _
        rw [Array.size_append]
        rfl
      rw [e]
      show (cutS z none (some 18)).length + 1 + 1 ≤ 100000
      omega
    · dsimp only
      refine go_set (ev_add (ev_var rfl) ev_int) ?_
      exact hN (nextName z t, t + 1) ⟨next_sh h1 t6, by show t + 1 ≤ _; omega, .inr ⟨t, rfl, next_tail z t⟩, fun s hs => all s (by have : s + 1 < t + 1 := hs; omega)⟩ (by show zs.length + 1 - (t + 1) < zs.length + 1 - t; omega)
  · rintro ⟨z, t⟩ ⟨h1, _, _, _⟩ hin
    dsimp only at h1 hin ⊢
    have hm : z ∉ zs := of_decide_eq_false hin
    refine go_app (k := 0) (d := .str z) (ds := zs.map .str) (ev_var rfl) (ev_var rfl) ⟨0, _, rfl⟩ rfl (by rw [List.length_map]; omega) ?_
    have e : zs.map PyData.str ++ [.str z] = (zs ++ [z]).map .str := by simp
    rw [e]
    exact (k z hm h1).weak (by walk_at "sle") (List.Sublist.refl _)
def fourAt (i : Int) : Nat := ("a0.z" : Str).cps.toList.getD i.toNat 0
theorem four_at {i : Int} (h0 : 0 ≤ i) (h1 : i < 4) : atI ("a0.z" : Str).cps.toList i = some (fourAt i) := by
  have cs : i = 0 ∨ i = 1 ∨ i = 2 ∨ i = 3 := by omega
  rcases cs with rfl | rfl | rfl | rfl <;> decide +kernel
theorem four_sh {l : Str} (h : Sh l) {i : Int} (h0 : 0 ≤ i) (h1 : i < 4) : Sh (cutS (l ++ ⟨#[fourAt i]⟩) none (some 20)) := ⟨cut_le _ 20, fun c hc => by
  have hc := mem_cut hc
  rw [app_cps, List.mem_append] at hc
  rcases hc with hc | hc
  · exact h.ok c hc
  · have e : c = fourAt i := by simpa using hc
    have cs : i = 0 ∨ i = 1 ∨ i = 2 ∨ i = 3 := by omega
    rw [e]
    rcases cs with rfl | rfl | rfl | rfl <;> decide +kernel⟩
theorem last_at {zs : List Str} {l : Str} (h : zs.getLast? = some l) : atI (zs.map PyData.str) (-1) = some (.str l) := by
  have ne : zs ≠ [] := fun e => by rw [e] at h; cases h
  have lp : 0 < zs.length := List.length_pos_iff.mpr ne
  rw [List.getLast?_eq_getElem?] at h
  unfold atI ixN
  rw [if_neg (by decide), List.length_map, if_pos (by omega), Option.bind_some, List.getElem?_map]
  have : (-1 + (zs.length : Int)).toNat = zs.length - 1 := by omega
  rw [show ((-1 : Int) + (zs.length : Int)).toNat = zs.length - 1 from this, h]
  rfl
theorem walk_names {n k : Nat} {a : Addr} {many : Int} (hk : D0[k]? = some (a, OWl K n)) (hn : n ≤ 2 ^ 37) (m1 : 1 ≤ many) (m6 : many ≤ 6) (po : GoV E.rt F0 (Ty.ex (fun zs : List Str => DLs K (zs.map .str)) (NamesOk many)) (D0.set k (a, OWl K (n + 200)))) : Go (t__law_names K X E) F0 [some (Is (.ref a)), some (DI K many), none, none, none] D0 := by
  have h37 : (2 : Nat) ^ 37 = 137438953472 := by decide
  have h38 : (2 : Nat) ^ 38 = 274877906944 := by decide
  have h40 : (2 : Nat) ^ 40 = 1099511627776 := by decide
  have hk2 : k < D0.length := (List.getElem?_eq_some_iff.mp hk).1
  refine go_seq (go_setN (evN_one (ev_name (k := k) (D := D0) (n := n) hk2 (ev_var rfl) (by rw [set_id hk]; exact ev_int) (by omega))) fun q => ?_)
  dsimp only
  refine go_openO (k := 0) rfl fun zs0 hz0 => ?_
  obtain ⟨z0, rfl, hz0⟩ := hz0
  refine go_shut (k := k + 1) (a := a) (O := OWl K (n + 22)) (O' := OWl K (n + 30 * 1)) ?_ (owl_up (by omega)) ?_
  · show (D0.set k (a, OWl K (n + 22)))[k]? = _
    exact set_lt hk2
  have ds : ((((q, OTy.ex (fun zs : List Str => OL K (zs.map .str)) (fun zs => ∃ z, zs = [z] ∧ Sh z)) :: D0.set k (a, OWl K (n + 22))).set 0 (q, OL K ([z0].map .str))).set (k + 1) (a, OWl K (n + 30 * 1))) = (q, OL K ([z0].map .str)) :: D0.set k (a, OWl K (n + 30 * 1)) := by
    show (q, OL K ([z0].map .str)) :: (D0.set k (a, OWl K (n + 22))).set k (a, OWl K (n + 30 * 1)) = _
    rw [List.set_set]
  rw [ds]
  refine go_seq (go_while (S := List Str) (fun zs => 1 ≤ zs.length ∧ (zs.length : Int) ≤ many ∧ zs.Nodup ∧ ∀ z ∈ zs, Sh z)
    (fun zs => [some (Is (.ref a)), some (DI K many), some (Is (.ref q)), none, none]) (fun zs => (q, OL K (zs.map .str)) :: D0.set k (a, OWl K (n + 30 * zs.length))) (fun zs => (many - zs.length).toNat) (fun zs => decide ((zs.length : Int) < many)) [z0]
    ⟨Nat.le_refl _, m1, by simp, fun z hz => by rw [List.mem_singleton] at hz; subst hz; exact hz0⟩ (by walk_at "sle") (List.Sublist.refl _) (fun zs _ => evT_test (ev_d (ev_lt (ev_lenO (k := 0) (ev_var rfl) rfl) (ev_var rfl)) (by rw [List.length_map]))) ?_ ?_)
  · rintro zs ⟨i1, i2, i3, i4⟩ hlt Nx hN
    have hlt' : (zs.length : Int) < many := of_decide_eq_true hlt
    have fin : ∀ (z : Str) (u : We), z ∉ zs → Sh z → u.ok (n + 30 * zs.length + 25) → Go Nx F0 [some (Is (.ref a)), some (DI K many), some (Is (.ref q)), none, none] ((q, OL K ((zs ++ [z]).map .str)) :: D0.set k (a, OL K u.d)) := fun z u h1 h2 h3 => by
      have l1 : (zs ++ [z]).length = zs.length + 1 := by simp
      refine go_shut (k := k + 1) (a := a) (O := OL K u.d) (O' := OWl K (n + 30 * (zs ++ [z]).length)) ?_ (owl_in (h3.up (by rw [l1]; omega))) ?_
      · show (D0.set k (a, OL K u.d))[k]? = _
        exact set_lt hk2
      · show Go Nx F0 _ ((q, OL K ((zs ++ [z]).map .str)) :: (D0.set k (a, OL K u.d)).set k (a, OWl K (n + 30 * (zs ++ [z]).length)))
        rw [List.set_set]
        refine hN (zs ++ [z]) ⟨by rw [l1]; omega, by rw [l1]; omega, ?_, fun y hy => ?_⟩ (by rw [l1]; omega)
        · rw [List.nodup_append]
          refine ⟨i3, by simp, fun x hx y hy e => ?_⟩
          rw [List.mem_singleton] at hy
          subst hy
          subst e
          exact h1 hx
        · rcases List.mem_append.mp hy with hy | hy
          · exact i4 y hy
          · rw [List.mem_singleton] at hy
            subst hy
            exact h2
    dsimp only
    refine go_seq (go_set (ev_name (n := n + 30 * zs.length) (k := k + 1) (D := (q, OL K (zs.map .str)) :: D0) (by simpa using hk2) (ev_var rfl) ev_int (by omega)) ?_)
    dsimp only
    refine go_open (i := 3) rfl fun z hz => ?_
    refine go_openW (K := K) (k := k + 1) (a := a) (n := n + 30 * zs.length + 22) ?_ fun w hw => ?_
    · show (D0.set k (a, OWl K (n + 30 * zs.length + 22)))[k]? = _
      exact set_lt hk2
    have w1 : (w.nx 3).ok (n + 30 * zs.length + 22 + 1) := We.nx_ok hw
    have v4 := We.val_ok (w := w.nx 3) (m := 4) (by decide)
    have dd : (((q, OL K (zs.map .str)) :: D0).set (k + 1) (a, OWl K (n + 30 * zs.length + 22))).set (k + 1) (a, OL K w.d) = (q, OL K (zs.map .str)) :: D0.set k (a, OL K w.d) := by
      show (q, OL K (zs.map .str)) :: (D0.set k (a, OWl K (n + 30 * zs.length + 22))).set k (a, OL K w.d) = _
      rw [List.set_set]
    rw [dd]
    dsimp only [List.set]
    refine go_seq (go_if (evT_test (eq_I (ev_take (k := k + 1) (D := (q, OL K (zs.map .str)) :: D0) _ (by simpa using hk2) (ev_var rfl) ev_int hw (by omega) (by decide) (small (by decide))) ev_int)) (fun _ => ?_) fun _ => go_next ?_)
    · obtain ⟨l, hl⟩ : ∃ l, zs.getLast? = some l := by
        cases zs with
        | nil => simp at i1
        | cons y ys => exact ⟨_, List.getLast?_cons⟩
      have lm : l ∈ zs := List.mem_of_getLast? hl
      have at_ : atI (zs.map PyData.str) (-1) = some (.str l) := last_at hl
      refine go_set (ev_slS (x := l ++ ⟨#[fourAt ((w.nx 3).val 4)]⟩) (ev_addS (ix_O (k := 0) (ev_var rfl) (ev_neg ev_int) rfl at_) (ix_S (x := "a0.z") ev_str (ev_take (k := k + 1) (D := (q, OL K (zs.map .str)) :: D0) (w := w.nx 3) _ (by simpa using hk2) (ev_var rfl) ev_int w1 (by omega) (by decide) (small (by decide))) (Nat.le_trans (by decide +kernel : ("a0.z" : Str).length ≤ 100000) sizeLine_big) (four_at v4.1 v4.2)) ?_) evO_none (evO_some (K := K) ev_int) ?_) ?_
      · have := (i4 l lm).len
        show l.length + 1 ≤ 100000
        omega
      · have := (i4 l lm).len
        have e : (l ++ (⟨#[fourAt ((w.nx 3).val 4)]⟩ : Str)).length = l.length + 1 := by
          show (l.cps ++ #[_]).size = _
          rw [Array.size_append]
          rfl
        rw [e]
        exact Nat.le_trans (by omega : l.length + 1 ≤ 100000) sizeLine_big
      · dsimp only
        refine walk_new (zs := zs) (D0 := D0.set k (a, OL K ((w.nx 3).nx 4).d)) (by omega) (four_sh (i4 l lm) v4.1 v4.2) fun z' h1 h2 => ?_
        exact fin z' _ h1 h2 ((We.nx_ok (m := 4) w1).up (by omega))
    · dsimp only
      refine walk_new (zs := zs) (D0 := D0.set k (a, OL K (w.nx 3).d)) (by omega) hz fun z' h1 h2 => ?_
      exact fin z' _ h1 h2 (w1.up (by omega))
  · rintro zs ⟨i1, i2, i3, i4⟩ hlt
    have hlt' : ¬ (zs.length : Int) < many := of_decide_eq_false hlt
    dsimp only
    refine go_freeze (k := 0) (i := 2) rfl rfl ?_
    refine go_ret (ev_ex (f := fun zs : List Str => DLs K (zs.map .str)) (p := NamesOk many) zs (ev_var rfl) ⟨by omega, i3, i4⟩) ?_
    refine GoV.reown (k := k) (a := a) (O' := OWl K (n + 200)) ?_ (set_lt hk2) (owl_up (by omega))
    show GoV E.rt F0 _ ((D0.set k (a, OWl K (n + 30 * zs.length))).set k (a, OWl K (n + 200)))
    rw [List.set_set]
    exact po
theorem pure__law_names (T : Txt K mg) (vs : List V) (H : Hp) (Q : VK) (X : XK) (h : sp__law_names K vs H Q X) : t__law_names K X { nx := fun _ H' => Q .non H', rt := Q } (L2.start N__law_names vs) H :=
  pure_ofM (fun x F D k a E hk hr _ hp po => by subst hr; exact walk_names hk hp.1 hp.2.1 hp.2.2 po) h
theorem len__law_names (K : PySem.W.Frag) : ∀ vs H Q E, sp__law_names K vs H Q E → vs.length = 2 := fspM_len fun _ => rfl

/-! ### _law_is_sum -/
theorem ev_isiT {ds : List PyData} (h : Ev te G D0 (D K (.tuple ds)) D1) : Ev (tCB (cIsi K) (tCons te (tCons (tC (.ty "tuple")) tNil))) G D0 (DB K true) D1 := ev_isi h (show kitB "tuple" "tuple" = some true by decide +kernel)
theorem ev_isiS {z : Str} (h : Ev te G D0 (DS K z) D1) : Ev (tCB (cIsi K) (tCons te (tCons (tC (.ty "str")) tNil))) G D0 (DB K true) D1 := ev_isi h (show kitB "str" "str" = some true by decide +kernel)
theorem ev_isq {a b : Rat} (ha : Ev ta G D0 (DQ K a) D1) (hb : Ev tb G D1 (DQ K b) D2) (h : a = b) : Ev (tCall (sp__law_is K) [] X (tCons ta (tCons tb tNil))) G D0 (DB K true) D2 := ev_d (ev_is ha hb) (by rw [decide_eq_true h])
theorem or_f {tt tu : TT} (h1 : EvT tt G D0 false D1) (h2 : EvT tu G D1 false D1) : EvT (tOr tt tu) G D0 false D1 := evT_or (a := false) (b := false) h1 fun _ => h2
theorem not_t (h : Ev te G D0 (DB K true) D1) : EvT (tNot (tB te)) G D0 false D1 := evT_b (evT_not (evT_B h)) rfl
theorem ne_i {i j : Int} (ha : Ev ta G D0 (DI K i) D1) (hb : Ev tb G D1 (DI K j) D2) (h : i = j) : EvT (tTest (tOp (qNe K) ta tb)) G D0 false D2 := evT_b (evT_test (ne_I ha hb)) (by rw [decide_eq_true h]; rfl)
theorem ne_s {i j : Str} (ha : Ev ta G D0 (DS K i) D1) (hb : Ev tb G D1 (DS K j) D2) (h : i = j) : EvT (tTest (tOp (qNe K) ta tb)) G D0 false D2 := evT_b (evT_test (ne_S ha hb)) (by subst h; simp)
theorem walk_is_sum {n : Rat} {rs : List (Str × Rat)} (hl : rs.length ≤ 1000) (k : GoV E.rt F0 (DB K true) D0) : Go (t__law_is_sum K X E) F0 [some (D K (sumD n rs)), some (D K (sumD n rs)), none, none] D0 := by
  have i0 : ∀ {G : Sto} {i : Nat}, G[i]? = some (some (D K (sumD n rs))) → Ev (tOp (rIx K) (tVar i) (tC (.int 0))) G D0 (DQ K n) D0 := fun h => ix_T (ev_var h) ev_int rfl
  have i1 : ∀ {G : Sto} {i : Nat}, G[i]? = some (some (D K (sumD n rs))) → Ev (tOp (rIx K) (tVar i) (tC (.int 1))) G D0 (D K (.tuple (rs.map pairD))) D0 := fun h => ix_T (ev_var h) ev_int rfl
  refine go_seq (go_if (b := false) (or_f (not_t (ev_isiT (ev_var rfl))) (or_f (ne_i (ev_lenT (ev_var rfl)) ev_int rfl) (not_t (ev_isiT (i1 rfl))))) (fun z => nomatch z) fun _ => go_next ?_)
  dsimp only
  refine go_seq (go_if (b := false) (or_f (not_t (ev_isq (i0 rfl) (i0 rfl) rfl)) (ne_i (ev_lenT (i1 rfl)) (ev_lenT (i1 rfl)) rfl)) (fun z => nomatch z) fun _ => go_next ?_)
  dsimp only
  refine go_seq (go_for (K := K) (S := Unit) (evIt_zipT (i1 rfl) (i1 rfl) rfl) (fun _ _ => True) (fun _ => [some (D K (sumD n rs)), some (D K (sumD n rs)), none, none]) (fun _ => D0) () trivial (by walk_at "sle") (List.Sublist.refl _) ?_ fun _ _ => go_ret ev_bl k)
  intro F1 s1 j _ d hd _
  obtain ⟨⟨a, b⟩, hz, rfl⟩ := map_get hd
  obtain ⟨e1, e2⟩ := List.getElem?_zip_eq_some.mp hz
  have eab : a = b := by
    rw [e1] at e2
    exact Option.some.inj e2
  subst eab
  obtain ⟨e, he, rfl⟩ := map_get e1
  refine ⟨_, evG_tup (evGs_cons evG_name (evGs_cons evG_name evGs_nil)) rfl, fun Nx hN => ?_⟩
  dsimp only
  have p0 : ∀ {G : Sto} {i : Nat}, G[i]? = some (some (D K (pairD e))) → Ev (tOp (rIx K) (tVar i) (tC (.int 0))) G D0 (DS K e.1) D0 := fun h => ix_T (ev_var h) ev_int rfl
  have p1 : ∀ {G : Sto} {i : Nat}, G[i]? = some (some (D K (pairD e))) → Ev (tOp (rIx K) (tVar i) (tC (.int 1))) G D0 (DQ K e.2) D0 := fun h => ix_T (ev_var h) ev_int rfl
  refine go_seq (go_if (b := false) (or_f (not_t (ev_isiT (ev_var rfl))) (or_f (ne_i (ev_lenT (ev_var rfl)) ev_int rfl) (not_t (ev_isiS (p0 rfl))))) (fun z => nomatch z) fun _ => go_next ?_)
  dsimp only
  refine go_if (b := false) (or_f (ne_s (p0 rfl) (p0 rfl) rfl) (not_t (ev_isq (p1 rfl) (p1 rfl) rfl))) (fun z => nomatch z) fun _ => go_next ?_
  exact (hN () trivial).weak (by walk_at "sle") (List.Sublist.refl _)
theorem pure__law_is_sum (T : Txt K mg) (vs : List V) (H : Hp) (Q : VK) (X : XK) (h : sp__law_is_sum K vs H Q X) : t__law_is_sum K X { nx := fun _ H' => Q .non H', rt := Q } (L2.start N__law_is_sum vs) H :=
  pure_of (fun x F D E hr _ hp po => by subst hr; exact walk_is_sum hp po) h
theorem len__law_is_sum (K : PySem.W.Frag) : ∀ vs H Q E, sp__law_is_sum K vs H Q E → vs.length = 2 := fsp_len fun _ => rfl
theorem ev_is_sum {n : Rat} {rs : List (Str × Rat)} (ha : Ev ta G D0 (D K (sumD n rs)) D1) (hb : Ev tb G D1 (D K (sumD n rs)) D2) (hl : rs.length ≤ 1000) : Ev (tCall (sp__law_is_sum K) [] X (tCons ta (tCons tb tNil))) G D0 (DB K true) D2 :=
  ev_call0 (args := fun x : Rat × List (Str × Rat) => [D K (sumD x.1 x.2), D K (sumD x.1 x.2)]) (n, rs) (evA_cons ha (evA_cons hb evA_nil)) hl rfl

/-! ### _law_pairs -/
theorem ev_names {n k : Nat} {a : Addr} {many : Int} {D : Own} (hk : k < D.length) (ha : Ev ta G D0 (Is (.ref a)) D1) (hb : Ev tb G D1 (DI K many) (D.set k (a, OWl K n))) (hn : n ≤ 2 ^ 37) (m1 : 1 ≤ many) (m6 : many ≤ 6) : Ev (tCall (sp__law_names K) [] X (tCons ta (tCons tb tNil))) G D0 (Ty.ex (fun zs : List Str => DLs K (zs.map .str)) (NamesOk many)) (D.set k (a, OWl K (n + 200))) := by
  have h := ev_callM (X := X) (O := fun x : Nat × Int => OWl K x.1) (O1 := fun x => OWl K (x.1 + 200)) (args := fun x => [DI K x.2]) (pre := fun x => x.1 ≤ 2 ^ 37 ∧ 1 ≤ x.2 ∧ x.2 ≤ 6) (out := fun x => .ok (Ty.ex (fun zs : List Str => DLs K (zs.map .str)) (NamesOk x.2))) (k := k) (a := a) (n, many)
    (evA_cons ha (evA_cons hb evA_nil)) (set_lt hk) ⟨hn, m1, m6⟩ rfl
  rw [List.set_set] at h
  exact h
theorem walk_add {ps : List (Str × Rat)} {z : Str} {r : Rat} {q : Addr} {g0 g1 g3 : Option Ty} (hl : ps.length ≤ 100)
    (k : Go E.nx F0 [g0, g1, some (Is (.ref q)), none, none, none] ((q, OL K ((ps ++ [(z, r)]).map pairD)) :: D0)) :
    Go (tDrop (tBM K "list" rAppend (tVar 2) (tCons (tTup (tCons (tVar 4) (tCons (tVar 5) tNil))) tNil)) E) F0 [g0, g1, some (Is (.ref q)), g3, some (DS K z), some (DQ K r)] ((q, OL K (ps.map pairD)) :: D0) := by
  refine go_app (k := 0) (d := pairD (z, r)) (ds := ps.map pairD) (ev_var rfl) (ev_tup (ds := [.str z, qT r]) (evD_cons (ev_var rfl) (evD_cons (ev_var rfl) evD_nil)) (by simp)) ⟨0, _, rfl⟩ rfl (by rw [List.length_map]; omega) ?_
  have e : ps.map pairD ++ [pairD (z, r)] = (ps ++ [(z, r)]).map pairD := by simp
  rw [e]
  exact k.weak (by walk_at "sle") (List.Sublist.refl _)
theorem bd_sign {r s : Rat} (h : Nu.Bd 60 r) (hs : s = 1 ∨ s = -1) : Nu.Bd 60 (r * s) := by
  rcases hs with rfl | rfl
  · have e : r * 1 = r := by grind
    rw [e]
    exact h
  · have e : r * -1 = -r := by grind
    rw [e]
    refine ⟨?_, ?_⟩
    · rw [Rat.neg_num, Int.natAbs_neg]
      exact h.1
    · rw [Rat.neg_den]
      exact h.2
theorem walk_pairs {n k : Nat} {a : Addr} (hk : D0[k]? = some (a, OWl K n)) (hn : n ≤ 2 ^ 36) (po : GoV E.rt F0 (Ty.ex (fun ps : List (Str × Rat) => DLs K (ps.map pairD)) PairsOk) (D0.set k (a, OWl K (n + 1000)))) : Go (t__law_pairs K X E) F0 [some (Is (.ref a)), none, none, none, none, none] D0 := by
  have h36 : (2 : Nat) ^ 36 = 68719476736 := by decide
  have h37 : (2 : Nat) ^ 37 = 137438953472 := by decide
  have h39 : (2 : Nat) ^ 39 = 549755813888 := by decide
  have h62 : (2 : Nat) ^ 62 = 4611686018427387904 := by decide
  have h40 : (2 : Nat) ^ 40 = 1099511627776 := by decide
  have hk2 : k < D0.length := (List.getElem?_eq_some_iff.mp hk).1
  refine go_openW hk fun w hw => ?_
  have v6 := We.val_ok (w := w) (m := 6) (by decide)
  have w6 : (w.nx 6).ok (n + 1) := We.nx_ok hw
  have c1 := ev_shut (O := OL K (w.nx 6).d) (O' := OWl K (n + 1)) (k := k) (a := a) (ev_take (K := K) (X := X) (G := [some (Is (.ref a)), none, none, none, none, none]) (k := k) (D := D0) n hk2 (ev_var (i := 0) rfl) (ev_int (i := 6)) hw (by omega) (by decide) (small (by decide))) (set_lt hk2) (owl_in w6)
  rw [List.set_set] at c1
  refine go_seq (go_set (ev_names (k := k) (D := D0) (n := n + 1) hk2 (ev_var rfl) (ev_add ev_int c1) (by omega) (by omega) (by omega)) ?_)
  dsimp only
  refine go_open (i := 1) rfl fun zs hz => ?_
  dsimp only [List.set]
  refine go_seq (go_setN (evN_lst (K := K) evD_nil (by simp)) fun q => ?_)
  dsimp only [List.set]
  refine go_openW (K := K) (k := k + 1) (a := a) (n := n + 1 + 200) (set_lt hk2) fun u hu => ?_
  have d1 : ((q, OL K []) :: D0.set k (a, OWl K (n + 1 + 200))).set (k + 1) (a, OL K u.d) = (q, OL K []) :: D0.set k (a, OL K u.d) := by
    show (q, OL K []) :: (D0.set k (a, OWl K (n + 1 + 200))).set k (a, OL K u.d) = _
    rw [List.set_set]
  rw [d1]
  have v13 := We.val_ok (w := u) (m := 13) (by decide)
  have u13 : (u.nx 13).ok (n + 1 + 200 + 1) := We.nx_ok hu
  have c2 := ev_shut (O := OL K (u.nx 13).d) (O' := OWl K (n + 300 + 20 * 0)) (k := k + 1) (a := a) (ev_take (K := K) (X := X) (G := [some (Is (.ref a)), some (DLs K (zs.map .str)), some (Is (.ref q)), none, none, none]) (k := k + 1) (D := (q, OL K []) :: D0) (n + 1 + 200) (by simpa using hk2) (ev_var (i := 0) rfl) (ev_int (i := 13)) hu (by omega) (by decide) (small (by decide))) (set_lt (D := D0) hk2) (owl_in (u13.up (by omega)))
  have d2 : (((q, OL K []) :: D0).set (k + 1) (a, OL K (u.nx 13).d)).set (k + 1) (a, OWl K (n + 300 + 20 * 0)) = (q, OL K []) :: D0.set k (a, OWl K (n + 300 + 20 * 0)) := by
    show (q, OL K []) :: (D0.set k (a, OL K (u.nx 13).d)).set k (a, OWl K (n + 300 + 20 * 0)) = _
    rw [List.set_set]
  rw [d2] at c2
  refine go_seq (go_for (K := K) (S := List (Str × Rat)) (evIt_rng1 c2 ⟨by omega, by omega⟩) (fun j ps => ps.length = j ∧ (∀ e ∈ ps, Nu.Bd 60 e.2) ∧ ∀ e ∈ ps, Sh e.1)
    (fun _ => [some (Is (.ref a)), some (DLs K (zs.map .str)), some (Is (.ref q)), none, none, none]) (fun ps => (q, OL K (ps.map pairD)) :: D0.set k (a, OWl K (n + 300 + 20 * ps.length))) []
    ⟨rfl, fun _ h => absurd h List.not_mem_nil, fun _ h => absurd h List.not_mem_nil⟩ (SLe.refl _) (List.Sublist.refl _) ?_ ?_)
  · rintro F1 s1 j ps d hd ⟨i1, i2, i3⟩
    have hj := (rangeD_get hd).1
    refine ⟨_, evG_name, fun Nx hN => ?_⟩
    have fin : ∀ (z : Str) (r : Rat) (x : We), Sh z → Nu.Bd 60 r → x.ok (n + 300 + 20 * ps.length + 10) → Go Nx F1 [some (Is (.ref a)), some (DLs K (zs.map .str)), some (Is (.ref q)), none, none, none] ((q, OL K ((ps ++ [(z, r)]).map pairD)) :: D0.set k (a, OL K x.d)) := fun z r x h1 h2 h3 => by
      have l1 : (ps ++ [(z, r)]).length = ps.length + 1 := by simp
      refine go_shut (k := k + 1) (a := a) (O := OL K x.d) (O' := OWl K (n + 300 + 20 * (ps ++ [(z, r)]).length)) (set_lt hk2) (owl_in (h3.up (by rw [l1]; omega))) ?_
      show Go Nx F1 _ ((q, OL K ((ps ++ [(z, r)]).map pairD)) :: (D0.set k (a, OL K x.d)).set k (a, OWl K (n + 300 + 20 * (ps ++ [(z, r)]).length)))
      rw [List.set_set]
      refine hN (ps ++ [(z, r)]) ⟨by rw [l1, i1], fun e he => ?_, fun e he => ?_⟩
      · rcases List.mem_append.mp he with he | he
        · exact i2 e he
        · rw [List.mem_singleton] at he
          subst he
          exact h2
      · rcases List.mem_append.mp he with he | he
        · exact i3 e he
        · rw [List.mem_singleton] at he
          subst he
          exact h1
    dsimp only [List.set]
    refine go_openW (K := K) (k := k + 1) (a := a) (n := n + 300 + 20 * ps.length) (set_lt hk2) fun x hx => ?_
    have d3 : ((q, OL K (ps.map pairD)) :: D0.set k (a, OWl K (n + 300 + 20 * ps.length))).set (k + 1) (a, OL K x.d) = (q, OL K (ps.map pairD)) :: D0.set k (a, OL K x.d) := by
      show (q, OL K (ps.map pairD)) :: (D0.set k (a, OWl K (n + 300 + 20 * ps.length))).set k (a, OL K x.d) = _
      rw [List.set_set]
    rw [d3]
    have zl : 0 < zs.length := by have := hz.len; omega
    have zl6 : (zs.length : Int) ≤ 6 := by have := hz.len; omega
    have p20 : ps.length ≤ 12 := by omega
    have vz := We.val_ok (w := x) (m := ((zs.map PyData.str).length : Int)) (by rw [List.length_map]; omega)
    obtain ⟨z, mz, az⟩ := str_at (zs := zs) vz.1 (by have := vz.2; rw [List.length_map] at this ⊢; exact this)
    have x1 : (x.nx ((zs.map PyData.str).length : Int)).ok (n + 300 + 20 * ps.length + 1) := We.nx_ok hx
    have hk3 : k + 1 < ((q, OL K (ps.map pairD)) :: D0).length := by simpa using hk2
    refine go_seq (go_set (ix_L (ev_dls (ev_var rfl)) (ev_take (k := k + 1) (D := (q, OL K (ps.map pairD)) :: D0) _ hk3 (ev_var rfl) (ev_lenL (ev_dls (ev_var rfl))) hx (by omega) (by rw [List.length_map]; omega) (small (by rw [List.length_map]; omega))) az) ?_)
    dsimp only
    generalize x.nx ((zs.map PyData.str).length : Int) = y at *
    refine go_seq (go_set (ev_number (k := k + 1) (D := (q, OL K (ps.map pairD)) :: D0) _ hk3 (ev_var rfl) x1 (by omega)) ?_)
    dsimp only [List.set]
    have b1 := numR_bd y
    have y1 := numW_ok x1
    generalize numR y = r at *
    generalize numW y = v at *
    have v1 : (v.nx 4).ok (n + 300 + 20 * ps.length + 1 + 3 + 1) := We.nx_ok y1
    have sp := shaped_pairs i3
    refine go_seq (go_if (evT_and (evT_test (eq_I (ev_take (k := k + 1) (D := (q, OL K (ps.map pairD)) :: D0) _ hk3 (ev_var rfl) ev_int y1 (by omega) (by decide) (small (by decide))) ev_int)) fun _ => evT_test (ne_DO (k := 0) (e := .list []) (ev_var rfl) (ev_lst (ds := []) evD_nil (by simp)) rfl sp rfl)) (fun hyes => ?_) fun _ => go_next ?_)
    · have ne : 0 < ps.length := by
        rcases ps with _ | ⟨e, ps⟩
        · simp [PyData.eqv, PyData.eqvAll] at hyes
        · simp
      have ve := We.val_ok (w := v.nx 4) (m := ((ps.map pairD).length : Int)) (by rw [List.length_map]; omega)
      obtain ⟨e, me, ae⟩ := pair_at (ps := ps) ve.1 (by have := ve.2; rw [List.length_map] at this ⊢; exact this)
      have v2 : ((v.nx 4).nx ((ps.map pairD).length : Int)).ok (n + 300 + 20 * ps.length + 1 + 3 + 1 + 1) := We.nx_ok v1
      refine go_seq (go_asg (ix_O (k := 0) (ev_var rfl) (ev_take (k := k + 1) (D := (q, OL K (ps.map pairD)) :: D0) (w := v.nx 4) _ hk3 (ev_var rfl) (ev_lenO (k := 0) (ev_var rfl) rfl) v1 (by omega) (by rw [List.length_map]; omega) (small (by rw [List.length_map]; omega))) rfl ae) evG_pair ?_)
      dsimp only [List.set]
      generalize (v.nx 4).nx ((ps.map pairD).length : Int) = t at *
      have t1 : (t.nx 3).ok (n + 300 + 20 * ps.length + 1 + 3 + 1 + 1 + 1) := We.nx_ok v2
      obtain ⟨s, hs, as⟩ : ∃ s : Rat, (s = 1 ∨ s = -1) ∧ atI [qT (-1), qT 1] (if (decide (t.val 3 = 0)) = true then 1 else 0) = some (qT s) := by
        by_cases q : t.val 3 = 0
        · exact ⟨1, .inl rfl, by rw [if_pos (decide_eq_true q)]; rfl⟩
        · exact ⟨-1, .inr rfl, by rw [if_neg (by simpa using q)]; rfl⟩
      have b2 : Nu.Bd 60 (e.2 * s) := bd_sign (i2 e me) hs
      have bs : Nu.Bd 3000 s := by
        rcases hs with rfl | rfl
        · exact Nu.Bd.mono (n := 2) ⟨by decide, by decide⟩ (by decide)
        · exact bd_neg1.mono (by decide)
      refine go_set (ev_lmul (a := e.2) (b := s) (ev_var rfl) (ix_L (ev_lst (ds := [qT (-1), qT 1]) (evD_cons (ev_pair (-1) (ev_neg ev_int) ev_int rfl rfl) (evD_cons (ev_pair 1 ev_int ev_int rfl rfl) evD_nil)) (by simp)) (ev_intB (eq_I (ev_take (k := k + 1) (D := (q, OL K (ps.map pairD)) :: D0) _ hk3 (ev_var rfl) ev_int v2 (by omega) (by decide) (small (by decide))) ev_int)) as) ((i2 e me).mono (by decide)) bs) ?_
      dsimp only [List.set]
      exact walk_add (D0 := D0.set k (a, OL K (t.nx 3).d)) (by omega) (fin e.1 (e.2 * s) (t.nx 3) (i3 e me) b2 (t1.up (by omega)))
    · dsimp only
      exact walk_add (D0 := D0.set k (a, OL K (v.nx 4).d)) (by omega) (fin z r (v.nx 4) (hz.short z mz) b1 (v1.up (by omega)))
  · rintro ps ⟨i1, i2, i3⟩
    rw [rangeD_len] at i1
    dsimp only
    refine go_freeze (k := 0) (i := 2) rfl rfl ?_
    refine go_ret (ev_ex (f := fun ps : List (Str × Rat) => DLs K (ps.map pairD)) (p := PairsOk) ps (ev_var rfl) ⟨by omega, i2, i3⟩) ?_
    refine GoV.reown (k := k) (a := a) (O' := OWl K (n + 1000)) ?_ (set_lt hk2) (owl_up (by omega))
    show GoV E.rt F0 _ ((D0.set k (a, OWl K (n + 300 + 20 * ps.length))).set k (a, OWl K (n + 1000)))
    rw [List.set_set]
    exact po
theorem pure__law_pairs (T : Txt K mg) (vs : List V) (H : Hp) (Q : VK) (X : XK) (h : sp__law_pairs K vs H Q X) : t__law_pairs K X { nx := fun _ H' => Q .non H', rt := Q } (L2.start N__law_pairs vs) H :=
  pure_ofM (fun n F D k a E hk hr _ hp po => by subst hr; exact walk_pairs hk hp po) h
theorem len__law_pairs (K : PySem.W.Frag) : ∀ vs H Q E, sp__law_pairs K vs H Q E → vs.length = 1 := fspM_len fun _ => rfl
end
end K04

set_option Elab.async false
set_option linter.all false
set_option maxRecDepth 100000
set_option maxHeartbeats 4000000
open PySem PySem.Spec L2 TL
/-! ## small steps of the walk, by their names -/
local macro_rules | `(tactic| walk_at "side") => `(tactic| first | assumption | rfl | decide | omega)
local macro_rules | `(tactic| walk_at "evL") => `(tactic| fail)
local macro_rules | `(tactic| walk_at "ev") => `(tactic| first
  | exact ev_int | exact ev_bl | exact ev_str | exact ev_non | exact ev_var rfl
  | walk_at "evL"
  | (refine ev_add ?_ ?_; walk_at "ev"; walk_at "ev")
  | (refine ev_sub ?_ ?_; walk_at "ev"; walk_at "ev")
  | (refine ev_mul ?_ ?_ ?_; walk_at "ev"; walk_at "ev"; walk_at "side")
  | (refine ev_mod ?_ ?_ ?_; walk_at "ev"; walk_at "ev"; walk_at "side")
  | (refine ev_div ?_ ?_ ?_; walk_at "ev"; walk_at "ev"; walk_at "side")
  | (refine ev_pow ?_ ?_ ?_; walk_at "ev"; walk_at "ev"; walk_at "side")
  | (refine ev_neg ?_; walk_at "ev")
  | (refine ev_lt ?_ ?_; walk_at "ev"; walk_at "ev")
  | (refine ev_le ?_ ?_; walk_at "ev"; walk_at "ev")
  | (refine ev_gt ?_ ?_; walk_at "ev"; walk_at "ev")
  | (refine ev_ge ?_ ?_; walk_at "ev"; walk_at "ev")
  | (refine eq_I ?_ ?_; walk_at "ev"; walk_at "ev")
  | (refine ne_I ?_ ?_; walk_at "ev"; walk_at "ev")
  | (refine eq_S ?_ ?_; walk_at "ev"; walk_at "ev")
  | (refine ne_S ?_ ?_; walk_at "ev"; walk_at "ev")
  | (refine eq_B ?_ ?_; walk_at "ev"; walk_at "ev")
  | (refine ix_T ?_ ?_ ?_; walk_at "ev"; walk_at "ev"; walk_at "side")
  | (refine ix_L ?_ ?_ ?_; walk_at "ev"; walk_at "ev"; walk_at "side")
  | (refine ev_tup ?_ ?_; walk_at "evD"; walk_at "side")
  | (refine ev_lst ?_ ?_; walk_at "evD"; walk_at "side")
  | (refine ev_abs ?_; walk_at "ev")
  | (refine ev_max2 ?_ ?_; walk_at "ev"; walk_at "ev")
  | (refine ev_min2 ?_ ?_; walk_at "ev"; walk_at "ev")
  | (refine ev_intB ?_; walk_at "ev")
  | (refine ev_lenT ?_; walk_at "ev")
  | (refine ev_lenL ?_; walk_at "ev")
  | (refine ev_notV ?_; walk_at "ev"))
local macro_rules | `(tactic| walk_at "evD") => `(tactic| first
  | exact evD_nil
  | (refine evD_cons ?_ ?_; walk_at "ev"; walk_at "evD"))
local macro_rules | `(tactic| walk_at "evA") => `(tactic| first
  | exact evA_nil
  | (refine evA_cons ?_ ?_; walk_at "ev"; walk_at "evA"))
local macro_rules | `(tactic| walk_at "evT") => `(tactic| first
  | (refine evT_test ?_; walk_at "ev")
  | (refine evT_B ?_; walk_at "ev")
  | (refine evT_not ?_; walk_at "evT"))
local macro_rules | `(tactic| walk_at "sle") => `(tactic| repeat' first | exact SLe.nil | refine SLe.keep ?_ | refine SLe.drop ?_)
namespace K04
section
variable {K : PySem.W.Frag} {mg : Str → Option Value} {G : Sto} {D0 D1 D2 : Own} {te ta tb : TE} {F0 : Hp} {E : Ends} {X : XK} {n : String}
/-! ### _law_due -/
theorem evIt_sortedL {m : List (Str × PyData)} {ps : List (Str × Rat)} {k : Nat} {a : Addr} {i : Nat} (hm : TabOf m ps) (hl : m.length < 64) (hi : G[i]? = some (some (Is (.ref a)))) (hk : D0[k]? = some (a, OD K m)) : EvIt K (iSeq K (tCB (qSort K) (tCons (tCB (cLst K) (tCons (tVar i) tNil)) tNil))) G D0 ((inOrder (ps.map (·.1))).map .str) D0 :=
  evIt_seqL (ev_imp (ev_sortL (ev_dls (ev_lstD (ev_var hi) hk)) (by rw [List.length_map]; exact hl)) fun v F r => by
    obtain ⟨ds, h1, h2⟩ := r
    rw [← sort_is h1 hm.nd hm.mem]
    exact dls_d _ _ h2)
theorem walk_due {x : SuT} (hx : x.ok) (k : GoV E.rt F0 (D K (sumD x.n (res x.ps))) D0) : Go (t__law_due K X E) F0 [some (DQ K x.n), some (D K x.d), none, none, none] D0 := by
  refine go_seq (go_setN (evN_dnew (K := K)) fun p => ?_)
  dsimp only
  refine go_seq (go_for (K := K) (S := List (Str × PyData)) (evIt_seqX (ev_var rfl)) (fun j m => TabOf m (x.ps.take j)) (fun _ => [some (DQ K x.n), some (D K x.d), some (Is (.ref p)), none, none]) (fun m => (p, OD K m) :: D0) [] TabOf.nil (by walk_at "sle") (List.Sublist.refl _) ?_ ?_)
  · intro F1 s1 j m d hd hm
    obtain ⟨e, he, rfl⟩ := map_get hd
    refine ⟨_, evG_pair, fun Nx hN => ?_⟩
    dsimp only
    have hb : Nu.Bd 3000 (tot (x.ps.take j) e.1) := by
      refine (tot_bd (b := x.b) fun f hf => hx.bd f (List.mem_of_mem_take hf)).mono (Nat.le_trans ?_ (hx.size e.1))
      have := cnt_take e.1 j x.ps
      have := Nat.mul_le_mul_left (x.b + 1) this
      omega
    have he2 : Nu.Bd 3000 e.2 := (hx.bd e (List.mem_of_getElem? he)).mono hx.b
    refine go_dput (k := 0) (m := m) (d := qT (tot (x.ps.take j) e.1 + e.2)) (ev_ladd (ev_d (ev_dgetD (k := 0) (k1 := 0) (m := m) (m1 := m) (ev_var rfl) rfl (ev_var rfl) (ev_pair 0 ev_int ev_int rfl rfl) rfl) (hm.look e.1)) (ev_var rfl) hb he2) (ev_var rfl) (ev_var rfl) rfl ?_ ?_
    · have h1 := hm.len
      have h2 := hx.len
      rw [List.length_take] at h1
      omega
    · refine (hN (putM m e.1 (qT (tot (x.ps.take j) e.1 + e.2))) ?_).weak (by walk_at "sle") (List.Sublist.refl _)
      rw [take_succ' he]
      exact hm.put e.1 e.2
  · intro m hm
    rw [List.length_map, List.take_length] at hm
    have hl : m.length < 64 := by
      have := hm.len
      have := hx.len
      omega
    have h100 : (inOrder (x.ps.map (·.1))).length ≤ 100000 := by
      have h1 := inOrder_len (x.ps.map (·.1))
      have h2 := hx.len
      rw [List.length_map] at h1
      omega
    refine go_ret (ev_tup (ds := [qT x.n, .tuple ((res x.ps).map pairD)]) (evD_cons (ev_var rfl) (evD_cons (ev_tupN (ev_tabs (i := 2) (j := 3) hm h100 rfl (by decide) (by simp) (evIt_sortedL (k := 0) hm hl rfl rfl) fun _ _ => ev_pair 0 ev_int ev_int rfl rfl)) evD_nil)) (by simp)) (k.drop (List.sublist_cons_self _ _))
theorem pure__law_due (T : Txt K mg) (vs : List V) (H : Hp) (Q : VK) (X : XK) (h : sp__law_due K vs H Q X) : t__law_due K X { nx := fun _ H' => Q .non H', rt := Q } (L2.start N__law_due vs) H :=
  pure_of (fun x F D E hr _ hp po => by subst hr; exact walk_due hp po) h
theorem len__law_due (K : PySem.W.Frag) : ∀ vs H Q E, sp__law_due K vs H Q E → vs.length = 2 := fsp_len fun _ => rfl

/-! ### law -/
theorem ev_d2 {ds es : List PyData} (h : Ev te G D0 (DLs K ds) D1) (q : ds = es) : Ev te G D0 (DLs K es) D1 := q ▸ h
theorem ev_pairs {n k : Nat} {a : Addr} {D : Own} (hk : k < D.length) (ha : Ev ta G D0 (Is (.ref a)) (D.set k (a, OWl K n))) (hn : n ≤ 2 ^ 36) : Ev (tCall (sp__law_pairs K) [] X (tCons ta tNil)) G D0 (Ty.ex (fun ps : List (Str × Rat) => DLs K (ps.map pairD)) PairsOk) (D.set k (a, OWl K (n + 1000))) := by
  have h := ev_callM (X := X) (O := fun n : Nat => OWl K n) (O1 := fun n => OWl K (n + 1000)) (args := fun _ => []) (pre := fun n => n ≤ 2 ^ 36) (out := fun _ => .ok (Ty.ex (fun ps : List (Str × Rat) => DLs K (ps.map pairD)) PairsOk)) (k := k) (a := a) n
    (evA_cons ha evA_nil) (set_lt hk) hn rfl
  rw [List.set_set] at h
  exact h
theorem ev_due {x : SuT} (ha : Ev ta G D0 (DQ K x.n) D1) (hb : Ev tb G D1 (D K x.d) D2) (hx : x.ok) : Ev (tCall (sp__law_due K) [] X (tCons ta (tCons tb tNil))) G D0 (D K (sumD x.n (res x.ps))) D2 :=
  ev_call0 (args := fun x : SuT => [DQ K x.n, D K x.d]) x (evA_cons ha (evA_cons hb evA_nil)) hx rfl
theorem ev_sum_of {x : SuT} (ha : Ev ta G D0 (DQ K x.n) D1) (hb : Ev tb G D1 (D K x.d) D2) (hx : x.ok) : Ev (tCall (sp_sum_of K) [] X (tCons ta (tCons tb tNil))) G D0 (D K (sumD x.n (res x.ps))) D2 :=
  ev_call0 (args := fun x : SuT => [DQ K x.n, D K x.d]) x (evA_cons ha (evA_cons hb evA_nil)) hx rfl
theorem ok_pairs {ps : List (Str × Rat)} (t : Bool) (n : Rat) (h : PairsOk ps) : (SuT.mk t n ps 60).ok := ⟨h.bd, fun k => by
  have := cnt_le k ps
  have := h.len
  show 1 + (60 + 1) * cnt ps k ≤ 3000
  omega, by show 60 ≤ 3000; decide, by show ps.length ≤ 60; have := h.len; omega⟩
theorem PairsOk.rev {ps : List (Str × Rat)} (h : PairsOk ps) : PairsOk ps.reverse := ⟨by rw [List.length_reverse]; exact h.len, fun e m => h.bd e (List.mem_reverse.mp m), fun e m => h.short e (List.mem_reverse.mp m)⟩
theorem ok_res {ps : List (Str × Rat)} (t : Bool) (n : Rat) (h : PairsOk ps) : (SuT.mk t n (res ps) 733).ok := ⟨res_bd (n := 733) h.bd fun k => by
  have := cnt_le k ps
  have := h.len
  omega, fun k => by
  have := cnt_one (k := k) (rise_nodup (res_rise ps))
  show 1 + (733 + 1) * cnt (res ps) k ≤ 3000
  omega, by show 733 ≤ 3000; decide, by
  have := res_len ps
  have := h.len
  show (res ps).length ≤ 60
  omega⟩
theorem res_l {ps : List (Str × Rat)} (h : PairsOk ps) : (res ps).length ≤ 1000 := by
  have := res_len ps
  have := h.len
  omega
theorem ok_none (n : Rat) : (SuT.mk false n [] 0).ok := ⟨fun _ m => absurd m List.not_mem_nil, fun k => by show 1 + (0 + 1) * 0 ≤ 3000; decide, by show 0 ≤ 3000; decide, by show 0 ≤ 60; decide⟩
theorem walk_law {ns : List Int} (hl : ns.length ≤ 63) (k : GoV E.rt F0 (DB K true) D0) : Go (t_law K X E) F0 [some (D K (.list (ns.map .int))), none, none, none, none, none, none, none] D0 := by
  have hn : -(2 ^ 62) ≤ (if (if (30 : Int) < ((ns.map PyData.int).length : Int) then (30 : Int) else ((ns.map PyData.int).length : Int)) > 1 then (if (30 : Int) < ((ns.map PyData.int).length : Int) then (30 : Int) else ((ns.map PyData.int).length : Int)) else 1) ∧ (if (if (30 : Int) < ((ns.map PyData.int).length : Int) then (30 : Int) else ((ns.map PyData.int).length : Int)) > 1 then (if (30 : Int) < ((ns.map PyData.int).length : Int) then (30 : Int) else ((ns.map PyData.int).length : Int)) else 1) ≤ 30 := by
    rw [List.length_map]
    split <;> split <;> omega
  refine go_seq (go_for (K := K) (S := Unit) (evIt_rng1 (ev_max2 ev_int (ev_min2 (ev_lenL (ev_var rfl)) ev_int)) ⟨hn.1, by have := hn.2; omega⟩) (fun _ _ => True) (fun _ => [some (D K (.list (ns.map .int))), none, none, none, none, none, none, none]) (fun _ => D0) () trivial (SLe.refl _) (List.Sublist.refl _) ?_ ?_)
  · intro F1 s1 j s d hd _
    obtain ⟨hj, rfl⟩ := rangeD_get hd
    refine ⟨_, evG_name, fun Nx hN => ?_⟩
    have i0 : (0 : Int) ≤ 0 + (j : Int) := by omega
    have i1 : (0 : Int) + (j : Int) ≤ 30 := by have := hn.2; omega
    generalize (0 : Int) + (j : Int) = i at *
    have w0 : (well ns i).ok 1100 := We.well_ok i0 (by omega)
    refine go_seq (go_setN (evN_call0 (args := fun x : List Int × Int => [D K (.list (x.1.map .int)), DI K x.2]) (pre := fun x => 0 ≤ x.2 ∧ x.2 ≤ 63) (out := fun x => .new (OL K (well x.1 x.2).d)) (ns, i) (evA_cons (ev_var rfl) (evA_cons (ev_var rfl) evA_nil)) ⟨i0, by show i ≤ 63; omega⟩ rfl) fun p => ?_)
    generalize well ns i = w at *
    dsimp only
    refine go_seq (go_set (ev_number (k := 0) (D := (p, OL K w.d) :: D0) 1100 (by simp) (ev_var rfl) w0 (by decide)) ?_)
    dsimp only
    have u0 := numW_ok w0
    generalize numR w = n at *
    generalize numW w = u at *
    refine go_seq (go_set (ev_pairs (k := 0) (n := 1103) (D := (p, OL K u.d) :: D0) (by simp) (ev_shut (k := 0) (ev_var rfl) rfl (owl_in u0)) (by decide)) ?_)
    dsimp only
    refine go_open (i := 4) rfl fun ps hps => ?_
    dsimp only [List.set]
    have sp := shaped_pairs hps.short
    refine go_seq (go_set (ev_lstL (ev_dls (ev_var rfl))) ?_)
    dsimp only [List.set]
    refine go_seq (go_set (ev_due (x := ⟨false, n, ps, 60⟩) (ev_var rfl) (ev_dls (ev_var rfl)) (ok_pairs false n hps)) ?_)
    dsimp only [List.set]
    refine go_seq (go_set (ev_sum_of (x := ⟨false, n, ps, 60⟩) (ev_var rfl) (ev_dls (ev_var rfl)) (ok_pairs false n hps)) ?_)
    dsimp only [List.set]
    refine go_seq (go_if (b := false) (or_f (not_t (ev_is_sum (ev_var rfl) (ev_var rfl) (res_l hps))) (evT_b (evT_test (ne_D (ev_dls (ev_var rfl)) (ev_dls (ev_var rfl)) sp sp)) (by rw [eqv_same hps.short]; rfl))) (fun z => nomatch z) fun _ => go_next ?_)
    dsimp only
    have ht : ∀ {G : Sto} {i : Nat}, G[i]? = some (some (DLs K (ps.map pairD))) → Ev (tRevL K (tVar i)) G ((p, OWl K 2103) :: D0) (D K (SuT.mk false n ps.reverse 60).d) ((p, OWl K 2103) :: D0) := fun h => ev_dls (ev_d2 (ev_revL (ev_dls (ev_var h))) (by rw [List.map_reverse]))
    refine go_seq (go_if (b := false) (or_f (not_t (ev_is_sum (ev_sum_of (x := ⟨true, n, ps, 60⟩) (ev_var rfl) (ev_tupL (ev_dls (ev_var rfl))) (ok_pairs true n hps)) (ev_var rfl) (res_l hps)))
      (not_t (ev_is_sum (ev_d (ev_sum_of (x := ⟨false, n, ps.reverse, 60⟩) (ev_var rfl) (ht rfl) (ok_pairs false n hps.rev)) (by show sumD n (res ps.reverse) = _; rw [res_rev])) (ev_var rfl) (res_l hps)))) (fun z => nomatch z) fun _ => go_next ?_)
    dsimp only
    have f0 : ∀ {G : Sto} {i : Nat}, G[i]? = some (some (D K (sumD n (res ps)))) → Ev (tOp (rIx K) (tVar i) (tC (.int 0))) G ((p, OWl K 2103) :: D0) (DQ K n) ((p, OWl K 2103) :: D0) := fun h => ix_T (ev_var h) ev_int rfl
    have f1 : ∀ {G : Sto} {i : Nat}, G[i]? = some (some (D K (sumD n (res ps)))) → Ev (tOp (rIx K) (tVar i) (tC (.int 1))) G ((p, OWl K 2103) :: D0) (D K (SuT.mk true n (res ps) 733).d) ((p, OWl K 2103) :: D0) := fun h => ix_T (ev_var h) ev_int rfl
    refine go_if (b := false) (or_f (not_t (ev_is_sum (ev_d (ev_sum_of (x := ⟨true, n, res ps, 733⟩) (f0 rfl) (f1 rfl) (ok_res true n hps)) (by show sumD n (res (res ps)) = _; rw [res_res])) (ev_var rfl) (res_l hps)))
      (not_t (ev_is_sum (n := n) (rs := []) (ev_d (ev_sum_of (x := ⟨false, n, [], 0⟩) (ev_var rfl) (ev_lst (ds := []) evD_nil (by simp)) (ok_none n)) rfl) (ev_tup (ds := [qT n, .tuple []]) (evD_cons (ev_var rfl) (evD_cons (ev_tup (ds := []) evD_nil (by simp)) evD_nil)) (by simp)) (by decide)))) (fun z => nomatch z) fun _ => go_next ?_
    exact (hN () trivial).weak (by walk_at "sle") (List.sublist_cons_self _ _)
  · intro s _
    exact go_ret ev_bl k
theorem pure_law (T : Txt K mg) (vs : List V) (H : Hp) (Q : VK) (X : XK) (h : sp_law K vs H Q X) : t_law K X { nx := fun _ H' => Q .non H', rt := Q } (L2.start N_law vs) H :=
  pure_of (fun x F D E hr _ hp po => by subst hr; exact walk_law hp po) h
theorem len_law (K : PySem.W.Frag) : ∀ vs H Q E, sp_law K vs H Q E → vs.length = 1 := fsp_len fun _ => rfl
end
end K04

set_option Elab.async false
set_option linter.all false
set_option maxRecDepth 100000
set_option maxHeartbeats 4000000
open PySem PySem.Spec L2 TL
namespace K04
section
variable {P : Program} {w : World} {K : PySem.W.Frag} {mg : Str → Option Value} {base : Heap}
theorem ok_is_whole (T : Txt K mg) {f : Addr} {fd : FuncData} (FD : FunD K "is_whole" "is_whole" (defArgs s_is_whole) (defBody s_is_whole) (defScope s_is_whole) [] [] f fd) : FnOk P w K mg base (L2.CX P w) 1 f fd ["thing"] (sp_is_whole K) :=
  FD.ok sc_is_whole (len_is_whole K) fun cdv A outer s H vs Q X hr h => ⟨t_is_whole K X, body_is_whole T hr, pure_is_whole T vs H Q X h⟩
theorem ok_common (T : Txt K mg) {f : Addr} {fd : FuncData} (FD : FunD K "common" "common" (defArgs s_common) (defBody s_common) (defScope s_common) [] [] f fd) : FnOk P w K mg base (L2.CX P w) 1 f fd ["one", "other"] (sp_common K) :=
  FD.ok sc_common (len_common K) fun cdv A outer s H vs Q X hr h => ⟨t_common K X, body_common T hr, pure_common T vs H Q X h⟩
theorem ok_number_of (T : Txt K mg) (F_common : Fo P w K mg base "common" ["one", "other"] [] 1 (sp_common K)) (F_is_whole : Fo P w K mg base "is_whole" ["thing"] [] 1 (sp_is_whole K)) {f : Addr} {fd : FuncData} (FD : FunD K "number_of" "number_of" (defArgs s_number_of) (defBody s_number_of) (defScope s_number_of) [.int 1] [] f fd) : FnOk P w K mg base (L2.CX P w) 2 f fd ["top", "bottom"] (sp_number_of K) :=
  FD.ok sc_number_of (len_number_of K) fun cdv A outer s H vs Q X hr h => ⟨t_number_of K X, body_number_of T F_common F_is_whole hr, pure_number_of T vs H Q X h⟩
theorem ok_plus (T : Txt K mg) (F_number_of : Fo P w K mg base "number_of" ["top", "bottom"] [] 2 (sp_number_of K)) {f : Addr} {fd : FuncData} (FD : FunD K "plus" "plus" (defArgs s_plus) (defBody s_plus) (defScope s_plus) [] [] f fd) : FnOk P w K mg base (L2.CX P w) 3 f fd ["a", "b"] (sp_plus K) :=
  FD.ok sc_plus (len_plus K) fun cdv A outer s H vs Q X hr h => ⟨t_plus K X, body_plus T F_number_of hr, pure_plus T vs H Q X h⟩
theorem ok_sum_of (T : Txt K mg) (F_plus : Fo P w K mg base "plus" ["a", "b"] [] 3 (sp_plus K)) {f : Addr} {fd : FuncData} (FD : FunD K "sum_of" "sum_of" (defArgs s_sum_of) (defBody s_sum_of) (defScope s_sum_of) [] [] f fd) : FnOk P w K mg base (L2.CX P w) 4 f fd ["number", "pairs"] (sp_sum_of K) :=
  FD.ok sc_sum_of (len_sum_of K) fun cdv A outer s H vs Q X hr h => ⟨t_sum_of K X, body_sum_of T F_plus hr, pure_sum_of T vs H Q X h⟩
theorem ok__law_well (T : Txt K mg) {f : Addr} {fd : FuncData} (FD : FunD K "_law_well" "_law_well" (defArgs s__law_well) (defBody s__law_well) (defScope s__law_well) [] [] f fd) : FnOk P w K mg base (L2.CX P w) 1 f fd ["_law_script", "_law_k"] (sp__law_well K) :=
  FD.ok sc__law_well (len__law_well K) fun cdv A outer s H vs Q X hr h => ⟨t__law_well K X, body__law_well T hr, pure__law_well T vs H Q X h⟩
theorem ok__law_take (T : Txt K mg) {f : Addr} {fd : FuncData} (FD : FunD K "_law_take" "_law_take" (defArgs s__law_take) (defBody s__law_take) (defScope s__law_take) [] [] f fd) : FnOk P w K mg base (L2.CX P w) 1 f fd ["_law_well_here", "_law_many"] (sp__law_take K) :=
  FD.ok sc__law_take (len__law_take K) fun cdv A outer s H vs Q X hr h => ⟨t__law_take K X, body__law_take T hr, pure__law_take T vs H Q X h⟩
theorem ok__law_common (T : Txt K mg) {f : Addr} {fd : FuncData} (FD : FunD K "_law_common" "_law_common" (defArgs s__law_common) (defBody s__law_common) (defScope s__law_common) [] [] f fd) : FnOk P w K mg base (L2.CX P w) 1 f fd ["_law_one", "_law_other"] (sp__law_common K) :=
  FD.ok sc__law_common (len__law_common K) fun cdv A outer s H vs Q X hr h => ⟨t__law_common K X, body__law_common T hr, pure__law_common T vs H Q X h⟩
theorem ok__law_num (T : Txt K mg) (F__law_common : Fo P w K mg base "_law_common" ["_law_one", "_law_other"] [] 1 (sp__law_common K)) {f : Addr} {fd : FuncData} (FD : FunD K "_law_num" "_law_num" (defArgs s__law_num) (defBody s__law_num) (defScope s__law_num) [] [] f fd) : FnOk P w K mg base (L2.CX P w) 2 f fd ["_law_top", "_law_bottom"] (sp__law_num K) :=
  FD.ok sc__law_num (len__law_num K) fun cdv A outer s H vs Q X hr h => ⟨t__law_num K X, body__law_num T F__law_common hr, pure__law_num T vs H Q X h⟩
theorem ok__law_add (T : Txt K mg) (F__law_num : Fo P w K mg base "_law_num" ["_law_top", "_law_bottom"] [] 2 (sp__law_num K)) {f : Addr} {fd : FuncData} (FD : FunD K "_law_add" "_law_add" (defArgs s__law_add) (defBody s__law_add) (defScope s__law_add) [] [] f fd) : FnOk P w K mg base (L2.CX P w) 3 f fd ["_law_one", "_law_other"] (sp__law_add K) :=
  FD.ok sc__law_add (len__law_add K) fun cdv A outer s H vs Q X hr h => ⟨t__law_add K X, body__law_add T F__law_num hr, pure__law_add T vs H Q X h⟩
theorem ok__law_mul (T : Txt K mg) (F__law_num : Fo P w K mg base "_law_num" ["_law_top", "_law_bottom"] [] 2 (sp__law_num K)) {f : Addr} {fd : FuncData} (FD : FunD K "_law_mul" "_law_mul" (defArgs s__law_mul) (defBody s__law_mul) (defScope s__law_mul) [] [] f fd) : FnOk P w K mg base (L2.CX P w) 3 f fd ["_law_one", "_law_other"] (sp__law_mul K) :=
  FD.ok sc__law_mul (len__law_mul K) fun cdv A outer s H vs Q X hr h => ⟨t__law_mul K X, body__law_mul T F__law_num hr, pure__law_mul T vs H Q X h⟩
theorem ok__law_number (T : Txt K mg) (F__law_num : Fo P w K mg base "_law_num" ["_law_top", "_law_bottom"] [] 2 (sp__law_num K)) (F__law_take : Fo P w K mg base "_law_take" ["_law_well_here", "_law_many"] [] 1 (sp__law_take K)) {f : Addr} {fd : FuncData} (FD : FunD K "_law_number" "_law_number" (defArgs s__law_number) (defBody s__law_number) (defScope s__law_number) [] [] f fd) : FnOk P w K mg base (L2.CX P w) 3 f fd ["_law_well_here"] (sp__law_number K) :=
  FD.ok sc__law_number (len__law_number K) fun cdv A outer s H vs Q X hr h => ⟨t__law_number K X, body__law_number T F__law_num F__law_take hr, pure__law_number T vs H Q X h⟩
theorem ok__law_whole (T : Txt K mg) {f : Addr} {fd : FuncData} (FD : FunD K "_law_whole" "_law_whole" (defArgs s__law_whole) (defBody s__law_whole) (defScope s__law_whole) [] [] f fd) : FnOk P w K mg base (L2.CX P w) 1 f fd ["_law_found"] (sp__law_whole K) :=
  FD.ok sc__law_whole (len__law_whole K) fun cdv A outer s H vs Q X hr h => ⟨t__law_whole K X, body__law_whole T hr, pure__law_whole T vs H Q X h⟩
theorem ok__law_is (T : Txt K mg) (F__law_whole : Fo P w K mg base "_law_whole" ["_law_found"] [] 1 (sp__law_whole K)) {f : Addr} {fd : FuncData} (FD : FunD K "_law_is" "_law_is" (defArgs s__law_is) (defBody s__law_is) (defScope s__law_is) [] [] f fd) : FnOk P w K mg base (L2.CX P w) 2 f fd ["_law_found", "_law_due_here"] (sp__law_is K) :=
  FD.ok sc__law_is (len__law_is K) fun cdv A outer s H vs Q X hr h => ⟨t__law_is K X, body__law_is T F__law_whole hr, pure__law_is T vs H Q X h⟩
theorem ok__law_name (T : Txt K mg) (F__law_take : Fo P w K mg base "_law_take" ["_law_well_here", "_law_many"] [] 1 (sp__law_take K)) {f : Addr} {fd : FuncData} (FD : FunD K "_law_name" "_law_name" (defArgs s__law_name) (defBody s__law_name) (defScope s__law_name) [] [] f fd) : FnOk P w K mg base (L2.CX P w) 2 f fd ["_law_well_here", "_law_most"] (sp__law_name K) :=
  FD.ok sc__law_name (len__law_name K) fun cdv A outer s H vs Q X hr h => ⟨t__law_name K X, body__law_name T F__law_take hr, pure__law_name T vs H Q X h⟩
theorem ok__law_names (T : Txt K mg) (F__law_name : Fo P w K mg base "_law_name" ["_law_well_here", "_law_most"] [] 2 (sp__law_name K)) (F__law_take : Fo P w K mg base "_law_take" ["_law_well_here", "_law_many"] [] 1 (sp__law_take K)) {f : Addr} {fd : FuncData} (FD : FunD K "_law_names" "_law_names" (defArgs s__law_names) (defBody s__law_names) (defScope s__law_names) [] [] f fd) : FnOk P w K mg base (L2.CX P w) 3 f fd ["_law_well_here", "_law_many"] (sp__law_names K) :=
  FD.ok sc__law_names (len__law_names K) fun cdv A outer s H vs Q X hr h => ⟨t__law_names K X, body__law_names T F__law_name F__law_take hr, pure__law_names T vs H Q X h⟩
theorem ok__law_is_sum (T : Txt K mg) (F__law_is : Fo P w K mg base "_law_is" ["_law_found", "_law_due_here"] [] 2 (sp__law_is K)) {f : Addr} {fd : FuncData} (FD : FunD K "_law_is_sum" "_law_is_sum" (defArgs s__law_is_sum) (defBody s__law_is_sum) (defScope s__law_is_sum) [] [] f fd) : FnOk P w K mg base (L2.CX P w) 3 f fd ["_law_found", "_law_due_here"] (sp__law_is_sum K) :=
  FD.ok sc__law_is_sum (len__law_is_sum K) fun cdv A outer s H vs Q X hr h => ⟨t__law_is_sum K X, body__law_is_sum T F__law_is hr, pure__law_is_sum T vs H Q X h⟩
theorem ok__law_pairs (T : Txt K mg) (F__law_mul : Fo P w K mg base "_law_mul" ["_law_one", "_law_other"] [] 3 (sp__law_mul K)) (F__law_names : Fo P w K mg base "_law_names" ["_law_well_here", "_law_many"] [] 3 (sp__law_names K)) (F__law_number : Fo P w K mg base "_law_number" ["_law_well_here"] [] 3 (sp__law_number K)) (F__law_take : Fo P w K mg base "_law_take" ["_law_well_here", "_law_many"] [] 1 (sp__law_take K)) {f : Addr} {fd : FuncData} (FD : FunD K "_law_pairs" "_law_pairs" (defArgs s__law_pairs) (defBody s__law_pairs) (defScope s__law_pairs) [] [] f fd) : FnOk P w K mg base (L2.CX P w) 4 f fd ["_law_well_here"] (sp__law_pairs K) :=
  FD.ok sc__law_pairs (len__law_pairs K) fun cdv A outer s H vs Q X hr h => ⟨t__law_pairs K X, body__law_pairs T F__law_mul F__law_names F__law_number F__law_take hr, pure__law_pairs T vs H Q X h⟩
theorem ok__law_due (T : Txt K mg) (F__law_add : Fo P w K mg base "_law_add" ["_law_one", "_law_other"] [] 3 (sp__law_add K)) {f : Addr} {fd : FuncData} (FD : FunD K "_law_due" "_law_due" (defArgs s__law_due) (defBody s__law_due) (defScope s__law_due) [] [] f fd) : FnOk P w K mg base (L2.CX P w) 4 f fd ["_law_number_here", "_law_pairs_here"] (sp__law_due K) :=
  FD.ok sc__law_due (len__law_due K) fun cdv A outer s H vs Q X hr h => ⟨t__law_due K X, body__law_due T F__law_add hr, pure__law_due T vs H Q X h⟩
theorem ok_law (T : Txt K mg) (F__law_due : Fo P w K mg base "_law_due" ["_law_number_here", "_law_pairs_here"] [] 4 (sp__law_due K)) (F__law_is_sum : Fo P w K mg base "_law_is_sum" ["_law_found", "_law_due_here"] [] 3 (sp__law_is_sum K)) (F__law_number : Fo P w K mg base "_law_number" ["_law_well_here"] [] 3 (sp__law_number K)) (F__law_pairs : Fo P w K mg base "_law_pairs" ["_law_well_here"] [] 4 (sp__law_pairs K)) (F__law_well : Fo P w K mg base "_law_well" ["_law_script", "_law_k"] [] 1 (sp__law_well K)) (F_sum_of : Fo P w K mg base "sum_of" ["number", "pairs"] [] 4 (sp_sum_of K)) {f : Addr} {fd : FuncData} (FD : FunD K "law" "law" (defArgs s_law) (defBody s_law) (defScope s_law) [] [] f fd) : FnOk P w K mg base (L2.CX P w) 5 f fd ["_law_script"] (sp_law K) :=
  FD.ok sc_law (len_law K) fun cdv A outer s H vs Q X hr h => ⟨t_law K X, body_law T F__law_due F__law_is_sum F__law_number F__law_pairs F__law_well F_sum_of hr, pure_law T vs H Q X h⟩
end
def d0 : He.DefD := ⟨("is_whole", none), "is_whole", "is_whole", defArgs s_is_whole, defBody s_is_whole, defScope s_is_whole, [], []⟩
def d1 : He.DefD := ⟨("common", none), "common", "common", defArgs s_common, defBody s_common, defScope s_common, [], []⟩
def d2 : He.DefD := ⟨("number_of", none), "number_of", "number_of", defArgs s_number_of, defBody s_number_of, defScope s_number_of, [(.int 1 : He.Dv)], []⟩
def d3 : He.DefD := ⟨("plus", none), "plus", "plus", defArgs s_plus, defBody s_plus, defScope s_plus, [], []⟩
def d4 : He.DefD := ⟨("sum_of", none), "sum_of", "sum_of", defArgs s_sum_of, defBody s_sum_of, defScope s_sum_of, [], []⟩
def d5 : He.DefD := ⟨("_law_well", none), "_law_well", "_law_well", defArgs s__law_well, defBody s__law_well, defScope s__law_well, [], []⟩
def d6 : He.DefD := ⟨("_law_take", none), "_law_take", "_law_take", defArgs s__law_take, defBody s__law_take, defScope s__law_take, [], []⟩
def d7 : He.DefD := ⟨("_law_common", none), "_law_common", "_law_common", defArgs s__law_common, defBody s__law_common, defScope s__law_common, [], []⟩
def d8 : He.DefD := ⟨("_law_num", none), "_law_num", "_law_num", defArgs s__law_num, defBody s__law_num, defScope s__law_num, [], []⟩
def d9 : He.DefD := ⟨("_law_add", none), "_law_add", "_law_add", defArgs s__law_add, defBody s__law_add, defScope s__law_add, [], []⟩
def d10 : He.DefD := ⟨("_law_mul", none), "_law_mul", "_law_mul", defArgs s__law_mul, defBody s__law_mul, defScope s__law_mul, [], []⟩
def d11 : He.DefD := ⟨("_law_number", none), "_law_number", "_law_number", defArgs s__law_number, defBody s__law_number, defScope s__law_number, [], []⟩
def d12 : He.DefD := ⟨("_law_whole", none), "_law_whole", "_law_whole", defArgs s__law_whole, defBody s__law_whole, defScope s__law_whole, [], []⟩
def d13 : He.DefD := ⟨("_law_is", none), "_law_is", "_law_is", defArgs s__law_is, defBody s__law_is, defScope s__law_is, [], []⟩
def d14 : He.DefD := ⟨("_law_name", none), "_law_name", "_law_name", defArgs s__law_name, defBody s__law_name, defScope s__law_name, [], []⟩
def d15 : He.DefD := ⟨("_law_names", none), "_law_names", "_law_names", defArgs s__law_names, defBody s__law_names, defScope s__law_names, [], []⟩
def d16 : He.DefD := ⟨("_law_is_sum", none), "_law_is_sum", "_law_is_sum", defArgs s__law_is_sum, defBody s__law_is_sum, defScope s__law_is_sum, [], []⟩
def d17 : He.DefD := ⟨("_law_pairs", none), "_law_pairs", "_law_pairs", defArgs s__law_pairs, defBody s__law_pairs, defScope s__law_pairs, [], []⟩
def d18 : He.DefD := ⟨("_law_due", none), "_law_due", "_law_due", defArgs s__law_due, defBody s__law_due, defScope s__law_due, [], []⟩
def d19 : He.DefD := ⟨("law", none), "law", "law", defArgs s_law, defBody s_law, defScope s_law, [], []⟩
def fn : List He.DefD := [d0, d1, d2, d3, d4, d5, d6, d7, d8, d9, d10, d11, d12, d13, d14, d15, d16, d17, d18, d19]
def fa : List He.Fa := [.free "abs", .free "bool", .free "int", .free "isinstance", .free "len", .free "list", .free "max", .free "min", .free "range", .free "sorted", .free "str", .free "tuple", .free "zip", .glo "NOUGHT", .glo "NoNumber", .glo "is_whole", .glo "common", .glo "number_of", .glo "plus", .glo "sum_of", .glo "_law_well", .glo "_law_take", .glo "_law_common", .glo "_law_num", .glo "_law_add", .glo "_law_mul", .glo "_law_number", .glo "_law_whole", .glo "_law_is", .glo "_law_name", .glo "_law_names", .glo "_law_is_sum", .glo "_law_pairs", .glo "_law_due", .glo "law"]
def ex (K : PySem.W.Frag) : Bool := (decide (dataB K (.ref (He.ga K "NOUGHT")) (.tuple [.int (0), .int (1)]) = true) && (excB K (He.ga K "NoNumber") && true))
abbrev R : PySem.W.OpenRow := PySem.W.OpenLaw.row PySem.Challenge.rw_fitwhatever_k04_sums_made
abbrev hk : PySem.W.Hook := hookZ 5 fa fn ex
def ob (s : PySem.W.SharedT) : AlZ := obsZG 5 fa fn ex (HandSHeadRun.getT s)
theorem ob_eq (s : PySem.W.SharedT) : ob s = hk.obs s.abs := obsZG_eq (HandSHeadRun.getT_eq s)
theorem run (w : World) : HandSHeadRun.RunEq R (PySem.W.view R.prog [26]) hk ob 4000 ((["FitError", "NoNumber", "is_whole", "common", "number_of", "plus", "NOUGHT", "sum_of", "_law_well", "_law_take", "_law_common", "_law_num", "_law_add", "_law_mul", "_law_number", "_law_whole", "_law_is", "_law_name", "_law_names", "_law_is_sum", "_law_pairs", "_law_due"] : List PySem.Str)) w := by
  intro os
  kernel_rfl
theorem facts {P : Program} {w : World} {K : PySem.W.Frag} {h : Heap} {mg : Str → Option Value} {f : Addr} (KX : K.In h) (G : h.Ns mainGlobals mg) (hfa : mg ("law" : Str) = some (.ref f)) (c : SaysZ fa fn ex K) :
    ∃ fd : FuncData, (∀ (s : Shared) (v : Value), BindsTo s fd ⟨[v], []⟩ [("_law_script", v)]) ∧ ∀ base : Heap, K.In base → base.Ns mainGlobals mg → FnOk P w K mg base L2.CX0 5 f fd ["_law_script"] (sp_law K) := by
  have ce := c.2
  unfold ex at ce
  simp only [Bool.and_eq_true] at ce
  obtain ⟨x0, x1, _⟩ := ce
  have T : Txt K mg := {
    b_abs := He.free_ok KX G (c.1.fact 0 rfl)
    b_bool := He.free_ok KX G (c.1.fact 1 rfl)
    b_int := He.free_ok KX G (c.1.fact 2 rfl)
    b_isinstance := He.free_ok KX G (c.1.fact 3 rfl)
    b_len := He.free_ok KX G (c.1.fact 4 rfl)
    b_list := He.free_ok KX G (c.1.fact 5 rfl)
    b_max := He.free_ok KX G (c.1.fact 6 rfl)
    b_min := He.free_ok KX G (c.1.fact 7 rfl)
    b_range := He.free_ok KX G (c.1.fact 8 rfl)
    b_sorted := He.free_ok KX G (c.1.fact 9 rfl)
    b_str := He.free_ok KX G (c.1.fact 10 rfl)
    b_tuple := He.free_ok KX G (c.1.fact 11 rfl)
    b_zip := He.free_ok KX G (c.1.fact 12 rfl)
    g_NOUGHT := He.glo_ok KX G (c.1.fact 13 rfl)
    g_NoNumber := He.glo_ok KX G (c.1.fact 14 rfl)
    c_NOUGHT := of_decide_eq_true x0
    e_NoNumber := excB_ok x1 }
  obtain ⟨fd0, FD0⟩ := c.1.def_ 0 (d := d0) rfl
  have hg0 : mg "is_whole" = some (.ref (He.ga K "is_whole")) := He.glo_ok KX G (c.1.fact 15 (f := .glo "is_whole") rfl)
  obtain ⟨fd1, FD1⟩ := c.1.def_ 1 (d := d1) rfl
  have hg1 : mg "common" = some (.ref (He.ga K "common")) := He.glo_ok KX G (c.1.fact 16 (f := .glo "common") rfl)
  obtain ⟨fd2, FD2⟩ := c.1.def_ 2 (d := d2) rfl
  have hg2 : mg "number_of" = some (.ref (He.ga K "number_of")) := He.glo_ok KX G (c.1.fact 17 (f := .glo "number_of") rfl)
  obtain ⟨fd3, FD3⟩ := c.1.def_ 3 (d := d3) rfl
  have hg3 : mg "plus" = some (.ref (He.ga K "plus")) := He.glo_ok KX G (c.1.fact 18 (f := .glo "plus") rfl)
  obtain ⟨fd4, FD4⟩ := c.1.def_ 4 (d := d4) rfl
  have hg4 : mg "sum_of" = some (.ref (He.ga K "sum_of")) := He.glo_ok KX G (c.1.fact 19 (f := .glo "sum_of") rfl)
  obtain ⟨fd5, FD5⟩ := c.1.def_ 5 (d := d5) rfl
  have hg5 : mg "_law_well" = some (.ref (He.ga K "_law_well")) := He.glo_ok KX G (c.1.fact 20 (f := .glo "_law_well") rfl)
  obtain ⟨fd6, FD6⟩ := c.1.def_ 6 (d := d6) rfl
  have hg6 : mg "_law_take" = some (.ref (He.ga K "_law_take")) := He.glo_ok KX G (c.1.fact 21 (f := .glo "_law_take") rfl)
  obtain ⟨fd7, FD7⟩ := c.1.def_ 7 (d := d7) rfl
  have hg7 : mg "_law_common" = some (.ref (He.ga K "_law_common")) := He.glo_ok KX G (c.1.fact 22 (f := .glo "_law_common") rfl)
  obtain ⟨fd8, FD8⟩ := c.1.def_ 8 (d := d8) rfl
  have hg8 : mg "_law_num" = some (.ref (He.ga K "_law_num")) := He.glo_ok KX G (c.1.fact 23 (f := .glo "_law_num") rfl)
  obtain ⟨fd9, FD9⟩ := c.1.def_ 9 (d := d9) rfl
  have hg9 : mg "_law_add" = some (.ref (He.ga K "_law_add")) := He.glo_ok KX G (c.1.fact 24 (f := .glo "_law_add") rfl)
  obtain ⟨fd10, FD10⟩ := c.1.def_ 10 (d := d10) rfl
  have hg10 : mg "_law_mul" = some (.ref (He.ga K "_law_mul")) := He.glo_ok KX G (c.1.fact 25 (f := .glo "_law_mul") rfl)
  obtain ⟨fd11, FD11⟩ := c.1.def_ 11 (d := d11) rfl
  have hg11 : mg "_law_number" = some (.ref (He.ga K "_law_number")) := He.glo_ok KX G (c.1.fact 26 (f := .glo "_law_number") rfl)
  obtain ⟨fd12, FD12⟩ := c.1.def_ 12 (d := d12) rfl
  have hg12 : mg "_law_whole" = some (.ref (He.ga K "_law_whole")) := He.glo_ok KX G (c.1.fact 27 (f := .glo "_law_whole") rfl)
  obtain ⟨fd13, FD13⟩ := c.1.def_ 13 (d := d13) rfl
  have hg13 : mg "_law_is" = some (.ref (He.ga K "_law_is")) := He.glo_ok KX G (c.1.fact 28 (f := .glo "_law_is") rfl)
  obtain ⟨fd14, FD14⟩ := c.1.def_ 14 (d := d14) rfl
  have hg14 : mg "_law_name" = some (.ref (He.ga K "_law_name")) := He.glo_ok KX G (c.1.fact 29 (f := .glo "_law_name") rfl)
  obtain ⟨fd15, FD15⟩ := c.1.def_ 15 (d := d15) rfl
  have hg15 : mg "_law_names" = some (.ref (He.ga K "_law_names")) := He.glo_ok KX G (c.1.fact 30 (f := .glo "_law_names") rfl)
  obtain ⟨fd16, FD16⟩ := c.1.def_ 16 (d := d16) rfl
  have hg16 : mg "_law_is_sum" = some (.ref (He.ga K "_law_is_sum")) := He.glo_ok KX G (c.1.fact 31 (f := .glo "_law_is_sum") rfl)
  obtain ⟨fd17, FD17⟩ := c.1.def_ 17 (d := d17) rfl
  have hg17 : mg "_law_pairs" = some (.ref (He.ga K "_law_pairs")) := He.glo_ok KX G (c.1.fact 32 (f := .glo "_law_pairs") rfl)
  obtain ⟨fd18, FD18⟩ := c.1.def_ 18 (d := d18) rfl
  have hg18 : mg "_law_due" = some (.ref (He.ga K "_law_due")) := He.glo_ok KX G (c.1.fact 33 (f := .glo "_law_due") rfl)
  obtain ⟨fd19, FD19⟩ := c.1.def_ 19 (d := d19) rfl
  have e := hfa.symm.trans (He.glo_ok KX G (c.1.fact 34 (f := .glo "law") rfl))
  cases e
  have b := FunD.bindsA (ps := ["_law_script"]) FD19 fun _ _ _ _ _ _ us hl => match us, hl with | [_], _ => rfl
  refine ⟨fd19, fun s v => b s [v] rfl, fun base _ _ => ?_⟩
  have O0 := ok_is_whole (P := P) (w := w) (base := base) T FD0
  have F_is_whole := fo_mk FD0 hg0 O0 (fun _ _ _ _ _ _ us hl => match us, hl with | [_], _ => rfl)
  have O1 := ok_common (P := P) (w := w) (base := base) T FD1
  have F_common := fo_mk FD1 hg1 O1 (fun _ _ _ _ _ _ us hl => match us, hl with | [_, _], _ => rfl)
  have O2 := ok_number_of (P := P) (w := w) (base := base) T F_common F_is_whole FD2
  have F_number_of := fo_mkD FD2 hg2 O2 2 1 (List.cons_ne_nil _ _) rfl (fun _ _ _ _ _ _ _ us its hl hl2 => match us, its, hl, hl2 with | [_, _], [_], _, _ => ⟨_, rfl, rfl⟩)
  have O3 := ok_plus (P := P) (w := w) (base := base) T F_number_of FD3
  have F_plus := fo_mk FD3 hg3 O3 (fun _ _ _ _ _ _ us hl => match us, hl with | [_, _], _ => rfl)
  have O4 := ok_sum_of (P := P) (w := w) (base := base) T F_plus FD4
  have F_sum_of := fo_mk FD4 hg4 O4 (fun _ _ _ _ _ _ us hl => match us, hl with | [_, _], _ => rfl)
  have O5 := ok__law_well (P := P) (w := w) (base := base) T FD5
  have F__law_well := fo_mk FD5 hg5 O5 (fun _ _ _ _ _ _ us hl => match us, hl with | [_, _], _ => rfl)
  have O6 := ok__law_take (P := P) (w := w) (base := base) T FD6
  have F__law_take := fo_mk FD6 hg6 O6 (fun _ _ _ _ _ _ us hl => match us, hl with | [_, _], _ => rfl)
  have O7 := ok__law_common (P := P) (w := w) (base := base) T FD7
  have F__law_common := fo_mk FD7 hg7 O7 (fun _ _ _ _ _ _ us hl => match us, hl with | [_, _], _ => rfl)
  have O8 := ok__law_num (P := P) (w := w) (base := base) T F__law_common FD8
  have F__law_num := fo_mk FD8 hg8 O8 (fun _ _ _ _ _ _ us hl => match us, hl with | [_, _], _ => rfl)
  have O9 := ok__law_add (P := P) (w := w) (base := base) T F__law_num FD9
  have F__law_add := fo_mk FD9 hg9 O9 (fun _ _ _ _ _ _ us hl => match us, hl with | [_, _], _ => rfl)
  have O10 := ok__law_mul (P := P) (w := w) (base := base) T F__law_num FD10
  have F__law_mul := fo_mk FD10 hg10 O10 (fun _ _ _ _ _ _ us hl => match us, hl with | [_, _], _ => rfl)
  have O11 := ok__law_number (P := P) (w := w) (base := base) T F__law_num F__law_take FD11
  have F__law_number := fo_mk FD11 hg11 O11 (fun _ _ _ _ _ _ us hl => match us, hl with | [_], _ => rfl)
  have O12 := ok__law_whole (P := P) (w := w) (base := base) T FD12
  have F__law_whole := fo_mk FD12 hg12 O12 (fun _ _ _ _ _ _ us hl => match us, hl with | [_], _ => rfl)
  have O13 := ok__law_is (P := P) (w := w) (base := base) T F__law_whole FD13
  have F__law_is := fo_mk FD13 hg13 O13 (fun _ _ _ _ _ _ us hl => match us, hl with | [_, _], _ => rfl)
  have O14 := ok__law_name (P := P) (w := w) (base := base) T F__law_take FD14
  have F__law_name := fo_mk FD14 hg14 O14 (fun _ _ _ _ _ _ us hl => match us, hl with | [_, _], _ => rfl)
  have O15 := ok__law_names (P := P) (w := w) (base := base) T F__law_name F__law_take FD15
  have F__law_names := fo_mk FD15 hg15 O15 (fun _ _ _ _ _ _ us hl => match us, hl with | [_, _], _ => rfl)
  have O16 := ok__law_is_sum (P := P) (w := w) (base := base) T F__law_is FD16
  have F__law_is_sum := fo_mk FD16 hg16 O16 (fun _ _ _ _ _ _ us hl => match us, hl with | [_, _], _ => rfl)
  have O17 := ok__law_pairs (P := P) (w := w) (base := base) T F__law_mul F__law_names F__law_number F__law_take FD17
  have F__law_pairs := fo_mk FD17 hg17 O17 (fun _ _ _ _ _ _ us hl => match us, hl with | [_], _ => rfl)
  have O18 := ok__law_due (P := P) (w := w) (base := base) T F__law_add FD18
  have F__law_due := fo_mk FD18 hg18 O18 (fun _ _ _ _ _ _ us hl => match us, hl with | [_, _], _ => rfl)
  exact calm_fn (ok_law T F__law_due F__law_is_sum F__law_number F__law_pairs F__law_well F_sum_of FD19) lawSp_E
end K04
open PySem PySem.W PySem.Calls PyProof.Rows
set_option maxRecDepth 100000 in
set_option maxHeartbeats 0 in
theorem PySem.Challenge.cw_fitwhatever_k04_sums_made_holds : PySem.Challenge.rw_fitwhatever_k04_sums_made.Holds := by
  w_on; o_law
  refine HandSHeadRun.head_any (r := OpenLaw.row PySem.Challenge.rw_fitwhatever_k04_sums_made) (q := view (OpenLaw.row PySem.Challenge.rw_fitwhatever_k04_sums_made).prog [26]) (H := K04.hk) (ob := K04.ob) (M := 4000) (loose := (["FitError", "NoNumber", "is_whole", "common", "number_of", "plus", "NOUGHT", "sum_of", "_law_well", "_law_take", "_law_common", "_law_num", "_law_add", "_law_mul", "_law_number", "_law_whole", "_law_is", "_law_name", "_law_names", "_law_is_sum", "_law_pairs", "_law_due"] : List PySem.Str)) (d := HandSHeadRun.topDef (OpenLaw.row PySem.Challenge.rw_fitwhatever_k04_sums_made).prog 26) (kwd := []) K04.ob_eq
    (by kernel_rfl) (fun s => by kernel_rfl) K04.run (by kernel_rfl) (by kernel_rfl) (by kernel_rfl) (by rfl) (by first | assumption | decide +kernel) (by decide +kernel) ⟨rfl, rfl, rfl, rfl, rfl, by decide +kernel⟩ ?hw ?hc
  case hw => w_witness2
  case hc =>
    refine L2.walk_ofE (l := PySem.Challenge.rw_fitwhatever_k04_sums_made) (n := 63) (k := 5) (x := "_law_script") (CX := L2.CX0) rfl (by decide) (by kernel_rfl) ⟨rfl, by decide, by decide⟩ ?F ?X
    case X => exact fun _ _ _ _ z => z
    case F =>
      intro w mg fa h Y G hmg0
      obtain ⟨K, KX, c⟩ := Y
      have hmg : mg ("law" : PySem.Str) = some (.ref fa) := by
        have e : (HandSHeadRun.topDef (OpenLaw.row PySem.Challenge.rw_fitwhatever_k04_sums_made).prog 26).name = ("law" : PySem.Str) := by kernel_rfl
        rw [← e]
        exact hmg0
      obtain ⟨fd, hb, hF⟩ := K04.facts (P := (PySem.Challenge.rw_fitwhatever_k04_sums_made).prog) (w := w) KX G hmg c
      exact ⟨K, fd, K04.sp_law K, KX, hb, fun H a ns hl _ hS => TL.law_sp hl hS, hF⟩
